import PyProof.Rows.All
import Wide.All
import OpenK.AllK
import Wide.FinOn
import KE.KStateDown
import Lean
import HandS.ForMost
import HandS.ForExc
import HandS.Wide
import HandS.TupAny
import HandS.IsInst
import HandS.Defaults
import HandS.CallSlots
import HandS.Zip
import HandS.Style
import HandS.Head0
import HandS.Head1
import HandS.Head2
import HandS.HeadEnd
import HandS.HeadHook1
import HandS.HeadHook2
import HandS.Nested
import HandS.HeadHook3
import HandS.HeadHook4
import HandS.ExcInit
import HandS.ExcSuper
import HandS.FStr
import HandS.TryMany
import KE.KExcSuper
import HandS.ExcField
import HandS.ExcOwn
import HandS.RaiseMore
import HandS.EndTab
import HandS.Steps
import HandS.Deep
import HandS.Property
import HandS.Codes
import HandS.Star
import KE.GoesEnum
import HandS.TupMul
import PySem.Challenge.RW_amongliars_k29_errors_of_works_as_object
set_option Elab.async false
set_option linter.all false
set_option maxRecDepth 100000
set_option maxHeartbeats 4000000
/-! A pure reading of Python code: values D, a store, results; each construct of the hand layer as a rule that speaks of such values alone. -/
namespace G
open PySem PySem.Spec PyProof.Rows L2

/-- the built-in types that are named -/
inductive Ty where
  | int | bool | str | tuple | list | dict | none | set | float
  deriving DecidableEq
def Ty.name : Ty → String
  | .int => "int" | .bool => "bool" | .str => "str" | .tuple => "tuple" | .list => "list" | .dict => "dict" | .none => "NoneType" | .set => "set" | .float => "float"
/-- values -/
inductive D where
  | non | bl (b : Bool) | int (i : Int) | str (s : List Nat) | ty (t : Ty)
  | glo (k : Nat) | ref (n : Nat)
  | tup (ds : List D) | lst (ds : List D)
  | clo (k : Nat) (ds : List D)
  | dic (ks : List Key) (ds : List D)
  | ins (k : Nat) (ns : List Str) (ds : List D)

/-- objects that may change -/
inductive SO where
  | lst (ds : List D)
  | dic (ks : List Key) (ds : List D)
  | ins (k : Nat) (ns : List Str) (ds : List D)
abbrev Sto := List SO
/-- an exception: its class, by the number of the global; its fields -/
structure Exc where
  cls : Nat
  fs : List (Str × D)
inductive Res (α : Type) where
  | ok (a : α) (st : Sto) | exc (x : Exc) (st : Sto) | bad
def Res.bind {α β : Type} (r : Res α) (k : α → Sto → Res β) : Res β := match r with
  | .ok a st => k a st
  | .exc x st => .exc x st
  | .bad => .bad
abbrev Env := List (Option D)
abbrev Ev := Env → Sto → Res D
abbrev EvA := Env → Sto → Res (List D)
abbrev EvT := Env → Sto → Res Bool
abbrev Fn := List D → Sto → Res D

/-- the text of a lambda, the cells that it captured -/
structure LamT where
  qual : Str
  params : Arguments
  body : Expr
  scope : Scope
  cells : List (Str × Addr)
/-- what is fixed: the written part, the addresses of the globals by number, what is being made, the lambdas by number, the tables of code objects -/
structure Cfg where
  K : PySem.W.Frag
  gl : Nat → Option Addr
  hot : List Addr
  lam : Nat → Option (LamT × List V)
  tabs : List (Addr × Str)
/-- the object at a is a function made of the lambda t, its code object at c -/
def LamO (a c : Addr) (t : LamT) : HO := .ext fun h => ∃ pm ct : Value, h.get? a = some (PySem.W.kla_obj "<lambda>" t.qual t.params t.body t.scope t.cells pm c ct)
def CloAt (η : List Addr) (hot : List Addr) (H : Hp) (t : LamT) (a : Addr) : Prop := ∃ c, a ∉ η ∧ a ∉ hot ∧ c ∉ η ∧ c ∉ hot ∧ H a = some (LamO a c t) ∧ H c = some (LamX.CodeO c t.qual)

/-! ### what stands for what -/
/-- of the written part -/
def KLst (K : PySem.W.Frag) (a : Addr) (xs : List V) : Prop := ∃ (o : Obj) (its : Array Value) (n : Nat), K.lookup a = some o ∧ o.cls = .type "list" ∧ o.dict = none ∧ o.data = .seq its n ∧ its.size ≤ sizeLine ∧ Vals xs its.toList
def KTup (K : PySem.W.Frag) (a : Addr) (xs : List V) : Prop := ∃ (o : Obj) (its : Array Value) (n : Nat), K.lookup a = some o ∧ o.cls = .type "tuple" ∧ o.data = .seq its n ∧ its.size ≤ sizeLine ∧ Vals xs its.toList
/-- a list, a tuple at a that nothing changes -/
def TupAt (C : Cfg) (η : List Addr) (H : Hp) (a : Addr) (vs : List V) : Prop := (a ∉ η ∧ a ∉ C.hot ∧ Rd H a (.tup vs)) ∨ KTup C.K a vs
def LstAt (C : Cfg) (η : List Addr) (H : Hp) (a : Addr) (vs : List V) : Prop := (a ∉ η ∧ a ∉ C.hot ∧ Rd H a (.lst vs)) ∨ KLst C.K a vs
mutual
def Rep (C : Cfg) (η : List Addr) (H : Hp) : D → V → Prop
  | .non, v => v = .non
  | .bl b, v => v = .bl b
  | .int i, v => v = .int i
  | .str s, v => v = .str ⟨s.toArray⟩
  | .ty t, v => v = .ty t.name
  | .glo k, v => ∃ a, C.gl k = some a ∧ v = .ref a
  | .ref n, v => ∃ a, η[n]? = some a ∧ v = .ref a
  | .tup ds, v => ∃ a vs, v = .ref a ∧ TupAt C η H a vs ∧ RepL C η H ds vs
  | .lst ds, v => ∃ a vs, v = .ref a ∧ LstAt C η H a vs ∧ RepL C η H ds vs
  | .clo k ds, v => ∃ a t ws, v = .ref a ∧ C.lam k = some (t, ws) ∧ CloAt η C.hot H t a ∧ RepL C η H ds ws
  | .dic ks ds, v => ∃ a kvs, v = .ref a ∧ (a ∉ η ∧ a ∉ C.hot ∧ Rd H a (.dK kvs)) ∧ kvs.map (·.1) = ks ∧ RepL C η H ds (kvs.map (·.2))
  | .ins k ns ds, v => ∃ a c dx fs, v = .ref a ∧ (a ∉ η ∧ a ∉ C.hot ∧ H a = some (.ins c dx fs)) ∧ C.gl k = some c ∧ fs.map (·.1) = ns ∧ RepL C η H ds (fs.map (·.2))
def RepL (C : Cfg) (η : List Addr) (H : Hp) : List D → List V → Prop
  | [], vs => vs = []
  | d :: ds, vs => ∃ v r, vs = v :: r ∧ Rep C η H d v ∧ RepL C η H ds r
end
def SOk (C : Cfg) (η : List Addr) (H : Hp) (a : Addr) : SO → Prop
  | .lst ds => ∃ vs, H a = some (.lst vs) ∧ RepL C η H ds vs
  | .dic ks ds => ∃ kvs, H a = some (.dK kvs) ∧ kvs.map (·.1) = ks ∧ RepL C η H ds (kvs.map (·.2))
  | .ins k ns ds => ∃ c dx fs, H a = some (.ins c dx fs) ∧ C.gl k = some c ∧ fs.map (·.1) = ns ∧ RepL C η H ds (fs.map (·.2))
/-- of the kinds that may change -/
def Mut : HO → Prop
  | .lst _ => True
  | .dK _ => True
  | .ins _ _ _ => True
  | _ => False
structure StOk (C : Cfg) (η : List Addr) (st : Sto) (H : Hp) : Prop where
  len : η.length = st.length
  nd : η.Nodup
  ok : ∀ (n : Nat) (a : Addr) (o : SO), η[n]? = some a → st[n]? = some o → SOk C η H a o
  hot : ∀ a ∈ C.hot, a ∉ η ∧ ∃ o, H a = some o ∧ Mut o
  tab : LamX.Tabs C.tabs H
def NoTab (o : HO) : Prop := ∀ ps, o ≠ .tbl ps
/-- from (η, H) on to (η', H') -/
structure Step (η : List Addr) (H : Hp) (η' : List Addr) (H' : Hp) : Prop where
  ext : ∃ t, η' = η ++ t ∧ ∀ p ∈ t, H p = none
  keep : ∀ a o, H a = some o → a ∉ η → NoTab o → H' a = some o
  dom : ∀ a, H' a = none → H a = none
section
variable {C : Cfg} {η η' η1 η2 : List Addr} {H H' H1 H2 : Hp} {st st' : Sto} {a : Addr} {d : D} {v : V} {ds : List D} {vs : List V}
theorem TupAt.sq (h : TupAt C η H a vs) : SqT C.K H a vs := by
  rcases h with ⟨_, _, h⟩ | h
  · exact .inl h
  · exact .inr h
theorem LstAt.sq (h : LstAt C η H a vs) : SqL C.K H a vs := by
  rcases h with ⟨_, _, h⟩ | h
  · exact .inl h
  · exact .inr h
theorem lamO_tab {a c : Addr} {t : LamT} : NoTab (LamO a c t) := fun ps z => by
  unfold LamO at z
  cases z
theorem Step.refl : Step η H η H := ⟨⟨[], by simp, by simp⟩, fun _ _ h _ _ => h, fun _ h => h⟩
theorem Step.nin (s : Step η H η' H') {o : HO} (h : H a = some o) (n : a ∉ η) : a ∉ η' := by
  obtain ⟨t, rfl, ht⟩ := s.ext
  intro m
  rcases List.mem_append.mp m with m | m
  · exact n m
  · rw [ht a m] at h
    cases h
theorem Step.trans (s : Step η H η1 H1) (s2 : Step η1 H1 η2 H2) : Step η H η2 H2 := by
  refine ⟨?_, fun a o h n q => s2.keep a o (s.keep a o h n q) (s.nin h n) q, fun a h => s.dom a (s2.dom a h)⟩
  obtain ⟨t, rfl, ht⟩ := s.ext
  obtain ⟨t2, rfl, ht2⟩ := s2.ext
  refine ⟨t ++ t2, by simp, fun p hp => ?_⟩
  rcases List.mem_append.mp hp with m | m
  · exact ht p m
  · exact s.dom p (ht2 p m)
theorem Step.ref (s : Step η H η' H') {n : Nat} (h : η[n]? = some a) : η'[n]? = some a := by
  obtain ⟨t, rfl, _⟩ := s.ext
  rw [List.getElem?_append_left (List.getElem?_eq_some_iff.mp h).1]
  exact h
theorem Step.rd (s : Step η H η' H') {u : HO} (n : a ∉ η) (q : NoTab u) (h : Rd H a u) : a ∉ η' ∧ Rd H' a u := by
  rcases h with h | ⟨o, h⟩
  · exact ⟨s.nin h n, .inl (s.keep _ _ h n q)⟩
  · exact ⟨s.nin h n, .inr ⟨o, s.keep _ _ h n fun ps z => by cases z⟩⟩
theorem CloAt.mono {t : LamT} {hot : List Addr} (s : Step η H η' H') (h : CloAt η hot H t a) : CloAt η' hot H' t a := by
  obtain ⟨c, n1, n2, n3, n4, e1, e2⟩ := h
  exact ⟨c, s.nin e1 n1, n2, s.nin e2 n3, n4, s.keep _ _ e1 n1 lamO_tab, s.keep _ _ e2 n3 fun ps => LamX.codeO_ne ps⟩
theorem TupAt.mono (s : Step η H η' H') (h : TupAt C η H a vs) : TupAt C η' H' a vs := by
  rcases h with ⟨n, m, h⟩ | h
  · exact .inl ⟨(s.rd n (fun ps z => by cases z) h).1, m, (s.rd n (fun ps z => by cases z) h).2⟩
  · exact .inr h
theorem LstAt.mono (s : Step η H η' H') (h : LstAt C η H a vs) : LstAt C η' H' a vs := by
  rcases h with ⟨n, m, h⟩ | h
  · exact .inl ⟨(s.rd n (fun ps z => by cases z) h).1, m, (s.rd n (fun ps z => by cases z) h).2⟩
  · exact .inr h
theorem RdAt.mono {hot : List Addr} {o : HO} (s : Step η H η' H') (nt : NoTab o) (h : a ∉ η ∧ a ∉ hot ∧ Rd H a o) : a ∉ η' ∧ a ∉ hot ∧ Rd H' a o := ⟨(s.rd h.1 nt h.2.2).1, h.2.1, (s.rd h.1 nt h.2.2).2⟩
theorem ObAt.mono {hot : List Addr} {o : HO} (s : Step η H η' H') (nt : NoTab o) (h : a ∉ η ∧ a ∉ hot ∧ H a = some o) : a ∉ η' ∧ a ∉ hot ∧ H' a = some o := ⟨s.nin h.2.2 h.1, h.2.1, s.keep _ _ h.2.2 h.1 nt⟩
mutual
theorem Rep.mono (s : Step η H η' H') : ∀ {d : D} {v : V}, Rep C η H d v → Rep C η' H' d v
  | .non, _, h => h
  | .bl _, _, h => h
  | .int _, _, h => h
  | .str _, _, h => h
  | .ty _, _, h => h
  | .glo _, _, h => h
  | .ref _, _, h => by
    rw [Rep] at h ⊢
    obtain ⟨a, e, r⟩ := h
    exact ⟨a, s.ref e, r⟩
  | .tup ds, _, h => by
    rw [Rep] at h ⊢
    obtain ⟨a, vs, e, t, r⟩ := h
    exact ⟨a, vs, e, t.mono s, RepL.mono s r⟩
  | .lst ds, _, h => by
    rw [Rep] at h ⊢
    obtain ⟨a, vs, e, t, r⟩ := h
    exact ⟨a, vs, e, t.mono s, RepL.mono s r⟩
  | .clo _ ds, _, h => by
    rw [Rep] at h ⊢
    obtain ⟨a, t, ws, e, l, q, r⟩ := h
    exact ⟨a, t, ws, e, l, q.mono s, RepL.mono s r⟩
  | .dic _ ds, _, h => by
    rw [Rep] at h ⊢
    obtain ⟨a, kvs, e, q, e2, r⟩ := h
    exact ⟨a, kvs, e, RdAt.mono s (fun _ z => by cases z) q, e2, RepL.mono s r⟩
  | .ins _ _ ds, _, h => by
    rw [Rep] at h ⊢
    obtain ⟨a, c, dx, fs, e, q, g, e2, r⟩ := h
    exact ⟨a, c, dx, fs, e, ObAt.mono s (fun _ z => by cases z) q, g, e2, RepL.mono s r⟩
theorem RepL.mono (s : Step η H η' H') : ∀ {ds : List D} {vs : List V}, RepL C η H ds vs → RepL C η' H' ds vs
  | [], _, h => h
  | d :: ds, _, h => by
    rw [RepL] at h ⊢
    obtain ⟨v, r, e, h1, h2⟩ := h
    exact ⟨v, r, e, Rep.mono s h1, RepL.mono s h2⟩
end
theorem RepL.length : ∀ {ds : List D} {vs : List V}, RepL C η H ds vs → ds.length = vs.length
  | [], _, h => by
    rw [RepL] at h
    subst h
    rfl
  | d :: ds, _, h => by
    rw [RepL] at h
    obtain ⟨v, r, e, h1, h2⟩ := h
    subst e
    rw [List.length_cons, List.length_cons, RepL.length h2]
theorem RepL.get : ∀ {ds : List D} {vs : List V} {i : Nat} {d : D}, RepL C η H ds vs → ds[i]? = some d → ∃ v, vs[i]? = some v ∧ Rep C η H d v
  | [], _, _, _, _, e => by simp at e
  | d :: ds, _, i, x, h, e => by
    rw [RepL] at h
    obtain ⟨v, r, rfl, h1, h2⟩ := h
    cases i with
    | zero =>
      simp at e
      subst e
      exact ⟨v, by simp, h1⟩
    | succ i =>
      obtain ⟨u, e2, q⟩ := RepL.get (i := i) h2 (by simpa using e)
      exact ⟨u, by simpa using e2, q⟩
theorem RepL.getV : ∀ {ds : List D} {vs : List V} {i : Nat} {v : V}, RepL C η H ds vs → vs[i]? = some v → ∃ d, ds[i]? = some d ∧ Rep C η H d v
  | [], _, _, _, h, e => by
    rw [RepL] at h
    subst h
    simp at e
  | d :: ds, _, i, x, h, e => by
    rw [RepL] at h
    obtain ⟨v, r, rfl, h1, h2⟩ := h
    cases i with
    | zero =>
      simp at e
      subst e
      exact ⟨d, by simp, h1⟩
    | succ i =>
      obtain ⟨u, e2, q⟩ := RepL.getV (i := i) h2 (by simpa using e)
      exact ⟨u, by simpa using e2, q⟩
theorem RepL.append : ∀ {ds es : List D} {vs us : List V}, RepL C η H ds vs → RepL C η H es us → RepL C η H (ds ++ es) (vs ++ us)
  | [], _, _, _, h, h' => by
    rw [RepL] at h
    subst h
    exact h'
  | d :: ds, _, _, _, h, h' => by
    rw [RepL] at h
    obtain ⟨v, r, rfl, h1, h2⟩ := h
    rw [List.cons_append, List.cons_append, RepL]
    exact ⟨v, _, rfl, h1, RepL.append h2 h'⟩
theorem RepL.one (h : Rep C η H d v) : RepL C η H [d] [v] := by
  rw [RepL]
  exact ⟨v, [], rfl, h, by rw [RepL]⟩
theorem RepL.nil : RepL C η H [] [] := by rw [RepL]
theorem RepL.cons (h : Rep C η H d v) (h' : RepL C η H ds vs) : RepL C η H (d :: ds) (v :: vs) := by
  rw [RepL]
  exact ⟨v, vs, rfl, h, h'⟩
theorem RepL.set : ∀ {ds : List D} {vs : List V} (i : Nat), RepL C η H ds vs → Rep C η H d v → RepL C η H (ds.set i d) (vs.set i v)
  | [], _, _, h, _ => by
    rw [RepL] at h
    subst h
    exact RepL.nil
  | e :: ds, _, i, h, q => by
    rw [RepL] at h
    obtain ⟨u, r, rfl, h1, h2⟩ := h
    cases i with
    | zero => exact RepL.cons q h2
    | succ i => exact RepL.cons h1 (RepL.set i h2 q)
theorem RepL.take : ∀ {ds : List D} {vs : List V} (n : Nat), RepL C η H ds vs → RepL C η H (ds.take n) (vs.take n)
  | [], _, _, h => by
    rw [RepL] at h
    subst h
    simp only [List.take_nil]
    exact RepL.nil
  | e :: ds, _, i, h => by
    rw [RepL] at h
    obtain ⟨u, r, rfl, h1, h2⟩ := h
    cases i with
    | zero => exact RepL.nil
    | succ i => exact RepL.cons h1 (RepL.take i h2)
theorem RepL.drop : ∀ {ds : List D} {vs : List V} (n : Nat), RepL C η H ds vs → RepL C η H (ds.drop n) (vs.drop n)
  | [], _, _, h => by
    rw [RepL] at h
    subst h
    simp only [List.drop_nil]
    exact RepL.nil
  | e :: ds, _, i, h => by
    rw [RepL] at h
    obtain ⟨u, r, rfl, h1, h2⟩ := h
    cases i with
    | zero => exact RepL.cons h1 h2
    | succ i => exact RepL.drop i h2
theorem RepL.reverse : ∀ {ds : List D} {vs : List V}, RepL C η H ds vs → RepL C η H ds.reverse vs.reverse
  | [], _, h => by
    rw [RepL] at h
    subst h
    exact RepL.nil
  | e :: ds, _, h => by
    rw [RepL] at h
    obtain ⟨u, r, rfl, h1, h2⟩ := h
    rw [List.reverse_cons, List.reverse_cons]
    exact RepL.append (RepL.reverse h2) (RepL.one h1)
theorem SOk.mono {o : SO} (s : Step η H η' H') (e : H' a = H a) (h : SOk C η H a o) : SOk C η' H' a o := by
  cases o with
  | lst ds =>
    obtain ⟨vs, q, r⟩ := h
    exact ⟨vs, e.trans q, r.mono s⟩
  | dic ks ds =>
    obtain ⟨kvs, q, n, r⟩ := h
    exact ⟨kvs, e.trans q, n, r.mono s⟩
  | ins k ns ds =>
    obtain ⟨c, dx, fs, q, g, n, r⟩ := h
    exact ⟨c, dx, fs, e.trans q, g, n, r.mono s⟩
theorem SOk.mut {o : SO} (h : SOk C η H a o) : ∃ u, H a = some u ∧ Mut u := by
  cases o with
  | lst ds =>
    obtain ⟨vs, q, r⟩ := h
    exact ⟨_, q, trivial⟩
  | dic ks ds =>
    obtain ⟨kvs, q, _⟩ := h
    exact ⟨_, q, trivial⟩
  | ins k ns ds =>
    obtain ⟨c, dx, fs, q, _⟩ := h
    exact ⟨_, q, trivial⟩
theorem SOk.some {o : SO} (h : SOk C η H a o) : ∃ u, H a = some u := h.mut.imp fun _ z => z.1
theorem Mut.noTab {o : HO} (m : Mut o) : NoTab o := fun ps z => by
  subst z
  exact m
theorem StOk.cold (k : StOk C η st H) (h : a ∈ C.hot) : H a ≠ none := fun z => by
  obtain ⟨o, e, _⟩ := (k.hot a h).2
  rw [z] at e
  cases e
theorem StOk.at_ (k : StOk C η st H) {n : Nat} {o : SO} (h : st[n]? = some o) : ∃ a, η[n]? = some a ∧ SOk C η H a o := by
  have hn : n < η.length := by
    rw [k.len]
    exact (List.getElem?_eq_some_iff.mp h).1
  exact ⟨η[n], by simp [hn], k.ok n _ o (by simp [hn]) h⟩
theorem StOk.there (k : StOk C η st H) (h : a ∈ η) : ∃ u, H a = some u := by
  obtain ⟨n, hn, rfl⟩ := List.getElem_of_mem h
  have h2 : n < st.length := by
    rw [← k.len]
    exact hn
  exact (k.ok n _ st[n] (by simp [hn]) (by simp [h2])).some
/-- a new thing that nothing changes -/
theorem Step.new {p : Addr} {o : HO} (h : H p = none) : Step η H η (upd H p o) := ⟨⟨[], by simp, by simp⟩, fun b u e _ _ => by rw [upd_ne (ne_of_none e h)]; exact e, fun b e => by
  by_cases hb : b = p
  · subst hb
    exact h
  · rw [upd_ne hb] at e
    exact e⟩
theorem StOk.stay (k : StOk C η st H) (s : Step η H η H') (t : LamX.Tabs C.tabs H') (e : ∀ a ∈ η, H' a = H a) : StOk C η st H' :=
  ⟨k.len, k.nd, fun n a o h1 h2 => (k.ok n a o h1 h2).mono s (e a (List.mem_of_getElem? h1)), fun a ha => ⟨(k.hot a ha).1, (k.hot a ha).2.imp fun o e => ⟨s.keep _ _ e.1 (k.hot a ha).1 e.2.noTab, e.2⟩⟩, t⟩
theorem StOk.new (k : StOk C η st H) {p : Addr} {o : HO} (h : H p = none) : StOk C η st (upd H p o) := k.stay (Step.new h) (k.tab.ext fun b u e => by rw [upd_ne (ne_of_none e h)]; exact e) fun a ha => by
  obtain ⟨u, e⟩ := k.there ha
  rw [upd_ne (ne_of_none e h)]
theorem StOk.hot_push (k : StOk C η st H) {p b : Addr} {u : HO} (h : H p = none) (hb : b ∈ C.hot) : b ∉ η ++ [p] ∧ ∃ o, upd H p u b = some o ∧ Mut o := by
  obtain ⟨n, o, e, mu⟩ := k.hot b hb
  refine ⟨fun m => ?_, o, by rw [upd_ne (ne_of_none e h)]; exact e, mu⟩
  rcases List.mem_append.mp m with m | m
  · exact n m
  · rw [List.mem_singleton] at m
    rw [m, h] at e
    cases e
theorem StOk.hot_put (k : StOk C η st H) {n : Nat} {b : Addr} {u : HO} (h1 : η[n]? = some a) (hb : b ∈ C.hot) : b ∉ η ∧ ∃ o, upd H a u b = some o ∧ Mut o := by
  obtain ⟨no, o, e, mu⟩ := k.hot b hb
  refine ⟨no, o, ?_, mu⟩
  rw [upd_ne fun z => no (by rw [z]; exact List.mem_of_getElem? h1)]
  exact e
/-- a new object of the store -/
theorem Step.push {p : Addr} {o : HO} (h : H p = none) : Step η H (η ++ [p]) (upd H p o) := ⟨⟨[p], rfl, fun q hq => by
  have e : q = p := by simpa using hq
  rw [e]
  exact h⟩, (Step.new (η := η) h).keep, (Step.new (η := η) h).dom⟩
theorem StOk.push (k : StOk C η st H) {p : Addr} {o : SO} {u : HO} (h : H p = none) (new : SOk C (η ++ [p]) (upd H p u) p o) : StOk C (η ++ [p]) (st ++ [o]) (upd H p u) := by
  have np : p ∉ η := fun m => by
    obtain ⟨w, e⟩ := k.there m
    rw [h] at e
    cases e
  refine ⟨by simp [k.len], ?_, fun n a x h1 h2 => ?_, fun b hb => k.hot_push h hb, k.tab.ext fun b u e => by rw [upd_ne (ne_of_none e h)]; exact e⟩
  · rw [List.nodup_append]
    exact ⟨k.nd, by simp, fun a ha b hb => by
      have e : b = p := by simpa using hb
      rw [e]
      exact fun z => np (z ▸ ha)⟩
  · by_cases hn : n < η.length
    · rw [List.getElem?_append_left hn] at h1
      rw [List.getElem?_append_left (by rw [← k.len]; exact hn)] at h2
      have q := k.ok n a x h1 h2
      obtain ⟨w, e⟩ := q.some
      exact q.mono (Step.push h) (by rw [upd_ne (ne_of_none e h)])
    · have hl : n < (η ++ [p]).length := (List.getElem?_eq_some_iff.mp h1).1
      have e : n = η.length := by
        simp at hl
        omega
      subst e
      have e1 : p = a := by simpa using h1
      have e2 : o = x := by
        rw [k.len] at h2
        simpa using h2
      subst e1 e2
      exact new
/-- an object of the store is changed -/
theorem tab_upd {u o : HO} {P : Addr} {q : Str} (e : H a = some o) (m : Mut o) (t : LamX.TabS H P q) : LamX.TabS (upd H a u) P q := by
  obtain ⟨ps, h1, h2, h3⟩ := t
  refine ⟨ps, by rw [upd_ne (fun z => by rw [z, e] at h1; cases h1; exact m)]; exact h1, h2, fun pos cv hc => ?_⟩
  obtain ⟨c, q1, q2⟩ := h3 pos cv hc
  refine ⟨c, q1, ?_⟩
  rw [upd_ne (fun z => ?_)]
  · exact q2
  · rw [z, e] at q2
    have q3 := Option.some.inj q2
    unfold LamX.CodeO at q3
    subst q3
    exact m
theorem StOk.mut (k : StOk C η st H) {n : Nat} (h1 : η[n]? = some a) : ∃ o, H a = some o ∧ Mut o := by
  have hl : n < st.length := by
    rw [← k.len]
    exact (List.getElem?_eq_some_iff.mp h1).1
  exact (k.ok n a st[n] h1 (List.getElem?_eq_getElem hl)).mut
theorem StOk.step_set (k : StOk C η st H) {n : Nat} {u : HO} (h1 : η[n]? = some a) : Step η H η (upd H a u) := ⟨⟨[], by simp, by simp⟩, fun b o e nb _ => by
  have ne : b ≠ a := fun z => nb (by rw [z]; exact List.mem_of_getElem? h1)
  rw [upd_ne ne]
  exact e, fun b e => by
  by_cases hb : b = a
  · subst hb
    rw [upd_same] at e
    cases e
  · rw [upd_ne hb] at e
    exact e⟩
theorem StOk.put (k : StOk C η st H) {n : Nat} {o : SO} {u : HO} (h1 : η[n]? = some a) (new : SOk C η (upd H a u) a o) : StOk C η (st.set n o) (upd H a u) := by
  refine ⟨by simp [k.len], k.nd, fun m b x e1 e2 => ?_, fun b hb => k.hot_put h1 hb, fun q hq => tab_upd (k.mut h1).choose_spec.1 (k.mut h1).choose_spec.2 (k.tab q hq)⟩
  by_cases hm : m = n
  · subst hm
    rw [h1] at e1
    cases e1
    have hl : m < st.length := by
      have := (List.getElem?_eq_some_iff.mp e2).1
      simpa using this
    rw [List.getElem?_set_self hl] at e2
    cases e2
    exact new
  · rw [List.getElem?_set_ne (Ne.symm hm)] at e2
    refine (k.ok m b x e1 e2).mono (k.step_set h1) ?_
    rw [upd_ne]
    intro z
    subst z
    obtain ⟨l1, g1⟩ := List.getElem?_eq_some_iff.mp e1
    obtain ⟨l2, g2⟩ := List.getElem?_eq_some_iff.mp h1
    exact hm ((List.getElem_inj k.nd).mp (g1.trans g2.symm))
/-- the slots -/
structure EnvOk (C : Cfg) (η : List Addr) (H : Hp) (ρ : Env) (σ : L2.St) : Prop where
  len : ρ.length = σ.length
  ok : ∀ (i : Nat) (d : D), ρ[i]? = some (some d) → ∃ v, σ[i]? = some (some v) ∧ Rep C η H d v
theorem EnvOk.mono {ρ : Env} {σ : L2.St} (e : EnvOk C η H ρ σ) (s : Step η H η' H') : EnvOk C η' H' ρ σ := ⟨e.len, fun i d h => by
  obtain ⟨v, e1, r⟩ := e.ok i d h
  exact ⟨v, e1, r.mono s⟩⟩
theorem EnvOk.set {ρ : Env} {σ : L2.St} (e : EnvOk C η H ρ σ) (i : Nat) (r : Rep C η H d v) : EnvOk C η H (ρ.set i (some d)) (σ.set i (some v)) := by
  refine ⟨by simp [e.len], fun j x h => ?_⟩
  by_cases hj : j = i
  · subst hj
    have hl : j < ρ.length := by simpa using (List.getElem?_eq_some_iff.mp h).1
    rw [List.getElem?_set_self hl] at h
    cases h
    exact ⟨v, by rw [List.getElem?_set_self (by rw [← e.len]; exact hl)], r⟩
  · rw [List.getElem?_set_ne (Ne.symm hj)] at h
    obtain ⟨w, e1, q⟩ := e.ok j x h
    exact ⟨w, by rw [List.getElem?_set_ne (Ne.symm hj)]; exact e1, q⟩
theorem EnvOk.unset {ρ : Env} {σ : L2.St} (e : EnvOk C η H ρ σ) (i : Nat) : EnvOk C η H (ρ.set i none) σ := by
  refine ⟨by simp [e.len], fun j x h => ?_⟩
  by_cases hj : j = i
  · subst hj
    have hl : j < ρ.length := by simpa using (List.getElem?_eq_some_iff.mp h).1
    rw [List.getElem?_set_self hl] at h
    cases h
  · rw [List.getElem?_set_ne (Ne.symm hj)] at h
    exact e.ok j x h
end
/-- an exception in the air: its fields stand in its own dict -/
def RepF (C : Cfg) (η : List Addr) (H : Hp) (fs : List (Str × D)) (d : Option Addr) : Prop :=
  (fs = [] ∧ d = none) ∨ ∃ a us, d = some a ∧ a ∉ η ∧ a ∉ C.hot ∧ H a = some (.xd us) ∧ us.map (·.1) = fs.map (·.1) ∧ RepL C η H (fs.map (·.2)) (us.map (·.2))
def RepX (C : Cfg) (η : List Addr) (H : Hp) (x : Exc) (c : Value) (d : Option Addr) : Prop := (∃ a, C.gl x.cls = some a ∧ c = .ref a) ∧ RepF C η H x.fs d
/-- what is wanted behind a result -/
def Post (C : Cfg) (W : WX) (σ : L2.St) {α β : Type} (R : List Addr → Hp → α → β → Prop) (η : List Addr) (H : Hp) (r : Res α) (Q : β → Hp → Prop) : Prop := match r with
  | .ok a st' => ∀ v η' H', Step η H η' H' → StOk C η' st' H' → R η' H' a v → Q v H'
  | .exc x st' => ∀ c d η' H', Step η H η' H' → StOk C η' st' H' → RepX C η' H' x c d → W c d σ H'
  | .bad => False
section
variable {C : Cfg} {W : WX} {σ : L2.St} {α β γ δ : Type} {R : List Addr → Hp → α → β → Prop} {R2 : List Addr → Hp → γ → δ → Prop} {η η' : List Addr} {H H' : Hp}
theorem Post.step {r : Res α} {Q : β → Hp → Prop} (s : Step η H η' H') (h : Post C W σ R η H r Q) : Post C W σ R η' H' r Q := by
  cases r with
  | ok a st' => exact fun v η1 H1 s1 => h v η1 H1 (s.trans s1)
  | exc x st' => exact fun c d η1 H1 s1 => h c d η1 H1 (s.trans s1)
  | bad => exact h
theorem Post.bind {r : Res α} {k : α → Sto → Res γ} {Q : δ → Hp → Prop} {Q1 : β → Hp → Prop} (h : Post C W σ R2 η H (r.bind k) Q)
    (hk : ∀ a st1 v η1 H1, r = .ok a st1 → Step η H η1 H1 → StOk C η1 st1 H1 → R η1 H1 a v → Post C W σ R2 η1 H1 (k a st1) Q → Q1 v H1) : Post C W σ R η H r Q1 := by
  cases r with
  | ok a st1 => exact fun v η1 H1 s1 k1 r1 => hk a st1 v η1 H1 rfl s1 k1 r1 (Post.step s1 h)
  | exc x st1 => exact h
  | bad => exact h
theorem Post.imp {r : Res α} {Q Q1 : β → Hp → Prop} (h : Post C W σ R η H r Q) (hk : ∀ v H, Q v H → Q1 v H) : Post C W σ R η H r Q1 := by
  cases r with
  | ok a st1 => exact fun v η1 H1 s1 k1 r1 => hk _ _ (h v η1 H1 s1 k1 r1)
  | exc x st1 => exact h
  | bad => exact h
theorem Post.ret {a : α} {st : Sto} {Q : β → Hp → Prop} {v : β} (h : Post C W σ R η H (.ok a st) Q) (k : StOk C η st H) (r : R η H a v) : Q v H := h v η H Step.refl k r
theorem Post.at_ {a : α} {st : Sto} {Q : β → Hp → Prop} {v : β} (h : Post C W σ R η H (.ok a st) Q) (s : Step η H η' H') (k : StOk C η' st H') (r : R η' H' a v) : Q v H' := h v η' H' s k r
end
def tE (C : Cfg) (W : WX) (f : Ev) : TE := fun σ H Q => ∃ η ρ st, StOk C η st H ∧ EnvOk C η H ρ σ ∧ Post C W σ (Rep C) η H (f ρ st) Q
def tAr (C : Cfg) (W : WX) (f : EvA) : TA := fun σ H Q => ∃ η ρ st, StOk C η st H ∧ EnvOk C η H ρ σ ∧ Post C W σ (RepL C) η H (f ρ st) Q
def tT (C : Cfg) (W : WX) (f : EvT) : TT := fun σ H Q => ∃ η ρ st, StOk C η st H ∧ EnvOk C η H ρ σ ∧ Post C W σ (fun _ _ a b => a = b) η H (f ρ st) Q
/-- an expression reads as f; arguments; a test -/
structure SE (X : Cx) (C : Cfg) (e : Expr) (f : Ev) : Prop where
  run : ∀ W, Takes X W → PE X e (tE C W f)
structure SA (X : Cx) (C : Cfg) (es : List Expr) (f : EvA) : Prop where
  run : ∀ W, Takes X W → PA X es (tAr C W f)
structure ST (X : Cx) (C : Cfg) (e : Expr) (f : EvT) : Prop where
  run : ∀ W, Takes X W → PT X e (tT C W f)
structure SW (X : Cx) (C : Cfg) (e : Expr) (f : EvT) : Prop where
  run : ∀ W, Takes X W → PW X e (tT C W f)
theorem PE_imp {X : Cx} {e : Expr} {t t' : TE} (h : PE X e t) (i : ∀ σ H Q, t' σ H Q → t σ H Q) : PE X e t' := ⟨fun pins s σ H Q I q => h.run pins s σ H Q I (i σ H Q q)⟩
theorem PT_imp {X : Cx} {e : Expr} {t t' : TT} (h : PT X e t) (i : ∀ σ H Q, t' σ H Q → t σ H Q) : PT X e t' := ⟨fun pins s σ H Q I q => h.run pins s σ H Q I (i σ H Q q)⟩
theorem PW_imp {X : Cx} {e : Expr} {t t' : TT} (h : PW X e t) (i : ∀ σ H Q, t' σ H Q → t σ H Q) : PW X e t' := ⟨fun wh pins s σ H Q I q => h.run wh pins s σ H Q I (i σ H Q q)⟩
theorem PA_imp {X : Cx} {e : List Expr} {t t' : TA} (h : PA X e t) (i : ∀ σ H Q, t' σ H Q → t σ H Q) : PA X e t' := ⟨fun pos pins s σ H Q I q => h.run pos pins s σ H Q I (i σ H Q q)⟩
end G

set_option Elab.async false
set_option linter.all false
set_option maxRecDepth 100000
set_option maxHeartbeats 4000000
/-! Expressions. -/
namespace G
open PySem PySem.Spec PyProof.Rows L2

/-- the bound of lengths -/
def big (n : Nat) : Bool := Nat.ble n 100000
theorem big_line {n : Nat} (h : big n = true) : n ≤ sizeLine := Nat.le_trans (Nat.le_of_ble_eq_true h) (by decide)
theorem big_lt {n : Nat} (h : big (n + 1) = true) : n < sizeLine := Nat.lt_of_lt_of_le (Nat.lt_of_succ_le (Nat.le_of_ble_eq_true h)) (by decide)

/-- what is read at a value: a list of the store by its items -/
def vw (st : Sto) (d : D) : D := match d with
  | .ref n => (match st[n]? with
    | some (.lst ds) => .lst ds
    | some (.dic ks ds) => .dic ks ds
    | some (.ins k ns ds) => .ins k ns ds
    | none => .ref n)
  | d => d

section
variable {C : Cfg} {η : List Addr} {H : Hp} {st : Sto} {d : D} {v : V}
theorem vw_lst {ds : List D} (k : StOk C η st H) (r : Rep C η H d v) (e : vw st d = .lst ds) : ∃ a vs, v = .ref a ∧ SqL C.K H a vs ∧ RepL C η H ds vs := by
  cases d with
  | lst xs =>
    have e' : xs = ds := by simpa [vw] using e
    subst e'
    rw [Rep] at r
    obtain ⟨a, vs, e1, t, q⟩ := r
    exact ⟨a, vs, e1, t.sq, q⟩
  | ref n =>
    rw [Rep] at r
    obtain ⟨a, e1, e2⟩ := r
    unfold vw at e
    simp only at e
    cases h : st[n]? with
    | none => rw [h] at e; cases e
    | some o =>
      rw [h] at e
      cases o with
      | lst xs =>
        have e' : xs = ds := by simpa using e
        subst e'
        obtain ⟨vs, q1, q2⟩ := k.ok n a _ e1 h
        exact ⟨a, vs, e2, .inl (.inl q1), q2⟩
      | dic ks xs => cases e
      | ins k ns xs => cases e
  | _ => cases e
/-- objects -/
def isOb : D → Bool
  | .lst _ => true
  | .dic _ _ => true
  | .ins _ _ _ => true
  | _ => false
theorem vw_dic {ks : List Key} {ds : List D} (k : StOk C η st H) (r : Rep C η H d v) (e : vw st d = .dic ks ds) : ∃ a kvs, v = .ref a ∧ Rd H a (.dK kvs) ∧ kvs.map (·.1) = ks ∧ RepL C η H ds (kvs.map (·.2)) := by
  cases d with
  | dic ks2 xs =>
    simp only [vw, D.dic.injEq] at e
    obtain ⟨rfl, rfl⟩ := e
    rw [Rep] at r
    obtain ⟨a, kvs, e1, ⟨_, _, t⟩, n, q⟩ := r
    exact ⟨a, kvs, e1, t, n, q⟩
  | ref n =>
    rw [Rep] at r
    obtain ⟨a, e1, e2⟩ := r
    unfold vw at e
    simp only at e
    cases h : st[n]? with
    | none => rw [h] at e; cases e
    | some o =>
      rw [h] at e
      cases o with
      | lst xs => cases e
      | dic ks2 xs =>
        simp only [D.dic.injEq] at e
        obtain ⟨rfl, rfl⟩ := e
        obtain ⟨kvs, q1, q2, q3⟩ := k.ok n a _ e1 h
        exact ⟨a, kvs, e2, .inl q1, q2, q3⟩
      | ins k ns xs => cases e
  | _ => cases e
theorem vw_ins {j : Nat} {ns : List Str} {ds : List D} (k : StOk C η st H) (r : Rep C η H d v) (e : vw st d = .ins j ns ds) : ∃ a c dx fs, v = .ref a ∧ H a = some (.ins c dx fs) ∧ C.gl j = some c ∧ fs.map (·.1) = ns ∧ RepL C η H ds (fs.map (·.2)) := by
  cases d with
  | ins j2 ns2 xs =>
    simp only [vw, D.ins.injEq] at e
    obtain ⟨rfl, rfl, rfl⟩ := e
    rw [Rep] at r
    obtain ⟨a, c, dx, fs, e1, ⟨_, _, t⟩, g, n, q⟩ := r
    exact ⟨a, c, dx, fs, e1, t, g, n, q⟩
  | ref n =>
    rw [Rep] at r
    obtain ⟨a, e1, e2⟩ := r
    unfold vw at e
    simp only at e
    cases h : st[n]? with
    | none => rw [h] at e; cases e
    | some o =>
      rw [h] at e
      cases o with
      | lst xs => cases e
      | dic ks2 xs => cases e
      | ins j2 ns2 xs =>
        simp only [D.ins.injEq] at e
        obtain ⟨rfl, rfl, rfl⟩ := e
        obtain ⟨c, dx, fs, q1, q2, q3, q4⟩ := k.ok n a _ e1 h
        exact ⟨a, c, dx, fs, e2, q1, q2, q3, q4⟩
  | _ => cases e
theorem vw_ne {x : D} (e : vw st d = x) (h1 : isOb x = false) : (∃ n, d = .ref n ∧ x = .ref n) ∨ d = x := by
  cases d with
  | ref n =>
    left
    refine ⟨n, rfl, ?_⟩
    unfold vw at e
    simp only at e
    cases h : st[n]? with
    | none => rw [h] at e; exact e.symm
    | some o =>
      rw [h] at e
      cases o <;> (subst e; cases h1)
  | _ => right; exact e
theorem vw_tup {ds : List D} (r : Rep C η H d v) (e : vw st d = .tup ds) : ∃ a vs, v = .ref a ∧ SqT C.K H a vs ∧ RepL C η H ds vs := by
  rcases vw_ne e rfl with ⟨n, _, z⟩ | rfl
  · cases z
  · rw [Rep] at r
    obtain ⟨a, vs, e1, t, q⟩ := r
    exact ⟨a, vs, e1, t.sq, q⟩
theorem vw_int {i : Int} (r : Rep C η H d v) (e : vw st d = .int i) : v = .int i := by
  rcases vw_ne e rfl with ⟨n, _, z⟩ | rfl
  · cases z
  · rw [Rep] at r; exact r
theorem vw_bl {i : Bool} (r : Rep C η H d v) (e : vw st d = .bl i) : v = .bl i := by
  rcases vw_ne e rfl with ⟨n, _, z⟩ | rfl
  · cases z
  · rw [Rep] at r; exact r
theorem vw_str {i : List Nat} (r : Rep C η H d v) (e : vw st d = .str i) : v = .str ⟨i.toArray⟩ := by
  rcases vw_ne e rfl with ⟨n, _, z⟩ | rfl
  · cases z
  · rw [Rep] at r; exact r
theorem vw_non (r : Rep C η H d v) (e : vw st d = .non) : v = .non := by
  rcases vw_ne e rfl with ⟨n, _, z⟩ | rfl
  · cases z
  · rw [Rep] at r; exact r
theorem vw_ty {i : Ty} (r : Rep C η H d v) (e : vw st d = .ty i) : v = .ty i.name := by
  rcases vw_ne e rfl with ⟨n, _, z⟩ | rfl
  · cases z
  · rw [Rep] at r; exact r
/-- a new list, a new tuple that nothing changes -/
theorem new_out {p : Addr} (k : StOk C η st H) (h : H p = none) : p ∉ η := fun m => by
  obtain ⟨u, e⟩ := k.there m
  rw [h] at e
  cases e
theorem new_cold {p : Addr} (k : StOk C η st H) (h : H p = none) : p ∉ C.hot := fun m => k.cold m h
theorem new_lst {ds : List D} {vs : List V} {p : Addr} (k : StOk C η st H) (r : RepL C η H ds vs) (h : H p = none) : Rep C η (upd H p (.lst vs)) (.lst ds) (.ref p) := by
  rw [Rep]
  exact ⟨p, vs, rfl, .inl ⟨new_out k h, new_cold k h, .inl upd_same⟩, r.mono (Step.new h)⟩
theorem new_tup {ds : List D} {vs : List V} {p : Addr} (k : StOk C η st H) (r : RepL C η H ds vs) (h : H p = none) : Rep C η (upd H p (.tup vs)) (.tup ds) (.ref p) := by
  rw [Rep]
  exact ⟨p, vs, rfl, .inl ⟨new_out k h, new_cold k h, .inl upd_same⟩, r.mono (Step.new h)⟩
theorem Post.lst {W : WX} {σ : L2.St} {ds : List D} {vs : List V} {Q : VK} (h : Post C W σ (Rep C) η H (.ok (.lst ds) st) Q) (k : StOk C η st H) (r : RepL C η H ds vs) : ∀ p, H p = none → Q (.ref p) (upd H p (.lst vs)) :=
  fun p hp => h.at_ (Step.new hp) (k.new hp) (new_lst k r hp)
theorem Post.tup {W : WX} {σ : L2.St} {ds : List D} {vs : List V} {Q : VK} (h : Post C W σ (Rep C) η H (.ok (.tup ds) st) Q) (k : StOk C η st H) (r : RepL C η H ds vs) : ∀ p, H p = none → Q (.ref p) (upd H p (.tup vs)) :=
  fun p hp => h.at_ (Step.new hp) (k.new hp) (new_tup k r hp)
end

section
variable {X : Cx} {C : Cfg} {a b c e : Expr} {es : List Expr} {fa fb fc f : Ev} {fs : EvA} {ft fu : EvT} {pos : Pos}
/-! ### names, constants -/
def cVar (i : Nat) : Ev := fun ρ st => match ρ[i]? with
  | some (some d) => .ok d st
  | _ => .bad
theorem SE.var (i : Nat) {x : Str} {pos : Pos} (hN : X.N[i]? = some x := by rfl) (hv : Vis X.env.scope x := by first | exact Or.inl rfl | exact Or.inr (Or.inl rfl) | exact Or.inr (Or.inr rfl)) (hd : (x == ("__debug__" : Str)) = false := by decide)
    (hcd : (x == ("__classdict__" : Str)) = false := by decide) : SE X C (.Name x pos) (cVar i) := ⟨fun W tk => PE_imp (pe_var hN hv hd hcd) fun σ H Q ⟨η, ρ, st, k, en, p⟩ => by
  unfold cVar at p
  cases h : ρ[i]? with
  | none => rw [h] at p; exact p.elim
  | some o =>
    cases o with
    | none => rw [h] at p; exact p.elim
    | some d =>
      rw [h] at p
      obtain ⟨v, e1, r⟩ := en.ok i d h
      exact ⟨v, e1, p.ret k r⟩⟩
def cC (d : D) : Ev := fun _ st => .ok d st
theorem SE.const {v : V} {d : D} (h : PE X e (tC v)) (r : ∀ η H, Rep C η H d v) : SE X C e (cC d) := ⟨fun W tk => PE_imp h fun σ H Q ⟨η, ρ, st, k, en, p⟩ => p.ret k (r η H)⟩
theorem SE.int {i : Int} {j : Nat} {pos : Pos} : SE X C (.Constant (.int i) j pos) (cC (.int i)) := SE.const pe_int fun η H => by rw [Rep]
theorem SE.bl {i : Bool} {j : Nat} {pos : Pos} : SE X C (.Constant (.bool i) j pos) (cC (.bl i)) := SE.const pe_bl fun η H => by rw [Rep]
theorem SE.non {j : Nat} {pos : Pos} : SE X C (.Constant .none j pos) (cC .non) := SE.const pe_non fun η H => by rw [Rep]
theorem SE.str {x : Str} {cs : List Nat} {j : Nat} {pos : Pos} (h : x.cps.toList = cs) : SE X C (.Constant (.str x) j pos) (cC (.str cs)) := SE.const pe_str fun η H => by
  rw [Rep, ← h]
/-- a module's name: what stands at it in the written part -/
theorem SE.glob {x : Str} {v : V} {u : Value} {d : D} {pos : Pos} (hg : Gl X x) (hm : X.mg x = some u) (rv : RelV v u) (r : ∀ η H, Rep C η H d v) (hd : (x == ("__debug__" : Str)) = false := by decide) : SE X C (.Name x pos) (cC d) := SE.const (pe_glob hg hm rv hd) r
theorem SE.bltn {x : Str} {n : Ty} {pos : Pos} (hg : Gl X x) (hm : X.mg x = none) (hv : bootBuiltins x = some (.type n.name)) (hn : x ≠ "__name__" := by decide) (hd : (x == ("__debug__" : Str)) = false := by decide) : SE X C (.Name x pos) (cC (.ty n)) :=
  SE.const (pe_bltn (v := .ty n.name) hg hm hv rfl hn hd) fun η H => by rw [Rep]

/-! ### operators -/
def OpD (C : Cfg) (op : D → D → Sto → Res D) (r : R2) : Prop := ∀ (W : WX) (σ : L2.St) (η : List Addr) (st : Sto) (a b : D) (x y : V) (H : Hp) (Q : VK), StOk C η st H → Rep C η H a x → Rep C η H b y → Post C W σ (Rep C) η H (op a b st) Q → r x y H Q
def UnD (C : Cfg) (op : D → Sto → Res D) (r : V → Hp → VK → Prop) : Prop := ∀ (W : WX) (σ : L2.St) (η : List Addr) (st : Sto) (a : D) (x : V) (H : Hp) (Q : VK), StOk C η st H → Rep C η H a x → Post C W σ (Rep C) η H (op a st) Q → r x H Q
def cBin (op : D → D → Sto → Res D) (fa fb : Ev) : Ev := fun ρ st => (fa ρ st).bind fun a st1 => (fb ρ st1).bind fun b st2 => op a b st2
def cUn (op : D → Sto → Res D) (fa : Ev) : Ev := fun ρ st => (fa ρ st).bind fun a st1 => op a st1
theorem bin_imp {op : D → D → Sto → Res D} {r : R2} (o : OpD C op r) {W : WX} {σ : L2.St} {H : Hp} {Q : VK} (h : tE C W (cBin op fa fb) σ H Q) : tOp r (tE C W fa) (tE C W fb) σ H Q := by
  obtain ⟨η, ρ, st, k, en, p⟩ := h
  refine ⟨η, ρ, st, k, en, Post.bind (R := Rep C) (r := fa ρ st) p fun a st1 v η1 H1 _ s1 k1 ra p1 => ?_⟩
  refine ⟨η1, ρ, st1, k1, en.mono s1, Post.bind (R := Rep C) (r := fb ρ st1) p1 fun b st2 u η2 H2 _ s2 k2 rb p2 => ?_⟩
  exact o W σ η2 st2 a b v u H2 Q k2 (ra.mono s2) rb p2
theorem un_imp {op : D → Sto → Res D} {r : V → Hp → VK → Prop} (o : UnD C op r) {W : WX} {σ : L2.St} {H : Hp} {Q : VK} (h : tE C W (cUn op fa) σ H Q) : tUn r (tE C W fa) σ H Q := by
  obtain ⟨η, ρ, st, k, en, p⟩ := h
  exact ⟨η, ρ, st, k, en, Post.bind (R := Rep C) (r := fa ρ st) p fun a st1 v η1 H1 _ s1 k1 ra p1 => o W σ η1 st1 a v H1 Q k1 ra p1⟩
theorem SE.op {op : Operator} {r : R2} {g : D → D → Sto → Res D} (ho : OpR X (binaryOp op) r) (o : OpD C g r) (ha : SE X C a fa) (hb : SE X C b fb) : SE X C (.BinOp a op b pos) (cBin g fa fb) := ⟨fun W tk => PE_imp (pe_op ho (ha.run W tk) (hb.run W tk)) fun _ _ _ h => bin_imp o h⟩
theorem SE.un {op : UnaryOp} {r : V → Hp → VK → Prop} {g : D → Sto → Res D} (ho : UnR X (unaryOp op) r) (o : UnD C g r) (ha : SE X C a fa) : SE X C (.UnaryOp op a pos) (cUn g fa) := ⟨fun W tk => PE_imp (pe_un ho (ha.run W tk)) fun _ _ _ h => un_imp o h⟩
theorem SE.cmp {op : CmpOp} {r : R2} {g : D → D → Sto → Res D} (ho : OpR X (compareOp op) r) (o : OpD C g r) (ha : SE X C a fa) (hb : SE X C b fb) (hm : behindInMarks op b = false) : SE X C (.Compare a [op] [b] pos) (cBin g fa fb) := ⟨fun W tk => PE_imp (pe_cmpR ho (ha.run W tk) (hb.run W tk) hm) fun _ _ _ h => bin_imp o h⟩
/-- a bool's value as a test -/
def Res.bool (r : Res D) : Res Bool := r.bind fun d st => match d with
  | .bl b => .ok b st
  | _ => .bad
def cB (f : Ev) : EvT := fun ρ st => (f ρ st).bool
theorem test_imp {W : WX} {σ : L2.St} {H : Hp} {Q : Bool → Hp → Prop} (h : tT C W (cB f) σ H Q) : tE C W f σ H fun x H' => ∃ k, x = .bl k ∧ Q k H' := by
  obtain ⟨η, ρ, st, k, en, p⟩ := h
  refine ⟨η, ρ, st, k, en, Post.bind (R := Rep C) (r := f ρ st) p fun a st1 v η1 H1 _ s1 k1 ra p1 => ?_⟩
  cases a with
  | bl b =>
    rw [Rep] at ra
    exact ⟨b, ra, p1.ret k1 rfl⟩
  | _ => exact p1.elim
theorem ST.cmp {op : CmpOp} {r : R2} {g : D → D → Sto → Res D} (ho : OpR X (compareOp op) r) (o : OpD C g r) (ha : SE X C a fa) (hb : SE X C b fb) (hm : behindInMarks op b = false) : ST X C (.Compare a [op] [b] pos) (cB (cBin g fa fb)) :=
  ⟨fun W tk => PT_imp (pt_cmpR ho (ha.run W tk) (hb.run W tk) hm) fun _ _ _ h => by
    obtain ⟨η, ρ, st, k, en, p⟩ := test_imp h
    exact bin_imp o ⟨η, ρ, st, k, en, p⟩⟩
/-- a < b < c -/
def cChain (g g' : D → D → Sto → Res D) (fa fb fc : Ev) : Ev := fun ρ st => (fa ρ st).bind fun a st1 => (fb ρ st1).bind fun b st2 => (g a b st2).bind fun d st3 => match d with
  | .bl true => (fc ρ st3).bind fun c st4 => g' b c st4
  | .bl false => .ok (.bl false) st3
  | _ => .bad
theorem chain_imp {g g' : D → D → Sto → Res D} {r r' : R2} (o : OpD C g r) (o' : OpD C g' r') {W : WX} {σ : L2.St} {H : Hp} {Q : VK} (h : tE C W (cChain g g' fa fb fc) σ H Q) :
    tE C W fa σ H fun x H1 => tE C W fb σ H1 fun y H2 => r x y H2 fun z H3 => ∃ k, z = .bl k ∧ if k = true then tE C W fc σ H3 fun w H4 => r' y w H4 Q else Q (.bl false) H3 := by
  obtain ⟨η, ρ, st, k, en, p⟩ := h
  refine ⟨η, ρ, st, k, en, Post.bind (R := Rep C) (r := fa ρ st) p fun a st1 v η1 H1 _ s1 k1 ra p1 => ?_⟩
  refine ⟨η1, ρ, st1, k1, en.mono s1, Post.bind (R := Rep C) (r := fb ρ st1) p1 fun b st2 u η2 H2 _ s2 k2 rb p2 => ?_⟩
  refine o W σ η2 st2 a b v u H2 _ k2 (ra.mono s2) rb (Post.bind (R := Rep C) (r := g a b st2) p2 fun d st3 w η3 H3 _ s3 k3 rd p3 => ?_)
  cases d with
  | bl q =>
    rw [Rep] at rd
    refine ⟨q, rd, ?_⟩
    cases q with
    | true =>
      rw [if_pos rfl]
      refine ⟨η3, ρ, st3, k3, (en.mono (s1.trans s2)).mono s3, Post.bind (R := Rep C) (r := fc ρ st3) p3 fun c st4 w4 η4 H4 _ s4 k4 rc p4 => ?_⟩
      exact o' W σ η4 st4 b c u w4 H4 Q k4 (rb.mono (s3.trans s4)) rc p4
    | false =>
      rw [if_neg Bool.false_ne_true]
      exact p3.ret k3 (by rw [Rep])
  | _ => exact p3.elim
theorem SE.chain {op op' : CmpOp} {r r' : R2} {g g' : D → D → Sto → Res D} (ho : OpR X (compareOp op) r) (ho' : OpR X (compareOp op') r') (o : OpD C g r) (o' : OpD C g' r') (ha : SE X C a fa) (hb : SE X C b fb) (hc : SE X C c fc)
    (hm : lastMarks [op, op'] [b, c] = false := by with_unfolding_all rfl) : SE X C (.Compare a [op, op'] [b, c] pos) (cChain g g' fa fb fc) :=
  ⟨fun W tk => PE_imp (pe_chain ho ho' (ha.run W tk) (hb.run W tk) (hc.run W tk) hm) fun _ _ _ h => chain_imp o o' h⟩

theorem ST.chain {op op' : CmpOp} {r r' : R2} {g g' : D → D → Sto → Res D} (ho : OpR X (compareOp op) r) (ho' : OpR X (compareOp op') r') (o : OpD C g r) (o' : OpD C g' r') (ha : SE X C a fa) (hb : SE X C b fb) (hc : SE X C c fc)
    (hm : lastMarks [op, op'] [b, c] = false := by with_unfolding_all rfl) : ST X C (.Compare a [op, op'] [b, c] pos) (cB (cChain g g' fa fb fc)) :=
  ⟨fun W tk => PT_imp (pt_chain ho ho' (ha.run W tk) (hb.run W tk) (hc.run W tk) hm) fun _ _ _ h => by
    obtain ⟨η, ρ, st, k, en, p⟩ := test_imp h
    exact chain_imp o o' ⟨η, ρ, st, k, en, p⟩⟩

/-! ### truth, and, or, not, if -/
def dTru (d : D) (st : Sto) : Res Bool := match vw st d with
  | .non => .ok false st
  | .bl b => .ok b st
  | .int i => .ok (i != 0) st
  | .str s => if big s.length then .ok (!s.isEmpty) st else .bad
  | .lst ds => .ok (!ds.isEmpty) st
  | .tup ds => .ok (!ds.isEmpty) st
  | _ => .bad
def cTru (f : Ev) : EvT := fun ρ st => (f ρ st).bind fun d st1 => dTru d st1
theorem isEmpty_rep {η : List Addr} {H : Hp} {ds : List D} {vs : List V} (r : RepL C η H ds vs) : ds.isEmpty = vs.isEmpty := by
  have h := r.length
  cases ds <;> cases vs <;> simp at h ⊢
theorem tru_imp {W : WX} {σ : L2.St} {H : Hp} {Q : Bool → Hp → Prop} (h : tT C W (cTru f) σ H Q) : tE C W f σ H fun x H' => ∃ k, TruV C.K x H' k ∧ Q k H' := by
  obtain ⟨η, ρ, st, k, en, p⟩ := h
  refine ⟨η, ρ, st, k, en, Post.bind (R := Rep C) (r := f ρ st) p fun d st1 v η1 H1 _ s1 k1 ra p1 => ?_⟩
  unfold dTru at p1
  split at p1
  · rename_i e
    rw [vw_non ra e]
    exact ⟨_, rfl, p1.ret k1 rfl⟩
  · rename_i b e
    rw [vw_bl ra e]
    exact ⟨_, rfl, p1.ret k1 rfl⟩
  · rename_i i e
    rw [vw_int ra e]
    exact ⟨_, rfl, p1.ret k1 rfl⟩
  · rename_i s e
    rw [vw_str ra e]
    split at p1
    · rename_i hb
      refine ⟨!s.isEmpty, ⟨big_line hb, ?_⟩, p1.ret k1 rfl⟩
      cases s with
      | nil => rfl
      | cons x xs =>
        show true = _
        symm
        rw [bne_iff_ne]
        have : (0 : Int) < ((⟨(x :: xs).toArray⟩ : Str).length : Int) := by
          show (0 : Int) < (((x :: xs).toArray.size : Nat) : Int)
          simp
        omega
    · exact p1.elim
  · rename_i ds e
    obtain ⟨a, vs, rfl, q, r⟩ := vw_lst k1 ra e
    refine ⟨_, .inl ⟨vs, q, rfl⟩, ?_⟩
    rw [← isEmpty_rep r]
    exact p1.ret k1 rfl
  · rename_i ds e
    obtain ⟨a, vs, rfl, q, r⟩ := vw_tup ra e
    refine ⟨_, .inr (.inl ⟨vs, q, rfl⟩), ?_⟩
    rw [← isEmpty_rep r]
    exact p1.ret k1 rfl
  · exact p1.elim
/-- the test of a name, a call, an item .. -/
theorem ST.tru (hK : X.K = C.K) (ha : SE X C a fa) (he : ∀ whole, isTrue a X.env whole = (do let v ← whole; standAt a.pos; holding [v] (truthy v)) := by intro _; rfl) : ST X C a (cTru fa) :=
  ⟨fun W tk => PT_imp (pt_truth (ha.run W tk) he) fun _ _ _ h => by rw [hK]; exact tru_imp h⟩
def cNot (t : EvT) : EvT := fun ρ st => (t ρ st).bind fun b st1 => .ok (!b) st1
def cAnd (t u : EvT) : EvT := fun ρ st => (t ρ st).bind fun b st1 => match b with
  | true => u ρ st1
  | false => .ok false st1
def cOr (t u : EvT) : EvT := fun ρ st => (t ρ st).bind fun b st1 => match b with
  | true => .ok true st1
  | false => u ρ st1
theorem ST.not (ha : ST X C a ft) : ST X C (.UnaryOp .Not a pos) (cNot ft) := ⟨fun W tk => PT_imp (pt_not (ha.run W tk)) fun σ H Q ⟨η, ρ, st, k, en, p⟩ =>
  ⟨η, ρ, st, k, en, Post.bind (R := fun _ _ a b => a = b) (r := ft ρ st) p fun b st1 v η1 H1 _ s1 k1 ra p1 => by
    subst ra
    exact p1.ret k1 rfl⟩⟩
theorem ST.of (h : SW X C e ft) : ST X C e ft := ⟨fun W tk => (h.run W tk).pt⟩
variable {rest : List Expr}
theorem SW.and1 (ha : ST X C a ft) : SW X C (.BoolOp .And [a] pos) ft := ⟨fun W tk => pw_and1 (ha.run W tk)⟩
theorem SW.or1 (ha : ST X C a ft) : SW X C (.BoolOp .Or [a] pos) ft := ⟨fun W tk => pw_or1 (ha.run W tk)⟩
theorem SW.and (ha : ST X C a ft) (hb : SW X C (.BoolOp .And (b :: rest) pos) fu) : SW X C (.BoolOp .And (a :: b :: rest) pos) (cAnd ft fu) := ⟨fun W tk => PW_imp (pw_and (ha.run W tk) (hb.run W tk)) fun σ H Q ⟨η, ρ, st, k, en, p⟩ =>
  ⟨η, ρ, st, k, en, Post.bind (R := fun _ _ a b => a = b) (r := ft ρ st) p fun b st1 v η1 H1 _ s1 k1 ra p1 => by
    subst ra
    cases b with
    | true => exact iteT ⟨η1, ρ, st1, k1, en.mono s1, p1⟩
    | false => exact iteF (p1.ret k1 rfl)⟩⟩
theorem SW.or (ha : ST X C a ft) (hb : SW X C (.BoolOp .Or (b :: rest) pos) fu) : SW X C (.BoolOp .Or (a :: b :: rest) pos) (cOr ft fu) := ⟨fun W tk => PW_imp (pw_or (ha.run W tk) (hb.run W tk)) fun σ H Q ⟨η, ρ, st, k, en, p⟩ =>
  ⟨η, ρ, st, k, en, Post.bind (R := fun _ _ a b => a = b) (r := ft ρ st) p fun b st1 v η1 H1 _ s1 k1 ra p1 => by
    subst ra
    cases b with
    | true => exact iteT (p1.ret k1 rfl)
    | false => exact iteF ⟨η1, ρ, st1, k1, en.mono s1, p1⟩⟩⟩
/-- as values, bools all but the last -/
def cAndV (fa fb : Ev) : Ev := fun ρ st => (fa ρ st).bind fun d st1 => match d with
  | .bl true => fb ρ st1
  | .bl false => .ok (.bl false) st1
  | _ => .bad
def cOrV (fa fb : Ev) : Ev := fun ρ st => (fa ρ st).bind fun d st1 => match d with
  | .bl true => .ok (.bl true) st1
  | .bl false => fb ρ st1
  | _ => .bad
def cNotV (fa : Ev) : Ev := fun ρ st => (fa ρ st).bind fun d st1 => match d with
  | .bl b => .ok (.bl (!b)) st1
  | _ => .bad
theorem SE.one {op} (h : SE X C a fa) : SE X C (.BoolOp op [a] pos) fa := ⟨fun W tk => pe_one (h.run W tk)⟩
theorem SE.and (ha : SE X C a fa) (hb : SE X C (.BoolOp .And (b :: rest) pos) fb) : SE X C (.BoolOp .And (a :: b :: rest) pos) (cAndV fa fb) := ⟨fun W tk => PE_imp (pe_and (ha.run W tk) (hb.run W tk)) fun σ H Q ⟨η, ρ, st, k, en, p⟩ =>
  ⟨η, ρ, st, k, en, Post.bind (R := Rep C) (r := fa ρ st) p fun d st1 v η1 H1 _ s1 k1 ra p1 => by
    cases d with
    | bl b =>
      rw [Rep] at ra
      refine ⟨b, ra, ?_⟩
      cases b with
      | true => exact iteT ⟨η1, ρ, st1, k1, en.mono s1, p1⟩
      | false => exact iteF (p1.ret k1 (by rw [Rep]))
    | _ => exact p1.elim⟩⟩
theorem SE.or (ha : SE X C a fa) (hb : SE X C (.BoolOp .Or (b :: rest) pos) fb) : SE X C (.BoolOp .Or (a :: b :: rest) pos) (cOrV fa fb) := ⟨fun W tk => PE_imp (pe_or (ha.run W tk) (hb.run W tk)) fun σ H Q ⟨η, ρ, st, k, en, p⟩ =>
  ⟨η, ρ, st, k, en, Post.bind (R := Rep C) (r := fa ρ st) p fun d st1 v η1 H1 _ s1 k1 ra p1 => by
    cases d with
    | bl b =>
      rw [Rep] at ra
      refine ⟨b, ra, ?_⟩
      cases b with
      | true => exact iteT (p1.ret k1 (by rw [Rep]))
      | false => exact iteF ⟨η1, ρ, st1, k1, en.mono s1, p1⟩
    | _ => exact p1.elim⟩⟩
theorem SE.not (ha : SE X C a fa) : SE X C (.UnaryOp .Not a pos) (cNotV fa) := ⟨fun W tk => PE_imp (pe_not (ha.run W tk)) fun σ H Q ⟨η, ρ, st, k, en, p⟩ =>
  ⟨η, ρ, st, k, en, Post.bind (R := Rep C) (r := fa ρ st) p fun d st1 v η1 H1 _ s1 k1 ra p1 => by
    cases d with
    | bl b =>
      rw [Rep] at ra
      exact ⟨b, ra, p1.ret k1 (by rw [Rep])⟩
    | _ => exact p1.elim⟩⟩
def cIf (t : EvT) (fa fb : Ev) : Ev := fun ρ st => (t ρ st).bind fun b st1 => match b with
  | true => fa ρ st1
  | false => fb ρ st1
theorem SE.ifExp (hc : ST X C c ft) (ha : SE X C a fa) (hb : SE X C b fb) : SE X C (.IfExp c a b pos) (cIf ft fa fb) := ⟨fun W tk => PE_imp (pe_ifExp (hc.run W tk) (ha.run W tk) (hb.run W tk)) fun σ H Q ⟨η, ρ, st, k, en, p⟩ =>
  ⟨η, ρ, st, k, en, Post.bind (R := fun _ _ a b => a = b) (r := ft ρ st) p fun b st1 v η1 H1 _ s1 k1 ra p1 => by
    subst ra
    cases b with
    | true => exact iteT ⟨η1, ρ, st1, k1, en.mono s1, p1⟩
    | false => exact iteF ⟨η1, ρ, st1, k1, en.mono s1, p1⟩⟩⟩
/-! ### arguments, displays -/
def cNil : EvA := fun _ st => .ok [] st
def cCons (fa : Ev) (fs : EvA) : EvA := fun ρ st => (fa ρ st).bind fun d st1 => (fs ρ st1).bind fun ds st2 => .ok (d :: ds) st2
theorem SA.nil : SA X C [] cNil := ⟨fun W tk => PA_imp pa_nil fun σ H Q ⟨η, ρ, st, k, en, p⟩ => p.ret k RepL.nil⟩
theorem SA.cons (ha : SE X C e fa) (hs : SA X C es fs) (h : starEach (e :: es) X.env = (false, eval e X.env) :: starEach es X.env := by rfl) : SA X C (e :: es) (cCons fa fs) := ⟨fun W tk => PA_imp (pa_cons (ha.run W tk) (hs.run W tk) h) fun σ H Q ⟨η, ρ, st, k, en, p⟩ =>
  ⟨η, ρ, st, k, en, Post.bind (R := Rep C) (r := fa ρ st) p fun d st1 v η1 H1 _ s1 k1 ra p1 =>
    ⟨η1, ρ, st1, k1, en.mono s1, Post.bind (R := RepL C) (r := fs ρ st1) p1 fun ds st2 vs η2 H2 _ s2 k2 rs p2 => p2.ret k2 (RepL.cons (ra.mono s2) rs)⟩⟩⟩
def cTup (fs : EvA) : Ev := fun ρ st => (fs ρ st).bind fun ds st1 => if big ds.length then .ok (.tup ds) st1 else .bad
def cLst (fs : EvA) : Ev := fun ρ st => (fs ρ st).bind fun ds st1 => if big ds.length then .ok (.lst ds) st1 else .bad
/-- a list that may change -/
def cNew (fs : EvA) : Ev := fun ρ st => (fs ρ st).bind fun ds st1 => if big ds.length then .ok (.ref st1.length) (st1 ++ [.lst ds]) else .bad
theorem SE.tup {j} (hs : SA X C es fs) : SE X C (.Tuple es j pos) (cTup fs) := ⟨fun W tk => PE_imp (pe_tup (hs.run W tk)) fun σ H Q ⟨η, ρ, st, k, en, p⟩ =>
  ⟨η, ρ, st, k, en, Post.bind (R := RepL C) (r := fs ρ st) p fun ds st1 vs η1 H1 _ s1 k1 rs p1 => by
    by_cases hb : big ds.length = true
    · simp only [hb, if_true] at p1
      exact ⟨by rw [← rs.length]; exact big_line hb, p1.tup k1 rs⟩
    · simp only [hb] at p1
      exact p1.elim⟩⟩
theorem SE.lst (hs : SA X C es fs) : SE X C (.List es pos) (cLst fs) := ⟨fun W tk => PE_imp (pe_lst (hs.run W tk)) fun σ H Q ⟨η, ρ, st, k, en, p⟩ =>
  ⟨η, ρ, st, k, en, Post.bind (R := RepL C) (r := fs ρ st) p fun ds st1 vs η1 H1 _ s1 k1 rs p1 => by
    by_cases hb : big ds.length = true
    · simp only [hb, if_true] at p1
      exact ⟨by rw [← rs.length]; exact big_line hb, p1.lst k1 rs⟩
    · simp only [hb] at p1
      exact p1.elim⟩⟩
theorem Post.new {η : List Addr} {H : Hp} {st : Sto} {W : WX} {σ : L2.St} {ds : List D} {vs : List V} {Q : VK} (h : Post C W σ (Rep C) η H (.ok (.ref st.length) (st ++ [.lst ds])) Q) (k : StOk C η st H) (r : RepL C η H ds vs) : ∀ p, H p = none → Q (.ref p) (upd H p (.lst vs)) :=
  fun p hp => h.at_ (Step.push hp) (k.push hp ⟨vs, upd_same, r.mono (Step.push hp)⟩) (by
    rw [Rep]
    exact ⟨p, by rw [← k.len]; simp, rfl⟩)
theorem SE.new (hs : SA X C es fs) : SE X C (.List es pos) (cNew fs) := ⟨fun W tk => PE_imp (pe_lst (hs.run W tk)) fun σ H Q ⟨η, ρ, st, k, en, p⟩ =>
  ⟨η, ρ, st, k, en, Post.bind (R := RepL C) (r := fs ρ st) p fun ds st1 vs η1 H1 _ s1 k1 rs p1 => by
    by_cases hb : big ds.length = true
    · simp only [hb, if_true] at p1
      exact ⟨by rw [← rs.length]; exact big_line hb, p1.new k1 rs⟩
    · simp only [hb] at p1
      exact p1.elim⟩⟩
end
end G

set_option Elab.async false
set_option linter.all false
set_option maxRecDepth 100000
set_option maxHeartbeats 4000000
/-! Operators upon values. -/
namespace G
open PySem PySem.Spec PyProof.Rows L2

/-! ### numbers, sums -/
def dAdd (a b : D) (st : Sto) : Res D := match vw st a, vw st b with
  | .int i, .int j => .ok (.int (i + j)) st
  | .str x, .str y => if big (x.length + y.length) then .ok (.str (x ++ y)) st else .bad
  | .tup x, .tup y => if big (x.length + y.length) then .ok (.tup (x ++ y)) st else .bad
  | .lst x, .lst y => if big (x.length + y.length) then .ok (.lst (x ++ y)) st else .bad
  | .int i, .bl k => .ok (.int (i + b2i k)) st
  | _, _ => .bad
/-- list + list, of any origin -/
def rCatS (K : PySem.W.Frag) : R2 := fun x y H Q => ∃ l b xs zs, x = .ref l ∧ y = .ref b ∧ SqL K H l xs ∧ SqL K H b zs ∧ xs.length + zs.length ≤ sizeLine ∧ ∀ p, H p = none → Q (.ref p) (upd H p (.lst (xs ++ zs)))
theorem op_catS {X : Cx} : OpR X (binaryOp .Add) (rCatS X.K) := by
  intro pins s σ H x y v u Q I rx ry h
  obtain ⟨l, b, xs, zs, rfl, rfl, hH, hB, hz, q⟩ := h
  cases rx
  cases ry
  obtain ⟨its, r, pl, _⟩ := I.list hH
  obtain ⟨its2, r2, pl2, _⟩ := I.list hB
  have l1 := r.length
  have l2 := r2.length
  obtain ⟨⟨cls, dd, data, sl⟩, ho, hc, n, hd⟩ := pl.isList
  obtain ⟨⟨cls2, dd2, data2, sl2⟩, ho2, hc2, n2, hd2⟩ := pl2.isList
  simp only at hc hd hc2 hd2
  subst hc hd hc2 hd2
  have e : its.toArray ++ its2.toArray = (its ++ its2).toArray := by simp
  refine concat_meets ⟨_, ho, rfl⟩ ⟨_, ho2, rfl⟩ noFill_list_add seq_list_add PySem.F.slot_list_add PySem.F.entry_list_add (PySem.F.args_list_add_2 _ _) (list_addW l b its.toArray its2.toArray n n2 dd dd2 sl sl2 (by simp; omega)) ⟨ho, ho2, ?_⟩
  rw [e]
  refine ⟨.ref _, _, I.laid (t' := s.toks) (o := .lst (xs ++ zs)) (fun b o q => Heap.get?_push_of_some _ q) (Nat.le_refl _) ?_, rfl, q _ (I.hok.fresh (Nat.le_refl _))⟩
  exact ⟨by rw [List.length_append]; exact hz, its ++ its2, 0, r.append r2, Heap.get?_push_size _ rfl⟩
abbrev rStrAdd : R2 := fun x y H Q => ∃ i j, x = .str i ∧ y = .str j ∧ i.length + j.length ≤ sizeLine ∧ Q (.str (i ++ j)) H
abbrev rAddAll (K : PySem.W.Frag) : R2 := fun x y H Q => rI0 (fun i j => .int (i + j)) x y H Q ∨ rStrAdd x y H Q ∨ rCatA K x y H Q ∨ rCatS K x y H Q ∨ ∃ i k, x = .int i ∧ y = .bl k ∧ Q (.int (i + b2i k)) H
theorem op_addAll {X : Cx} : OpR X (binaryOp .Add) (rAddAll X.K) := op_add.or (op_add_str.or (op_catA.or (op_catS.or op_add_ib)))
theorem str_app (x y : List Nat) : ((⟨x.toArray⟩ : Str) ++ (⟨y.toArray⟩ : Str)) = (⟨(x ++ y).toArray⟩ : Str) := by
  show (⟨x.toArray ++ y.toArray⟩ : Str) = _
  simp
theorem dAdd_ok {C : Cfg} : OpD C dAdd (rAddAll C.K) := by
  intro W σ η st a b x y H Q k ra rb p
  unfold dAdd at p
  split at p
  · rename_i i j e1 e2
    rw [vw_int ra e1, vw_int rb e2]
    exact .inl ⟨i, j, rfl, rfl, p.ret k (by rw [Rep])⟩
  · rename_i s t e1 e2
    rw [vw_str ra e1, vw_str rb e2]
    split at p
    · rename_i hb
      refine .inr (.inl ⟨_, _, rfl, rfl, big_line hb, p.ret k ?_⟩)
      rw [Rep, str_app]
    · exact p.elim
  · rename_i s t e1 e2
    obtain ⟨a1, xs, rfl, q1, r1⟩ := vw_tup ra e1
    obtain ⟨a2, ys, rfl, q2, r2⟩ := vw_tup rb e2
    split at p
    · rename_i hb
      have l1 := r1.length
      have l2 := r2.length
      refine .inr (.inr (.inl ⟨a1, a2, xs, ys, rfl, rfl, q1, q2, by rw [← l1, ← l2]; exact big_line hb, fun e => ?_, fun _ e => ?_, fun _ _ => p.tup k (r1.append r2)⟩))
      · subst e
        have e3 : s = [] := List.eq_nil_of_length_eq_zero l1
        subst e3
        rcases vw_ne e2 rfl with ⟨n, _, z⟩ | rfl
        · cases z
        · exact p.ret k rb
      · subst e
        have e3 : t = [] := List.eq_nil_of_length_eq_zero l2
        subst e3
        rcases vw_ne e1 rfl with ⟨n, _, z⟩ | rfl
        · cases z
        · rw [List.append_nil] at p
          exact p.ret k ra
    · exact p.elim
  · rename_i s t e1 e2
    obtain ⟨a1, xs, rfl, q1, r1⟩ := vw_lst k ra e1
    obtain ⟨a2, ys, rfl, q2, r2⟩ := vw_lst k rb e2
    split at p
    · rename_i hb
      have l1 := r1.length
      have l2 := r2.length
      exact .inr (.inr (.inr (.inl ⟨a1, a2, xs, ys, rfl, rfl, q1, q2, by rw [← l1, ← l2]; exact big_line hb, p.lst k (r1.append r2)⟩)))
    · exact p.elim
  · rename_i i j e1 e2
    rw [vw_int ra e1, vw_bl rb e2]
    exact .inr (.inr (.inr (.inr ⟨i, j, rfl, rfl, p.ret k (by rw [Rep])⟩)))
  · exact p.elim
def dSub (a b : D) (st : Sto) : Res D := match a, b with
  | .int i, .int j => .ok (.int (i - j)) st
  | _, _ => .bad
theorem dSub_ok {C : Cfg} : OpD C dSub (rI0 fun i j => .int (i - j)) := by
  intro W σ η st a b x y H Q k ra rb p
  unfold dSub at p
  split at p
  · rw [Rep] at ra rb
    exact ⟨_, _, ra, rb, p.ret k (by rw [Rep])⟩
  · exact p.elim
def dMul (a b : D) (st : Sto) : Res D := match a, b with
  | .int i, .int j => if Nat.ble (i.natAbs.log2 + j.natAbs.log2) 999998 then .ok (.int (i * j)) st else .bad
  | _, _ => .bad
theorem dMul_ok {C : Cfg} : OpD C dMul (rI CMulW fun i j => .int (i * j)) := by
  intro W σ η st a b x y H Q k ra rb p
  unfold dMul at p
  split at p
  · rw [Rep] at ra rb
    split at p
    · rename_i h
      have h' := Nat.le_of_ble_eq_true h
      exact ⟨_, _, ra, rb, by unfold CMulW; omega, p.ret k (by rw [Rep])⟩
    · exact p.elim
  · exact p.elim
def dFdiv (a b : D) (st : Sto) : Res D := match a, b with
  | .int i, .int j => if decide (0 < j) && Nat.ble j.natAbs.log2 8999 then .ok (.int (i / j)) st else .bad
  | _, _ => .bad
theorem dFdiv_ok {C : Cfg} : OpD C dFdiv (rI CDivW fun i j => .int (i / j)) := by
  intro W σ η st a b x y H Q k ra rb p
  unfold dFdiv at p
  split at p
  · rw [Rep] at ra rb
    split at p
    · rename_i h
      rw [Bool.and_eq_true] at h
      have h' := Nat.le_of_ble_eq_true h.2
      exact ⟨_, _, ra, rb, ⟨of_decide_eq_true h.1, by omega⟩, p.ret k (by rw [Rep])⟩
    · exact p.elim
  · exact p.elim
def dMod (a b : D) (st : Sto) : Res D := match a, b with
  | .int i, .int j => if decide (0 < j) then .ok (.int (i % j)) st else .bad
  | _, _ => .bad
theorem dMod_ok {C : Cfg} : OpD C dMod (rI (fun _ j => 0 < j) fun i j => .int (i % j)) := by
  intro W σ η st a b x y H Q k ra rb p
  unfold dMod at p
  split at p
  · rw [Rep] at ra rb
    split at p
    · rename_i h
      exact ⟨_, _, ra, rb, of_decide_eq_true h, p.ret k (by rw [Rep])⟩
    · exact p.elim
  · exact p.elim
/-- powers of any size in the line -/
def CPowW (i j : Int) : Prop := 0 ≤ j ∧ (i.natAbs.log2 + 1) * j.toNat ≤ 1000000
theorem op_powW {X : Cx} : OpR X (binaryOp .Pow) (rI CPowW fun i j => .int (i ^ j.toNat)) := opI fun i j _ _ _ _ _ hc q => by
  refine pow_int hc.1 ?_ q
  have b : Builtin.Int.intBits i ≤ i.natAbs.log2 + 1 := by
    unfold Builtin.Int.intBits
    split <;> omega
  have h1 : (Builtin.Int.intBits i) * j.toNat ≤ (i.natAbs.log2 + 1) * j.toNat := Nat.mul_le_mul_right _ b
  have h2 := hc.2
  have h3 : ((Builtin.Int.intBits i * j.toNat : Nat) : Int) ≤ 1000000 := by omega
  have h4 : ((j.toNat : Nat) : Int) = j := Int.toNat_of_nonneg hc.1
  rw [Int.natCast_mul, h4] at h3
  have h5 : (1000000 : Int) ≤ 2 ^ 27 := by decide
  omega
def dPow (a b : D) (st : Sto) : Res D := match a, b with
  | .int i, .int j => if decide (0 ≤ j) && Nat.ble ((i.natAbs.log2 + 1) * j.toNat) 1000000 then .ok (.int (i ^ j.toNat)) st else .bad
  | _, _ => .bad
theorem dPow_ok {C : Cfg} : OpD C dPow (rI CPowW fun i j => .int (i ^ j.toNat)) := by
  intro W σ η st a b x y H Q k ra rb p
  unfold dPow at p
  split at p
  · rw [Rep] at ra rb
    split at p
    · rename_i h
      rw [Bool.and_eq_true] at h
      exact ⟨_, _, ra, rb, ⟨of_decide_eq_true h.1, Nat.le_of_ble_eq_true h.2⟩, p.ret k (by rw [Rep])⟩
    · exact p.elim
  · exact p.elim
def dNeg (a : D) (st : Sto) : Res D := match a with
  | .int i => .ok (.int (-i)) st
  | _ => .bad
theorem dNeg_ok {C : Cfg} : UnD C dNeg (rU fun i => .int (-i)) := by
  intro W σ η st a x H Q k ra p
  unfold dNeg at p
  split at p
  · rw [Rep] at ra
    exact ⟨_, ra, p.ret k (by rw [Rep])⟩
  · exact p.elim

/-! ### comparisons -/
/-- ints, by p; texts, by q -/
def dCmp (p : Int → Int → Bool) (a b : D) (st : Sto) : Res D := match a, b with
  | .int i, .int j => .ok (.bl (p i j)) st
  | _, _ => .bad
theorem dCmp_ok {C : Cfg} {p : Int → Int → Bool} : OpD C (dCmp p) (rI0 fun i j => .bl (p i j)) := by
  intro W σ η st a b x y H Q k ra rb q
  unfold dCmp at q
  split at q
  · rw [Rep] at ra rb
    exact ⟨_, _, ra, rb, q.ret k (by rw [Rep])⟩
  · exact q.elim
/-- a < b: ints, texts -/
def ltN : List Nat → List Nat → Bool
  | _, [] => false
  | [], _ :: _ => true
  | a :: as, b :: bs => Nat.blt a b || (Nat.beq a b && ltN as bs)
theorem ltN_eq : ∀ (a b : List Nat), ltN a b = decide (a < b)
  | a, [] => by
    unfold ltN
    cases a <;> simp
  | [], b :: bs => by simp [ltN]
  | a :: as, b :: bs => by
    rw [ltN, ltN_eq as bs, Bool.eq_iff_iff]
    simp only [Bool.or_eq_true, Bool.and_eq_true, decide_eq_true_eq, List.cons_lt_cons_iff, Nat.blt_eq, Nat.beq_eq]
def dLt (a b : D) (st : Sto) : Res D := match a, b with
  | .int i, .int j => .ok (.bl (decide (i < j))) st
  | .str x, .str y => .ok (.bl (ltN x y)) st
  | _, _ => .bad
abbrev rLtStr : R2 := fun x y H Q => ∃ i j, x = .str i ∧ y = .str j ∧ Q (.bl (decide (i.cps.toList < j.cps.toList))) H
abbrev rLtAll : R2 := fun x y H Q => rI0 (fun i j => .bl (decide (i < j))) x y H Q ∨ rLtStr x y H Q
theorem op_ltAll {X : Cx} : OpR X (compareOp .Lt) rLtAll := op_lt.or op_lt_str
theorem dLt_ok {C : Cfg} : OpD C dLt rLtAll := by
  intro W σ η st a b x y H Q k ra rb q
  unfold dLt at q
  split at q
  · rw [Rep] at ra rb
    exact .inl ⟨_, _, ra, rb, q.ret k (by rw [Rep])⟩
  · rw [Rep] at ra rb
    refine .inr ⟨_, _, ra, rb, q.ret k ?_⟩
    rw [Rep, ltN_eq]
  · exact q.elim
def isNon : D → Bool
  | .non => true
  | _ => false
def dIsN (a b : D) (st : Sto) : Res D := match b with
  | .non => .ok (.bl (isNon a)) st
  | _ => .bad
def dNotN (a b : D) (st : Sto) : Res D := match b with
  | .non => .ok (.bl (!isNon a)) st
  | _ => .bad
theorem rep_non {C : Cfg} {η : List Addr} {H : Hp} {a : D} {x : V} (r : Rep C η H a x) : decide (x = .non) = isNon a := by
  cases a with
  | non => rw [Rep] at r; subst r; rfl
  | bl b => rw [Rep] at r; subst r; rfl
  | int b => rw [Rep] at r; subst r; rfl
  | str b => rw [Rep] at r; subst r; rfl
  | ty b => rw [Rep] at r; subst r; rfl
  | glo b => rw [Rep] at r; obtain ⟨_, _, r⟩ := r; subst r; rfl
  | ref b => rw [Rep] at r; obtain ⟨_, _, r⟩ := r; subst r; rfl
  | tup b => rw [Rep] at r; obtain ⟨_, _, r, _⟩ := r; subst r; rfl
  | lst b => rw [Rep] at r; obtain ⟨_, _, r, _⟩ := r; subst r; rfl
  | clo b c => rw [Rep] at r; obtain ⟨_, _, _, r, _⟩ := r; subst r; rfl
  | dic b c => rw [Rep] at r; obtain ⟨_, _, r, _⟩ := r; subst r; rfl
  | ins b c e => rw [Rep] at r; obtain ⟨_, _, _, _, r, _⟩ := r; subst r; rfl
theorem dIsN_ok {C : Cfg} : OpD C dIsN (fun x y H Q => y = .non ∧ Q (.bl (decide (x = .non))) H) := by
  intro W σ η st a b x y H Q k ra rb q
  unfold dIsN at q
  split at q
  · rw [Rep] at rb
    refine ⟨rb, q.ret k ?_⟩
    rw [Rep, rep_non ra]
  · exact q.elim
theorem dNotN_ok {C : Cfg} : OpD C dNotN (fun x y H Q => y = .non ∧ Q (.bl (!decide (x = .non))) H) := by
  intro W σ η st a b x y H Q k ra rb q
  unfold dNotN at q
  split at q
  · rw [Rep] at rb
    refine ⟨rb, q.ret k ?_⟩
    rw [Rep, rep_non ra]
  · exact q.elim

/-! ### == of data -/
def bne_ (a b : Bool) : Bool := match a, b with
  | true, true => true
  | false, false => true
  | _, _ => false
def eqNs : List Nat → List Nat → Bool
  | [], [] => true
  | a :: as, b :: bs => Nat.beq a b && eqNs as bs
  | _, _ => false
theorem eqNs_eq : ∀ (a b : List Nat), eqNs a b = (a == b)
  | [], [] => rfl
  | [], _ :: _ => rfl
  | _ :: _, [] => rfl
  | a :: as, b :: bs => by
    rw [eqNs, eqNs_eq as bs, List.cons_beq_cons]
    have e : Nat.beq a b = (a == b) := by
      rw [Bool.eq_iff_iff, beq_iff_eq, Nat.beq_eq]
    rw [e]
mutual
/-- as Python's ==, on data -/
def dEq : D → D → Bool
  | .non, .non => true
  | .bl a, .bl b => a == b
  | .bl a, .int j => (if a then 1 else 0) == j
  | .int i, .bl b => i == (if b then 1 else 0)
  | .int i, .int j => i == j
  | .str x, .str y => eqNs x y
  | .tup xs, .tup ys => dEqs xs ys
  | .lst xs, .lst ys => dEqs xs ys
  | _, _ => false
def dEqs : List D → List D → Bool
  | [], [] => true
  | x :: xs, y :: ys => dEq x y && dEqs xs ys
  | _, _ => false
end
/-- signs -/
def okS (s : List Nat) : Bool := s.all fun c => Nat.blt c 1114112
theorem okS_ok {s : List Nat} (h : okS s = true) : PyData.strOk ⟨s.toArray⟩ = true := by
  unfold okS at h
  unfold PyData.strOk
  rw [List.all_eq_true] at h
  rw [Array.all_eq_true_iff_forall_mem]
  intro c hc
  have h1 := h c (by simpa using hc)
  rw [Nat.blt_eq] at h1
  exact decide_eq_true h1
mutual
/-- data of at most this depth -/
def dat : Nat → D → Bool
  | _, .non => true
  | _, .bl _ => true
  | _, .int _ => true
  | _, .str s => okS s
  | n + 1, .tup xs => dats n xs
  | n + 1, .lst xs => dats n xs
  | _, _ => false
def dats : Nat → List D → Bool
  | _, [] => true
  | n, x :: xs => dat n x && dats n xs
end
/-- keys as data -/
def kPd : Key → PyData
  | .inl i => .int i
  | .inr x => .str x
def zipK : List Key → List PyData → List (PyData × PyData)
  | k :: ks, d :: ds => (kPd k, d) :: zipK ks ds
  | _, _ => []
mutual
def pyd : D → PyData
  | .non => .none
  | .bl b => .bool b
  | .int i => .int i
  | .str s => .str ⟨s.toArray⟩
  | .tup xs => .tuple (pyds xs)
  | .lst xs => .list (pyds xs)
  | .dic ks xs => .dict (zipK ks (pyds xs))
  | _ => .none
def pyds : List D → List PyData
  | [] => []
  | x :: xs => pyd x :: pyds xs
end
mutual
theorem pyd_lay : ∀ (n : Nat) (d : D), dat n d = true → (pyd d).canLay0 = true ∧ (pyd d).depth ≤ n
  | n, .non, _ => ⟨by simp [pyd, PyData.canLay0], by simp [pyd, PyData.depth]⟩
  | n, .bl _, _ => ⟨by simp [pyd, PyData.canLay0], by simp [pyd, PyData.depth]⟩
  | n, .int _, _ => ⟨by simp [pyd, PyData.canLay0], by simp [pyd, PyData.depth]⟩
  | n, .str s, h => ⟨by simp only [pyd, PyData.canLay0]; exact okS_ok (by cases n <;> simpa [dat] using h), by simp [pyd, PyData.depth]⟩
  | 0, .tup xs, h => by simp [dat] at h
  | 0, .lst xs, h => by simp [dat] at h
  | n + 1, .tup xs, h => by
    obtain ⟨h1, h2⟩ := pyds_lay n xs (by simpa [dat] using h)
    exact ⟨by simp only [pyd, PyData.canLay0]; exact h1, by simp only [pyd, PyData.depth]; omega⟩
  | n + 1, .lst xs, h => by
    obtain ⟨h1, h2⟩ := pyds_lay n xs (by simpa [dat] using h)
    exact ⟨by simp only [pyd, PyData.canLay0]; exact h1, by simp only [pyd, PyData.depth]; omega⟩
  | n, .ty _, h => by cases n <;> simp [dat] at h
  | n, .glo _, h => by cases n <;> simp [dat] at h
  | n, .ref _, h => by cases n <;> simp [dat] at h
theorem pyds_lay : ∀ (n : Nat) (ds : List D), dats n ds = true → PyData.canLayAll0 (pyds ds) = true ∧ PyData.depthAll (pyds ds) ≤ n
  | n, [], _ => ⟨by simp [pyds, PyData.canLayAll0], by simp [pyds, PyData.depthAll]⟩
  | n, x :: xs, h => by
    rw [dats, Bool.and_eq_true] at h
    obtain ⟨h1, h2⟩ := pyd_lay n x h.1
    obtain ⟨h3, h4⟩ := pyds_lay n xs h.2
    exact ⟨by simp only [pyds, PyData.canLayAll0, h1, h3, Bool.and_self], by simp only [pyds, PyData.depthAll]; omega⟩
end
theorem pyd_shaped {n : Nat} {d : D} (h : dat n d = true) (hn : n ≤ 64) : SeqAt.shaped (pyd d) = true := by
  obtain ⟨h1, h2⟩ := pyd_lay n d h
  show ((pyd d).canLay0 && decide ((pyd d).depth ≤ 64)) = true
  rw [h1, Bool.true_and]
  exact decide_eq_true (by omega)
theorem str_beq (x y : List Nat) : ((⟨x.toArray⟩ : Str) == (⟨y.toArray⟩ : Str)) = (x == y) := by
  rw [Bool.eq_iff_iff, beq_iff_eq, beq_iff_eq]
  constructor
  · intro h
    have h1 : x.toArray = y.toArray := congrArg Str.cps h
    simpa using h1
  · intro h
    rw [h]
mutual
theorem eqv_pyd : ∀ (n : Nat) (a b : D), dat n a = true → dat n b = true → PyData.eqv (pyd a) (pyd b) = dEq a b
  | n, .non, b, _, h => by cases b <;> first | (cases n <;> simp [dat] at h; done) | (simp [pyd, PyData.eqv, dEq]; done)
  | n, .bl x, b, _, h => by cases b <;> first | (cases n <;> simp [dat] at h; done) | (simp [pyd, PyData.eqv, dEq]; done)
  | n, .int x, b, _, h => by cases b <;> first | (cases n <;> simp [dat] at h; done) | (simp [pyd, PyData.eqv, dEq]; done)
  | n, .str x, b, _, h => by cases b <;> first | (cases n <;> simp [dat] at h; done) | (simp [pyd, PyData.eqv, dEq, str_beq, eqNs_eq]; done)
  | 0, .tup xs, _, h, _ => by simp [dat] at h
  | 0, .lst xs, _, h, _ => by simp [dat] at h
  | n + 1, .tup xs, b, h, h' => by
    cases b with
    | tup ys =>
      simp only [pyd, PyData.eqv, dEq]
      exact eqvs_pyd n xs ys (by simpa [dat] using h) (by simpa [dat] using h')
    | _ => first | (simp [dat] at h'; done) | (simp [pyd, PyData.eqv, dEq]; done)
  | n + 1, .lst xs, b, h, h' => by
    cases b with
    | lst ys =>
      simp only [pyd, PyData.eqv, dEq]
      exact eqvs_pyd n xs ys (by simpa [dat] using h) (by simpa [dat] using h')
    | _ => first | (simp [dat] at h'; done) | (simp [pyd, PyData.eqv, dEq]; done)
  | n, .ty _, _, h, _ => by cases n <;> simp [dat] at h
  | n, .glo _, _, h, _ => by cases n <;> simp [dat] at h
  | n, .ref _, _, h, _ => by cases n <;> simp [dat] at h
theorem eqvs_pyd : ∀ (n : Nat) (a b : List D), dats n a = true → dats n b = true → PyData.eqvAll (pyds a) (pyds b) = dEqs a b
  | n, [], [], _, _ => by simp [pyds, PyData.eqvAll, dEqs]
  | n, [], y :: ys, _, _ => by simp [pyds, PyData.eqvAll, dEqs]
  | n, x :: xs, [], _, _ => by simp [pyds, PyData.eqvAll, dEqs]
  | n, x :: xs, y :: ys, h, h' => by
    rw [dats, Bool.and_eq_true] at h h'
    simp only [pyds, PyData.eqvAll, dEqs, eqv_pyd n x y h.1 h'.1, eqvs_pyd n xs ys h.2 h'.2]
end
section
variable {C : Cfg} {η : List Addr} {H : Hp} {st : Sto}
mutual
theorem rep_dp : ∀ (n : Nat) (d : D) (v : V), dat n d = true → Rep C η H d v → Dp C.K H v (pyd d)
  | n, .non, v, _, r => by
    rw [Rep] at r
    subst r
    simp only [pyd]
    exact .non
  | n, .bl b, v, _, r => by
    rw [Rep] at r
    subst r
    simp only [pyd]
    exact .bl b
  | n, .int b, v, _, r => by
    rw [Rep] at r
    subst r
    simp only [pyd]
    exact .int b
  | n, .str b, v, _, r => by
    rw [Rep] at r
    subst r
    simp only [pyd]
    exact .str _
  | 0, .tup xs, _, h, _ => by simp [dat] at h
  | 0, .lst xs, _, h, _ => by simp [dat] at h
  | n + 1, .tup xs, v, h, r => by
    rw [Rep] at r
    obtain ⟨a, vs, rfl, t, q⟩ := r
    simp only [pyd]
    exact .tup t.sq (reps_dp n xs vs (by simpa [dat] using h) q)
  | n + 1, .lst xs, v, h, r => by
    rw [Rep] at r
    obtain ⟨a, vs, rfl, t, q⟩ := r
    simp only [pyd]
    exact .lst t.sq (reps_dp n xs vs (by simpa [dat] using h) q)
  | n, .ty _, _, h, _ => by cases n <;> simp [dat] at h
  | n, .glo _, _, h, _ => by cases n <;> simp [dat] at h
  | n, .ref _, _, h, _ => by cases n <;> simp [dat] at h
theorem reps_dp : ∀ (n : Nat) (ds : List D) (vs : List V), dats n ds = true → RepL C η H ds vs → DpAll C.K H vs (pyds ds)
  | n, [], vs, _, r => by
    rw [RepL] at r
    subst r
    simp only [pyds]
    exact .nil
  | n, d :: ds, vs, h, r => by
    rw [RepL] at r
    obtain ⟨v, us, rfl, r1, r2⟩ := r
    rw [dats, Bool.and_eq_true] at h
    simp only [pyds]
    exact .cons (rep_dp n d v h.1 r1) (reps_dp n ds us h.2 r2)
end
/-- .. through the store -/
theorem vw_dp (n : Nat) {d : D} {v : V} (k : StOk C η st H) (h : dat n (vw st d) = true) (r : Rep C η H d v) : Dp C.K H v (pyd (vw st d)) := by
  cases e : vw st d with
  | lst ds =>
    obtain ⟨a, vs, rfl, q, q2⟩ := vw_lst k r e
    rw [e] at h
    cases n with
    | zero => simp [dat] at h
    | succ n =>
      simp only [pyd]
      exact .lst q (reps_dp n ds vs (by simpa [dat] using h) q2)
  | dic ks ds =>
    rw [e] at h
    cases n <;> simp [dat] at h
  | ins k ns ds =>
    rw [e] at h
    cases n <;> simp [dat] at h
  | _ =>
    rw [e] at h
    rcases vw_ne e rfl with ⟨m, _, z⟩ | rfl
    · cases z
      try (cases n <;> simp [dat] at h)
    · exact rep_dp n _ _ h r
end
abbrev rEqAll (K : PySem.W.Frag) : R2 := fun x y H Q => rEq x y H Q ∨ rEqD K x y H Q
abbrev rNeAll (K : PySem.W.Frag) : R2 := fun x y H Q => rNe x y H Q ∨ rNeD K x y H Q
theorem op_eqAll {X : Cx} (hu : X.A.units + 64 < cLine) : OpR X (compareOp .Eq) (rEqAll X.K) := op_eq.or (op_eqD hu)
theorem op_neAll {X : Cx} (hu : X.A.units + 64 < cLine) : OpR X (compareOp .NotEq) (rNeAll X.K) := op_ne.or (op_neD hu)
def dEqV (a b : D) (st : Sto) : Res D := match vw st a, vw st b with
  | .str x, .str y => .ok (.bl (eqNs x y)) st
  | u, v => if dat 30 u && dat 30 v then .ok (.bl (dEq u v)) st else .bad
def dNeV (a b : D) (st : Sto) : Res D := match vw st a, vw st b with
  | .str x, .str y => .ok (.bl (!eqNs x y)) st
  | u, v => if dat 30 u && dat 30 v then .ok (.bl (!dEq u v)) st else .bad
theorem dec_strN (x y : List Nat) : decide (V.str ⟨x.toArray⟩ = V.str ⟨y.toArray⟩) = eqNs x y := by
  rw [eqNs_eq, Bool.eq_iff_iff]
  simp
theorem dEqV_ok {C : Cfg} : OpD C dEqV (rEqAll C.K) := by
  intro W σ η st a b x y H Q k ra rb p
  unfold dEqV at p
  split at p
  · rename_i s t e1 e2
    rw [vw_str ra e1, vw_str rb e2]
    refine .inl ⟨rfl, p.ret k ?_⟩
    rw [Rep, dec_strN]
  split at p
  · rename_i h
    rw [Bool.and_eq_true] at h
    refine .inr ⟨_, _, vw_dp 30 k h.1 ra, vw_dp 30 k h.2 rb, pyd_shaped h.1 (by decide), pyd_shaped h.2 (by decide), p.ret k ?_⟩
    rw [Rep, eqv_pyd 30 _ _ h.1 h.2]
  · exact p.elim
theorem dNeV_ok {C : Cfg} : OpD C dNeV (rNeAll C.K) := by
  intro W σ η st a b x y H Q k ra rb p
  unfold dNeV at p
  split at p
  · rename_i s t e1 e2
    rw [vw_str ra e1, vw_str rb e2]
    refine .inl ⟨rfl, p.ret k ?_⟩
    rw [Rep, dec_strN]
  split at p
  · rename_i h
    rw [Bool.and_eq_true] at h
    refine .inr ⟨_, _, vw_dp 30 k h.1 ra, vw_dp 30 k h.2 rb, pyd_shaped h.1 (by decide), pyd_shaped h.2 (by decide), p.ret k ?_⟩
    rw [Rep, eqv_pyd 30 _ _ h.1 h.2]
  · exact p.elim
/-! ### in, of flat items -/
def flatD : D → Bool
  | .non => true
  | .bl _ => true
  | .int _ => true
  | .str _ => true
  | _ => false
theorem rep_flat {C : Cfg} {η : List Addr} {H : Hp} {d : D} {v : V} (f : flatD d = true) (r : Rep C η H d v) : flatV v = true := by
  cases d <;> first | (rw [Rep] at r; subst r; rfl) | cases f
theorem rep_eqV {C : Cfg} {η : List Addr} {H : Hp} {d e : D} {v u : V} (f : flatD d = true) (g : flatD e = true) (r : Rep C η H d v) (q : Rep C η H e u) : eqV v u = dEq d e := by
  cases d <;> first | (simp [flatD] at f; done) | skip
  all_goals (rw [Rep] at r; subst r)
  all_goals (cases e <;> first | (simp [flatD] at g; done) | skip)
  all_goals (rw [Rep] at q; subst q)
  all_goals simp [eqV, dEq, str_beq, eqNs_eq]
theorem rep_flats {C : Cfg} {η : List Addr} {H : Hp} : ∀ {ds : List D} {vs : List V}, ds.all flatD = true → RepL C η H ds vs → vs.all flatV = true
  | [], _, _, r => by
    rw [RepL] at r
    subst r
    rfl
  | d :: ds, _, f, r => by
    rw [RepL] at r
    obtain ⟨v, us, rfl, r1, r2⟩ := r
    rw [List.all_cons, Bool.and_eq_true] at f
    rw [List.all_cons, rep_flat f.1 r1, rep_flats f.2 r2]
    rfl
theorem rep_inV {C : Cfg} {η : List Addr} {H : Hp} {x : D} {v : V} (fx : flatD x = true) (rx : Rep C η H x v) : ∀ {ds : List D} {vs : List V}, ds.all flatD = true → RepL C η H ds vs → inV v vs = ds.any fun d => dEq d x
  | [], _, _, r => by
    rw [RepL] at r
    subst r
    rfl
  | d :: ds, _, f, r => by
    rw [RepL] at r
    obtain ⟨u, us, rfl, r1, r2⟩ := r
    rw [List.all_cons, Bool.and_eq_true] at f
    have h := rep_inV fx rx f.2 r2
    show (eqV u v || inV v us) = _
    rw [h, rep_eqV f.1 fx r1 rx, List.any_cons]
def items (st : Sto) (d : D) : Option (List D) := match vw st d with
  | .lst ds => some ds
  | .tup ds => some ds
  | _ => none
theorem items_sq {C : Cfg} {η : List Addr} {H : Hp} {st : Sto} {d : D} {v : V} {ds : List D} (k : StOk C η st H) (r : Rep C η H d v) (e : items st d = some ds) : ∃ a vs, v = .ref a ∧ (SqL C.K H a vs ∨ SqT C.K H a vs) ∧ RepL C η H ds vs := by
  unfold items at e
  split at e
  · rename_i xs h
    cases e
    obtain ⟨a, vs, e1, q, q2⟩ := vw_lst k r h
    exact ⟨a, vs, e1, .inl q, q2⟩
  · rename_i xs h
    cases e
    obtain ⟨a, vs, e1, q, q2⟩ := vw_tup r h
    exact ⟨a, vs, e1, .inr q, q2⟩
  · cases e
def dIn (neg : Bool) (a b : D) (st : Sto) : Res D := match items st b with
  | some ds => if flatD a && ds.all flatD then .ok (.bl (if neg then !(ds.any fun d => dEq d a) else ds.any fun d => dEq d a)) st else .bad
  | none => .bad
theorem dIn_ok {C : Cfg} {neg : Bool} : OpD C (dIn neg) (rIn C.K neg) := by
  intro W σ η st a b x y H Q k ra rb p
  unfold dIn at p
  split at p
  · rename_i ds e
    obtain ⟨a1, vs, rfl, q, r⟩ := items_sq k rb e
    split at p
    · rename_i h
      rw [Bool.and_eq_true] at h
      refine ⟨a1, vs, rfl, q, rep_flat h.1 ra, rep_flats h.2 r, p.ret k ?_⟩
      rw [Rep, rep_inV h.1 ra h.2 r]
    · exact p.elim
  · exact p.elim
end G

set_option Elab.async false
set_option linter.all false
set_option maxRecDepth 100000
set_option maxHeartbeats 4000000
/-! Items, slices, calls. -/
namespace G
open PySem PySem.Spec PyProof.Rows L2

section
variable {X : Cx} {C : Cfg} {a b c e : Expr} {es : List Expr} {fa fb fc f : Ev} {fs : EvA} {ft fu : EvT} {pos p2 : Pos}
/-! ### items -/
theorem atI_rep {η : List Addr} {H : Hp} {ds : List D} {vs : List V} {i : Int} {d : D} (r : RepL C η H ds vs) (h : atI ds i = some d) : ∃ v, atI vs i = some v ∧ Rep C η H d v := by
  unfold atI at h ⊢
  rw [← r.length]
  cases e : ixN ds.length i with
  | none => rw [e] at h; cases h
  | some j =>
    rw [e] at h
    exact r.get h
def dIx (a b : D) (st : Sto) : Res D := match b with
  | .int i => (match vw st a with
    | .lst ds => (match atI ds i with
      | some d => .ok d st
      | none => .bad)
    | .tup ds => (match atI ds i with
      | some d => .ok d st
      | none => .bad)
    | .str s => if big s.length then (match atI s i with
      | some c => .ok (.str [c]) st
      | none => .bad) else .bad
    | _ => .bad)
  | _ => .bad
theorem dIx_ok : OpD C dIx (rIx C.K) := by
  intro W σ η st a b x y H Q k ra rb p
  unfold dIx at p
  split at p
  · rename_i i
    rw [Rep] at rb
    split at p
    · rename_i ds e
      obtain ⟨a1, vs, rfl, q, r⟩ := vw_lst k ra e
      split at p
      · rename_i d h
        obtain ⟨v, h2, rd⟩ := atI_rep r h
        exact .inl ⟨a1, vs, i, v, rfl, rb, q, h2, p.ret k rd⟩
      · exact p.elim
    · rename_i ds e
      obtain ⟨a1, vs, rfl, q, r⟩ := vw_tup ra e
      split at p
      · rename_i d h
        obtain ⟨v, h2, rd⟩ := atI_rep r h
        exact .inr (.inl ⟨a1, vs, i, v, rfl, rb, q, h2, p.ret k rd⟩)
      · exact p.elim
    · rename_i s e
      rw [vw_str ra e]
      split at p
      · rename_i hb
        split at p
        · rename_i c h
          refine .inr (.inr ⟨_, i, c, rfl, rb, big_line hb, h, p.ret k ?_⟩)
          rw [Rep]
        · exact p.elim
      · exact p.elim
    · exact p.elim
  · exact p.elim
theorem SE.ix (hK : X.K = C.K) (ha : SE X C a fa) (hb : SE X C b fb) (hs : PlainIx b := by intro _ _; rfl) : SE X C (.Subscript a b pos) (cBin dIx fa fb) := ⟨fun W tk => PE_imp (pe_ix ix_seq (ha.run W tk) (hb.run W tk) hs) fun _ _ _ h => by
  rw [hK]
  exact bin_imp dIx_ok h⟩

/-! ### slices -/
structure SO_ (X : Cx) (C : Cfg) (e : Option Expr) (f : Env → Sto → Res (Option Int)) : Prop where
  run : ∀ W, Takes X W → PO X e (fun σ H Q => ∃ η ρ st, StOk C η st H ∧ EnvOk C η H ρ σ ∧ Post C W σ (fun _ _ a b => a = b) η H (f ρ st) Q)
def cNoP : Env → Sto → Res (Option Int) := fun _ st => .ok none st
def cPart (f : Ev) : Env → Sto → Res (Option Int) := fun ρ st => (f ρ st).bind fun d st1 => match d with
  | .int i => .ok (some i) st1
  | _ => .bad
theorem PO_imp {X : Cx} {e : Option Expr} {t t' : TO} (h : PO X e t) (i : ∀ σ H Q, t' σ H Q → t σ H Q) : PO X e t' := ⟨fun pins s σ H Q I q => h.run pins s σ H Q I (i σ H Q q)⟩
theorem SO_.no : SO_ X C none cNoP := ⟨fun W tk => PO_imp po_none fun σ H Q ⟨η, ρ, st, k, en, p⟩ => p.ret k rfl⟩
theorem SO_.part (h : SE X C e f) : SO_ X C (some e) (cPart f) := ⟨fun W tk => PO_imp (po_some (h.run W tk)) fun σ H Q ⟨η, ρ, st, k, en, p⟩ =>
  ⟨η, ρ, st, k, en, Post.bind (R := Rep C) (r := f ρ st) p fun d st1 v η1 H1 _ s1 k1 ra p1 => by
    cases d with
    | int i =>
      rw [Rep] at ra
      exact ⟨i, ra, p1.ret k1 rfl⟩
    | _ => exact p1.elim⟩⟩
def cut {α : Type} (xs : List α) (lo hi : Option Int) : List α := (xs.drop (HT.sIx xs.length 0 lo)).take (HT.sIx xs.length xs.length hi - HT.sIx xs.length 0 lo)
def dSl (a : D) (lo hi : Option Int) (st : Sto) : Res D := match vw st a with
  | .lst ds => .ok (.lst (cut ds lo hi)) st
  | .tup ds => .ok (.tup (cut ds lo hi)) st
  | .str s => if big s.length then .ok (.str (cut s lo hi)) st else .bad
  | _ => .bad
def cSl (f : Ev) (lo hi : Env → Sto → Res (Option Int)) : Ev := fun ρ st => (f ρ st).bind fun d st1 => (lo ρ st1).bind fun l st2 => (hi ρ st2).bind fun h st3 => dSl d l h st3
abbrev rSlAll (K : PySem.W.Frag) : V → Option Int → Option Int → Hp → VK → Prop := fun x lo hi H Q => rSlL K x lo hi H Q ∨ rSlA K x lo hi H Q ∨ rSlS x lo hi H Q
theorem cut_len {α β : Type} {xs : List α} {ys : List β} (h : xs.length = ys.length) (lo hi : Option Int) : HT.sIx xs.length 0 lo = HT.sIx ys.length 0 lo ∧ HT.sIx xs.length xs.length hi = HT.sIx ys.length ys.length hi := by
  rw [h]
  exact ⟨rfl, rfl⟩
theorem RepL.cut {η : List Addr} {H : Hp} {ds : List D} {vs : List V} (r : RepL C η H ds vs) (lo hi : Option Int) : RepL C η H (G.cut ds lo hi) (cutV vs lo hi) := by
  obtain ⟨h1, h2⟩ := cut_len r.length lo hi
  unfold G.cut cutV
  rw [h1, h2]
  exact (r.drop _).take _
theorem cut_whole {α : Type} (xs : List α) {lo hi : Option Int} (h : HT.sIx xs.length 0 lo = 0 ∧ HT.sIx xs.length xs.length hi = xs.length) : cut xs lo hi = xs := by
  unfold cut
  rw [h.1, h.2]
  simp
theorem SE.slice {lo hi : Option Expr} {fl fh : Env → Sto → Res (Option Int)} (hK : X.K = C.K) (ha : SE X C a fa) (hl : SO_ X C lo fl) (hh : SO_ X C hi fh) : SE X C (.Subscript a (.Slice lo hi none p2) pos) (cSl fa fl fh) :=
  ⟨fun W tk => PE_imp (pe_slice (sl_list.or (sl_tupA.or sl_str)) (ha.run W tk) (hl.run W tk) (hh.run W tk)) fun σ H Q ⟨η, ρ, st, k, en, p⟩ =>
    ⟨η, ρ, st, k, en, Post.bind (R := Rep C) (r := fa ρ st) p fun d st1 v η1 H1 _ s1 k1 rd p1 =>
      ⟨η1, ρ, st1, k1, en.mono s1, Post.bind (R := fun _ _ a b => a = b) (r := fl ρ st1) p1 fun l st2 l' η2 H2 _ s2 k2 el p2 =>
        ⟨η2, ρ, st2, k2, en.mono (s1.trans s2), Post.bind (R := fun _ _ a b => a = b) (r := fh ρ st2) p2 fun h st3 h' η3 H3 _ s3 k3 eh p3 => by
          subst el eh
          have rd' := rd.mono (s2.trans s3)
          unfold dSl at p3
          rw [hK]
          split at p3
          · rename_i ds e
            obtain ⟨a1, vs, rfl, q, r⟩ := vw_lst k3 rd' e
            exact .inl ⟨a1, vs, rfl, q, p3.lst k3 (r.cut l h)⟩
          · rename_i ds e
            obtain ⟨a1, vs, rfl, q, r⟩ := vw_tup rd' e
            refine .inr (.inl ⟨a1, vs, rfl, q, fun w => ?_, fun _ => p3.tup k3 (r.cut l h)⟩)
            obtain ⟨h1, h2⟩ := cut_len r.length l h
            have w' : HT.sIx ds.length 0 l = 0 ∧ HT.sIx ds.length ds.length h = ds.length := by
              rw [h1, h2, r.length]
              exact w
            rw [cut_whole ds w'] at p3
            rcases vw_ne e rfl with ⟨n, _, z⟩ | rfl
            · cases z
            · exact p3.ret k3 rd'
          · rename_i s e
            rw [vw_str rd' e]
            split at p3
            · rename_i hb
              refine .inr (.inr ⟨_, rfl, big_line hb, p3.ret k3 ?_⟩)
              rw [Rep]
              rfl
            · exact p3.elim
          · exact p3.elim⟩⟩⟩⟩
/-- xs[::-1] of a list -/
def dRev (a : D) (st : Sto) : Res D := match vw st a with
  | .lst ds => .ok (.lst ds.reverse) st
  | _ => .bad

/-! ### built-in functions -/
def CallD (C : Cfg) (g : Fn) (r : List V → Hp → VK → Prop) : Prop := ∀ (W : WX) (σ : L2.St) (η : List Addr) (st : Sto) (ds : List D) (vs : List V) (H : Hp) (Q : VK), StOk C η st H → RepL C η H ds vs → Post C W σ (Rep C) η H (g ds st) Q → r vs H Q
def cArgs (g : Fn) (fs : EvA) : Ev := fun ρ st => (fs ρ st).bind fun ds st1 => g ds st1
theorem args_imp {g : Fn} {r : List V → Hp → VK → Prop} (o : CallD C g r) {W : WX} {σ : L2.St} {H : Hp} {Q : VK} (h : tE C W (cArgs g fs) σ H Q) : tCB r (tAr C W fs) σ H Q := by
  obtain ⟨η, ρ, st, k, en, p⟩ := h
  exact ⟨η, ρ, st, k, en, Post.bind (R := RepL C) (r := fs ρ st) p fun ds st1 vs η1 H1 _ s1 k1 rs p1 => o W σ η1 st1 ds vs H1 Q k1 rs p1⟩
variable {x : Str} {bid T : String} {r : List V → Hp → VK → Prop} {g : Fn} {p : Pos}
theorem SE.callB (hc : CallR X (.builtin bid) r) (o : CallD C g r) (hg : Gl X x) (hm : X.mg x = none) (hv : bootBuiltins x = some (.builtin bid)) (ha : SA X C (e :: es) fs) (hn : x ≠ "__name__" := by decide) (hdb : (x == ("__debug__" : Str)) = false := by decide)
    (he : starEach (e :: es) X.env = (false, eval e X.env) :: starEach es X.env := by rfl) (hpl : (backTo pos (starEach es X.env)).any (·.1) = false := by rfl) : SE X C (.Call (.Name x p) (e :: es) [] pos) (cArgs g fs) :=
  ⟨fun W tk => PE_imp (pe_callB hc hg hm hv (ha.run W tk) hn hdb he hpl) fun _ _ _ h => args_imp o h⟩
theorem SE.callTy (hc : CallR X (.type T) r) (o : CallD C g r) (hg : Gl X x) (hm : X.mg x = none) (hv : bootBuiltins x = some (.type T)) (ha : SA X C (e :: es) fs) (hn : x ≠ "__name__" := by decide) (hdb : (x == ("__debug__" : Str)) = false := by decide)
    (he : starEach (e :: es) X.env = (false, eval e X.env) :: starEach es X.env := by rfl) (hpl : (backTo pos (starEach es X.env)).any (·.1) = false := by rfl) : SE X C (.Call (.Name x p) (e :: es) [] pos) (cArgs g fs) :=
  ⟨fun W tk => PE_imp (pe_callTy hc hg hm hv (ha.run W tk) hn hdb he hpl) fun _ _ _ h => args_imp o h⟩
theorem RepL.one_inv {η : List Addr} {H : Hp} {d : D} {vs : List V} (r : RepL C η H [d] vs) : ∃ v, vs = [v] ∧ Rep C η H d v := by
  rw [RepL] at r
  obtain ⟨v, u, rfl, h1, h2⟩ := r
  rw [RepL] at h2
  subst h2
  exact ⟨v, rfl, h1⟩
theorem RepL.two_inv {η : List Addr} {H : Hp} {d e : D} {vs : List V} (r : RepL C η H [d, e] vs) : ∃ v u, vs = [v, u] ∧ Rep C η H d v ∧ Rep C η H e u := by
  rw [RepL] at r
  obtain ⟨v, w, rfl, h1, h2⟩ := r
  obtain ⟨u, rfl, h3⟩ := h2.one_inv
  exact ⟨v, u, rfl, h1, h3⟩
def dLen : Fn := fun ds st => match ds with
  | [d] => (match vw st d with
    | .lst xs => .ok (.int xs.length) st
    | .tup xs => .ok (.int xs.length) st
    | .str s => if big s.length then .ok (.int s.length) st else .bad
    | _ => .bad)
  | _ => .bad
theorem dLen_ok : CallD C dLen (fun xs H Q => ∃ x n, xs = [x] ∧ LenV C.K x H n ∧ Q (.int n) H) := by
  intro W σ η st ds vs H Q k rs p
  unfold dLen at p
  split at p
  · rename_i d
    obtain ⟨v, rfl, rd⟩ := rs.one_inv
    split at p
    · rename_i xs e
      obtain ⟨a1, us, rfl, q, r⟩ := vw_lst k rd e
      exact ⟨_, xs.length, rfl, .inl ⟨us, q, r.length⟩, p.ret k (by rw [Rep])⟩
    · rename_i xs e
      obtain ⟨a1, us, rfl, q, r⟩ := vw_tup rd e
      exact ⟨_, xs.length, rfl, .inr ⟨us, q, r.length⟩, p.ret k (by rw [Rep])⟩
    · rename_i s e
      rw [vw_str rd e]
      split at p
      · rename_i hb
        exact ⟨_, s.length, rfl, ⟨big_line hb, rfl⟩, p.ret k (by rw [Rep])⟩
      · exact p.elim
    · exact p.elim
  · exact p.elim
def dAbs : Fn := fun ds st => match ds with
  | [.int i] => .ok (.int (if i < 0 then -i else i)) st
  | _ => .bad
theorem dAbs_ok : CallD C dAbs (fun xs H Q => ∃ i, xs = [.int i] ∧ Q (.int (if i < 0 then -i else i)) H) := by
  intro W σ η st ds vs H Q k rs p
  unfold dAbs at p
  split at p
  · rename_i i
    obtain ⟨v, rfl, rd⟩ := rs.one_inv
    rw [Rep] at rd
    subst rd
    exact ⟨i, rfl, p.ret k (by rw [Rep])⟩
  · exact p.elim
def dMax2 : Fn := fun ds st => match ds with
  | [.int i, .int j] => .ok (.int (if j > i then j else i)) st
  | _ => .bad
theorem dMax2_ok : CallD C dMax2 (fun xs H Q => ∃ i j, xs = [.int i, .int j] ∧ Q (.int (if j > i then j else i)) H) := by
  intro W σ η st ds vs H Q k rs p
  unfold dMax2 at p
  split at p
  · rename_i i j
    obtain ⟨v, u, rfl, rd, re⟩ := rs.two_inv
    rw [Rep] at rd re
    subst rd re
    exact ⟨i, j, rfl, p.ret k (by rw [Rep])⟩
  · exact p.elim
def dMin2 : Fn := fun ds st => match ds with
  | [.int i, .int j] => .ok (.int (if j < i then j else i)) st
  | _ => .bad
theorem dMin2_ok : CallD C dMin2 (fun xs H Q => ∃ i j, xs = [.int i, .int j] ∧ Q (.int (if j < i then j else i)) H) := by
  intro W σ η st ds vs H Q k rs p
  unfold dMin2 at p
  split at p
  · rename_i i j
    obtain ⟨v, u, rfl, rd, re⟩ := rs.two_inv
    rw [Rep] at rd re
    subst rd re
    exact ⟨i, j, rfl, p.ret k (by rw [Rep])⟩
  · exact p.elim
def dInt1 : Fn := fun ds st => match ds with
  | [.int i] => .ok (.int i) st
  | [.bl b] => .ok (.int (if b then 1 else 0)) st
  | _ => .bad
theorem dInt1_ok : CallD C dInt1 (fun xs H Q => (∃ i, xs = [.int i] ∧ Q (.int i) H) ∨ ∃ k, xs = [.bl k] ∧ Q (.int (if k then 1 else 0)) H) := by
  intro W σ η st ds vs H Q k rs p
  unfold dInt1 at p
  split at p
  · rename_i i
    obtain ⟨v, rfl, rd⟩ := rs.one_inv
    rw [Rep] at rd
    subst rd
    exact .inl ⟨i, rfl, p.ret k (by rw [Rep])⟩
  · rename_i i
    obtain ⟨v, rfl, rd⟩ := rs.one_inv
    rw [Rep] at rd
    subst rd
    exact .inr ⟨i, rfl, p.ret k (by rw [Rep])⟩
  · exact p.elim
def dTuple : Fn := fun ds st => match ds with
  | [d] => (match vw st d with
    | .lst xs => .ok (.tup xs) st
    | .tup xs => .ok (.tup xs) st
    | _ => .bad)
  | _ => .bad
theorem dTuple_ok : CallD C dTuple (fun xs H Q => ∃ p ys, xs = [.ref p] ∧ ((SqL C.K H p ys ∧ ∀ l, H l = none → Q (.ref l) (upd H l (.tup ys))) ∨ (SqT C.K H p ys ∧ Q (.ref p) H))) := by
  intro W σ η st ds vs H Q k rs p
  unfold dTuple at p
  split at p
  · rename_i d
    obtain ⟨v, rfl, rd⟩ := rs.one_inv
    split at p
    · rename_i xs e
      obtain ⟨a1, us, rfl, q, r⟩ := vw_lst k rd e
      exact ⟨a1, us, rfl, .inl ⟨q, p.tup k r⟩⟩
    · rename_i xs e
      obtain ⟨a1, us, rfl, q, r⟩ := vw_tup rd e
      rcases vw_ne e rfl with ⟨n, _, z⟩ | rfl
      · cases z
      · exact ⟨a1, us, rfl, .inr ⟨q, p.ret k rd⟩⟩
    · exact p.elim
  · exact p.elim
abbrev rListOf (K : PySem.W.Frag) : List V → Hp → VK → Prop := fun xs H Q => ∃ p ys, xs = [.ref p] ∧ (SqL K H p ys ∨ SqT K H p ys) ∧ ∀ l, H l = none → Q (.ref l) (upd H l (.lst ys))
def dList : Fn := fun ds st => match ds with
  | [d] => (match items st d with
    | some xs => .ok (.lst xs) st
    | none => .bad)
  | _ => .bad
theorem dList_ok : CallD C dList (rListOf C.K) := by
  intro W σ η st ds vs H Q k rs p
  unfold dList at p
  split at p
  · rename_i d
    obtain ⟨v, rfl, rd⟩ := rs.one_inv
    split at p
    · rename_i xs e
      obtain ⟨a1, us, rfl, q, r⟩ := items_sq k rd e
      exact ⟨a1, us, rfl, q, p.lst k r⟩
    · exact p.elim
  · exact p.elim
/-- .. that may change -/
def dListN : Fn := fun ds st => match ds with
  | [d] => (match items st d with
    | some xs => .ok (.ref st.length) (st ++ [.lst xs])
    | none => .bad)
  | _ => .bad
theorem dListN_ok : CallD C dListN (rListOf C.K) := by
  intro W σ η st ds vs H Q k rs p
  unfold dListN at p
  split at p
  · rename_i d
    obtain ⟨v, rfl, rd⟩ := rs.one_inv
    split at p
    · rename_i xs e
      obtain ⟨a1, us, rfl, q, r⟩ := items_sq k rd e
      exact ⟨a1, us, rfl, q, p.new k r⟩
    · exact p.elim
  · exact p.elim
/-- the bools of a list -/
def blsOf : List D → Option (List Bool)
  | [] => some []
  | .bl b :: ds => (match blsOf ds with
    | some bs => some (b :: bs)
    | none => none)
  | _ => none
theorem blsOf_rep {η : List Addr} {H : Hp} : ∀ {ds : List D} {vs : List V} {bs : List Bool}, blsOf ds = some bs → RepL C η H ds vs → vs = bs.map V.bl
  | [], _, _, h, r => by
    rw [RepL] at r
    cases h
    exact r
  | d :: ds, _, _, h, r => by
    rw [RepL] at r
    obtain ⟨v, u, rfl, h1, h2⟩ := r
    cases d with
    | bl b =>
      unfold blsOf at h
      cases e : blsOf ds with
      | none => rw [e] at h; cases h
      | some bs =>
        rw [e] at h
        cases h
        rw [Rep] at h1
        subst h1
        rw [List.map_cons, ← blsOf_rep e h2]
    | _ => cases h
def dAll : Fn := fun ds st => match ds with
  | [d] => (match vw st d with
    | .lst xs => (match blsOf xs with
      | some bs => .ok (.bl (bs.all fun b => b)) st
      | none => .bad)
    | _ => .bad)
  | _ => .bad
theorem dAll_ok : CallD C dAll (rAll C.K) := by
  intro W σ η st ds vs H Q k rs p
  unfold dAll at p
  split at p
  · rename_i d
    obtain ⟨v, rfl, rd⟩ := rs.one_inv
    split at p
    · rename_i xs e
      obtain ⟨a1, us, rfl, q, r⟩ := vw_lst k rd e
      split at p
      · rename_i bs hb
        rw [blsOf_rep hb r] at q
        exact ⟨a1, bs, rfl, q, p.ret k (by rw [Rep]; rfl)⟩
      · exact p.elim
    · exact p.elim
  · exact p.elim
def dAny : Fn := fun ds st => match ds with
  | [d] => (match vw st d with
    | .lst xs => (match blsOf xs with
      | some bs => .ok (.bl (bs.any fun b => b)) st
      | none => .bad)
    | _ => .bad)
  | _ => .bad
theorem dAny_ok : CallD C dAny (rAny C.K) := by
  intro W σ η st ds vs H Q k rs p
  unfold dAny at p
  split at p
  · rename_i d
    obtain ⟨v, rfl, rd⟩ := rs.one_inv
    split at p
    · rename_i xs e
      obtain ⟨a1, us, rfl, q, r⟩ := vw_lst k rd e
      split at p
      · rename_i bs hb
        rw [blsOf_rep hb r] at q
        exact ⟨a1, bs, rfl, q, p.ret k (by rw [Rep]; rfl)⟩
      · exact p.elim
    · exact p.elim
  · exact p.elim
end

/-! ### isinstance -/
/-- the type of a value -/
def tyD : D → Option Ty
  | .non => some .none
  | .bl _ => some .bool
  | .int _ => some .int
  | .str _ => some .str
  | .tup _ => some .tuple
  | .lst _ => some .list
  | .dic _ _ => some .dict
  | _ => none
def isT : Ty → Ty → Bool
  | .int, .int => true | .bool, .bool => true | .str, .str => true | .tuple, .tuple => true | .list, .list => true | .dict, .dict => true | .none, .none => true | .set, .set => true | .float, .float => true
  | .bool, .int => true
  | _, _ => false
theorem isT_ok (K : PySem.W.Frag) : ∀ a b : Ty, PySem.W.kitOne K (.type a.name) (.type b.name) = some (isT a b) := by
  intro a b
  cases a <;> cases b <;> exact kit_ty (by decide +kernel)
theorem tyD_ok {C : Cfg} {η : List Addr} {H : Hp} {st : Sto} {d : D} {v : V} {t : Ty} (k : StOk C η st H) (r : Rep C η H d v) (h : tyD (vw st d) = some t) : TyX C.K H v (.type t.name) := by
  cases e : vw st d with
  | non => rw [e] at h; cases h; rw [vw_non r e]; exact .base .non
  | bl b => rw [e] at h; cases h; rw [vw_bl r e]; exact .base (.bl b)
  | int b => rw [e] at h; cases h; rw [vw_int r e]; exact .base (.int b)
  | str b => rw [e] at h; cases h; rw [vw_str r e]; exact .base (.str _)
  | tup ds =>
    rw [e] at h
    cases h
    obtain ⟨a, vs, rfl, q, _⟩ := vw_tup r e
    rcases q with (q | ⟨o, q⟩) | ⟨o, its, n, q, q2, _⟩
    · exact .base (.tup q)
    · exact .fTuple q
    · exact .kTuple q q2
  | lst ds =>
    rw [e] at h
    cases h
    obtain ⟨a, vs, rfl, q, _⟩ := vw_lst k r e
    rcases q with (q | ⟨o, q⟩) | ⟨o, its, n, q, q2, _⟩
    · exact .base (.lst q)
    · exact .base (.frz q)
    · exact .kList q q2
  | dic ks ds =>
    rw [e] at h
    cases h
    obtain ⟨a, kvs, rfl, q, _⟩ := vw_dic k r e
    rcases q with q | ⟨o, q⟩
    · exact .base (.dK q)
    · exact .fDict q
  | _ => rw [e] at h; cases h
def dIsi : Fn := fun ds st => match ds with
  | [d, .ty t] => (match tyD (vw st d) with
    | some u => .ok (.bl (isT u t)) st
    | none => .bad)
  | _ => .bad
theorem dIsi_ok {C : Cfg} : CallD C dIsi (rIsi C.K) := by
  intro W σ η st ds vs H Q k rs p
  unfold dIsi at p
  split at p
  · rename_i d t
    obtain ⟨v, u, rfl, rd, rt⟩ := rs.two_inv
    rw [Rep] at rt
    subst rt
    split at p
    · rename_i w h
      exact ⟨v, _, _, _, _, rfl, .ty _, tyD_ok k rd h, isT_ok C.K w t, p.ret k (by rw [Rep])⟩
    · exact p.elim
  · exact p.elim

/-! ### repr -/
/-- flat values of a dict, as data -/
def vPd : V → PyData
  | .bl b => .bool b
  | .int i => .int i
  | .str s => .str s
  | _ => .none
def vFl : V → Bool
  | .non => true
  | .bl _ => true
  | .int _ => true
  | .str _ => true
  | _ => false
/-- data; a dict of flat values -/
inductive Da (K : PySem.W.Frag) (H : Hp) : V → PyData → Prop
  | dp {y : V} {d : PyData} : Dp K H y d → d.canLay0 = true → Da K H y d
  | dic {a : Addr} {kvs : List (Key × V)} : Rd H a (.dK kvs) → (∀ q ∈ kvs, vFl q.2 = true) → Da K H (.ref a) (.dict (kvs.map fun q => (kPd q.1, vPd q.2)))
theorem flat_reads {h : Heap} {v : V} {u : Value} (f : vFl v = true) (r : RelV v u) : Reads h u (vPd v) [] := by
  cases v with
  | non =>
    cases (show u = Value.none from r)
    exact .none
  | bl b =>
    cases (show u = Value.bool b from r)
    exact .bool b
  | int i =>
    obtain ⟨t, e⟩ := (show ∃ t, u = Value.int i t from r)
    subst e
    exact .int i t
  | str x =>
    obtain ⟨t, e⟩ := (show ∃ t, u = Value.str x t from r)
    subst e
    exact .str x t
  | _ => cases f
theorem key_reads {h : Heap} {k : Key} {u : Value} (e : keyIs k u = true) : Reads h u (kPd k) [] := by
  rcases keyIs_shape e with ⟨i, t, rfl, rfl⟩ | ⟨x, t, rfl, rfl⟩
  · exact .int i t
  · exact .str x t
theorem pairs_reads {P : Program} {w : World} {h : Heap} : ∀ {es : List DictEntry} {kvs : List (Key × V)} {vs : List (Key × Value)}, PySem.Pairs (mixKind P w) es vs → KV kvs vs → (∀ q ∈ kvs, vFl q.2 = true) →
    ReadsAll h (es.map (·.key)) ((kvs.map fun q => (kPd q.1, vPd q.2)).map (·.1)) [] ∧ ReadsAll h (es.map (·.val)) ((kvs.map fun q => (kPd q.1, vPd q.2)).map (·.2)) [] := by
  intro es kvs vs hp
  induction hp generalizing kvs with
  | nil =>
    intro r _
    cases r
    exact ⟨.nil, .nil⟩
  | @cons e kv es vs h1 h2 h3 ih =>
    intro r f
    cases r with
    | @cons q _ qs _ r1 r2 =>
      obtain ⟨i1, i2⟩ := ih r2 fun x hx => f x (.tail _ hx)
      have k1 : keyIs kv.1 e.key = true := h1
      rw [← r1.1] at k1
      have k2 : RelV q.2 e.val := by
        rw [h2]
        exact r1.2
      exact ⟨.cons (as := []) (bs := []) (key_reads k1) i1, .cons (as := []) (bs := []) (flat_reads (f q (.head _)) k2) i2⟩
theorem Da.reads {X : Cx} {pins : List (Addr × Obj)} {σ : L2.St} {H : Hp} {s : Shared} (I : Inv X pins σ H s) {y : V} {d : PyData} {u : Value} (h : Da X.K H y d) (r : RelV y u) : ∃ as, Reads s.heap u d as ∧ (d.hasDict = true → sysModules ∉ as) := by
  cases h with
  | dp h l =>
    obtain ⟨as, rd⟩ := Dp.reads I d y u h r
    exact ⟨as, rd, PyData.noDict_hsm (PyData.hasDict_of_canLay d l)⟩
  | @dic a kvs e f =>
    cases (show u = Value.ref a from r)
    obtain ⟨_, hs, vs, rel, o, es, ep, ho, hx, hd, _, hp, _⟩ := dk_rd I.hok e
    obtain ⟨r1, r2⟩ := pairs_reads (h := s.heap) hp rel f
    refine ⟨_, Reads.dict ho hx.1 hd r1 r2, fun _ z => ?_⟩
    have z2 : sysModules = a := by simpa using z
    rw [z2] at hs
    simp at hs
/-- repr of data; the guards are known -/
theorem call_reprD {X : Cx} (hg : X.A.guards = some []) (hu : X.A.units + 64 < cLine) : CallR X (.builtin "repr") (fun xs H Q => ∃ v d, xs = [v] ∧ Da X.K H v d ∧ d.depth ≤ 60 ∧ d.showable = true ∧ d.shown.length ≤ sizeLine ∧ Q (.str d.shown) H) := by
  intro pins s σ H xs us Q I r h
  obtain ⟨v, d, rfl, hd, hp, hs, hz, q⟩ := h
  obtain ⟨u, rfl, ru⟩ := vals1 r
  have big : ∀ {a : Addr}, u = .ref a → wpAny (model X.prog X.w) X.A (call (.builtin "repr") [u]) (EP X pins σ Q) X.xe s := fun {a} e => by
    subst e
    obtain ⟨as, rd, hm⟩ := Da.reads I hd ru
    refine repr_of_reads' rd hs hm hg (by omega) (fun _ _ z => z) (fun h' t tk kp => ?_) hz
    exact ⟨.str d.shown, H, I.kept (t' := tk) kp, ⟨t, rfl⟩, q⟩
  cases hd with
  | dic _ _ => exact big ru
  | dp hd hl =>
    cases hd with
    | non =>
      cases (show u = Value.none from ru)
      refine PySem.P.repr_of_none ?_
      simp only [PyData.shown] at q
      exact ⟨.str _, H, I.tok _, ⟨_, rfl⟩, q⟩
    | bl b =>
      cases (show u = Value.bool b from ru)
      refine PySem.P.repr_of_bool ?_
      simp only [PyData.shown] at q
      exact ⟨.str _, H, I.tok _, ⟨_, rfl⟩, q⟩
    | int i =>
      obtain ⟨t, e⟩ := (show ∃ t, u = Value.int i t from ru)
      subst e
      simp only [PyData.showable, decide_eq_true_eq] at hs
      refine PySem.P.repr_of_int hs ?_
      simp only [PyData.shown] at q
      exact ⟨.str _, H, I.tok _, ⟨_, rfl⟩, q⟩
    | str x =>
      obtain ⟨t, e⟩ := (show ∃ t, u = Value.str x t from ru)
      subst e
      simp only [PyData.shown] at q hz
      exact PySem.P.repr_of_str ⟨.str _, H, I.tok _, ⟨_, rfl⟩, q⟩ hz
    | lst _ _ => exact big ru
    | tup _ _ => exact big ru
mutual
/-- more than the signs of its repr -/
def wt : D → Nat
  | .int _ => 1930
  | .str s => 10 * s.length + 10
  | .tup xs => wts xs + 10
  | .lst xs => wts xs + 10
  | _ => 10
def wts : List D → Nat
  | [] => 0
  | x :: xs => wt x + 2 + wts xs
end
mutual
/-- ints of less than 1920 bits alone -/
def shw : D → Bool
  | .int i => Nat.blt i.natAbs.log2 1920
  | .tup xs => shws xs
  | .lst xs => shws xs
  | _ => true
def shws : List D → Bool
  | [] => true
  | x :: xs => shw x && shws xs
end
theorem piled_list (ts : List Str) : (listText ts).length ≤ piled ts + 2 := by
  cases ts with
  | nil =>
    show (listText []).length ≤ _
    rw [listText_nil]
    decide
  | cons t r =>
    have h := textFrom_length_pos r 1 (("[" : Str) ++ (if (0 : Nat) > 0 then ", " else "" : String) ++ t) (by decide)
    have e : ((("[" : Str) ++ (if (0 : Nat) > 0 then ", " else "" : String) ++ t)).length = 1 + t.length := by
      rw [strLen_append, strLen_append]
      rfl
    unfold listText
    rw [strLen_append]
    show (textFrom 1 (("[" : Str) ++ (if (0 : Nat) > 0 then ", " else "" : String) ++ t) r).length + 1 ≤ _
    rw [h, e, piled_cons]
    omega
theorem piled_tuple (ts : List Str) : (tupleText ts).length ≤ piled ts + 3 := by
  have hj : (Str.join ", " ts).length ≤ piled ts := by
    by_cases h : ts = []
    · subst h
      decide
    · have := join_length_add ts h
      omega
  unfold tupleText
  rw [strLen_append, strLen_append]
  have h1 : (("(" : String) : Str).length = 1 := rfl
  have h2 : ((if ts.length == 1 then ",)" else ")" : String) : Str).length ≤ 2 := by
    split <;> decide
  omega
mutual
theorem shown_len : ∀ (n : Nat) (d : D), dat n d = true → shw d = true → (pyd d).shown.length ≤ wt d ∧ (pyd d).showable = true
  | n, .non, _, _ => ⟨by simp only [pyd, PyData.shown]; decide, by simp [pyd, PyData.showable]⟩
  | n, .bl b, _, _ => ⟨by simp only [pyd, PyData.shown]; cases b <;> decide, by simp [pyd, PyData.showable]⟩
  | n, .int i, _, h => by
    have h' : i.natAbs.log2 < 1920 := by
      rw [shw, Nat.blt_eq] at h
      exact h
    refine ⟨?_, by simp only [pyd, PyData.showable, decide_eq_true h']⟩
    simp only [pyd, PyData.shown]
    have e := int_text_length_le (a := i) (k := 1920) (by decide) h'
    have e2 := PySem.ofString_length (toString i)
    show (Str.ofString (toString i)).length ≤ 1930
    omega
  | n, .str s, hd, _ => by
    refine ⟨?_, by simp [pyd, PyData.showable]⟩
    simp only [pyd, PyData.shown]
    have hs : okS s = true := by cases n <;> simpa [dat] using hd
    have := PySem.StrLaws.reprText_len ⟨s.toArray⟩ (fun c hc => by
      unfold okS at hs
      rw [List.all_eq_true] at hs
      have h1 := hs c (by simpa using hc)
      rw [Nat.blt_eq] at h1
      exact Nat.lt_of_lt_of_le h1 (by decide))
    have e : (⟨s.toArray⟩ : Str).length = s.length := rfl
    rw [e] at this
    show _ ≤ 10 * s.length + 10
    omega
  | 0, .tup xs, h, _ => by simp [dat] at h
  | 0, .lst xs, h, _ => by simp [dat] at h
  | n + 1, .tup xs, h, h2 => by
    obtain ⟨h3, h4⟩ := showns_len n xs (by simpa [dat] using h) (by simpa [shw] using h2)
    refine ⟨?_, by simp only [pyd, PyData.showable]; exact h4⟩
    simp only [pyd, PyData.shown]
    have := piled_tuple (PyData.shownAll (pyds xs))
    show _ ≤ wts xs + 10
    omega
  | n + 1, .lst xs, h, h2 => by
    obtain ⟨h3, h4⟩ := showns_len n xs (by simpa [dat] using h) (by simpa [shw] using h2)
    refine ⟨?_, by simp only [pyd, PyData.showable]; exact h4⟩
    simp only [pyd, PyData.shown]
    have := piled_list (PyData.shownAll (pyds xs))
    show _ ≤ wts xs + 10
    omega
  | n, .ty _, h, _ => by cases n <;> simp [dat] at h
  | n, .glo _, h, _ => by cases n <;> simp [dat] at h
  | n, .ref _, h, _ => by cases n <;> simp [dat] at h
theorem showns_len : ∀ (n : Nat) (ds : List D), dats n ds = true → shws ds = true → piled (PyData.shownAll (pyds ds)) ≤ wts ds ∧ PyData.showableAll (pyds ds) = true
  | n, [], _, _ => ⟨by simp [pyds, PyData.shownAll, piled, wts], by simp [pyds, PyData.showableAll]⟩
  | n, x :: xs, h, h2 => by
    rw [dats, Bool.and_eq_true] at h
    rw [shws, Bool.and_eq_true] at h2
    obtain ⟨h3, h4⟩ := shown_len n x h.1 h2.1
    obtain ⟨h5, h6⟩ := showns_len n xs h.2 h2.2
    refine ⟨?_, by simp only [pyds, PyData.showableAll, h4, h6, Bool.and_self]⟩
    simp only [pyds, PyData.shownAll, piled_cons, wts]
    omega
end
/-- the signs of its repr -/
def shown (d : D) : List Nat := (pyd d).shown.cps.toList
/-- a dict of flat values -/
def dicF : D → Bool
  | .dic ks ds => Nat.beq ks.length ds.length && ds.all flatD
  | _ => false
/-- its repr is told -/
def reprB (d : D) : Bool := (dat 30 d && (shw d && Nat.ble (wt d) 1000000)) || (dicF d && ((pyd d).showable && (Nat.ble (pyd d).depth 60 && Nat.ble (pyd d).shown.length 1000000)))
theorem flat_pd {C : Cfg} {η : List Addr} {H : Hp} {d : D} {v : V} (f : flatD d = true) (r : Rep C η H d v) : pyd d = vPd v ∧ vFl v = true := by
  cases d <;> first | (cases f; done) | (rw [Rep] at r; subst r; exact ⟨by simp only [pyd, vPd], rfl⟩)
theorem zip_pd {C : Cfg} {η : List Addr} {H : Hp} : ∀ {kvs : List (Key × V)} {ds : List D}, ds.all flatD = true → RepL C η H ds (kvs.map (·.2)) → zipK (kvs.map (·.1)) (pyds ds) = kvs.map (fun q => (kPd q.1, vPd q.2)) ∧ ∀ q ∈ kvs, vFl q.2 = true
  | [], ds, _, r => by
    have h := r.length
    cases ds with
    | nil => exact ⟨by simp [pyds, zipK], fun q hq => (List.not_mem_nil hq).elim⟩
    | cons d ds => simp at h
  | q :: kvs, [], _, r => by
    have h := r.length
    simp at h
  | q :: kvs, d :: ds, f, r => by
    rw [List.all_cons, Bool.and_eq_true] at f
    rw [List.map_cons, RepL] at r
    obtain ⟨v, us, e, r1, r2⟩ := r
    cases e
    obtain ⟨i1, i2⟩ := zip_pd f.2 r2
    obtain ⟨e1, e2⟩ := flat_pd f.1 r1
    refine ⟨by simp only [pyds, List.map_cons, zipK, i1, e1], fun x hx => ?_⟩
    rcases List.mem_cons.mp hx with rfl | hx
    · exact e2
    · exact i2 x hx
theorem vw_da {C : Cfg} {η : List Addr} {H : Hp} {st : Sto} {d : D} {v : V} (k : StOk C η st H) (h : reprB (vw st d) = true) (r : Rep C η H d v) : Da C.K H v (pyd (vw st d)) ∧ (pyd (vw st d)).depth ≤ 60 ∧ (pyd (vw st d)).showable = true ∧ (pyd (vw st d)).shown.length ≤ 1000000 := by
  unfold reprB at h
  rw [Bool.or_eq_true] at h
  rcases h with h | h
  · rw [Bool.and_eq_true, Bool.and_eq_true] at h
    obtain ⟨h1, h2, h3⟩ := h
    obtain ⟨l1, l2⟩ := pyd_lay 30 _ h1
    obtain ⟨s1, s2⟩ := shown_len 30 _ h1 h2
    exact ⟨.dp (vw_dp 30 k h1 r) l1, by omega, s2, Nat.le_trans s1 (Nat.le_of_ble_eq_true h3)⟩
  · rw [Bool.and_eq_true, Bool.and_eq_true, Bool.and_eq_true] at h
    obtain ⟨h1, h2, h3, h4⟩ := h
    refine ⟨?_, Nat.le_of_ble_eq_true h3, h2, Nat.le_of_ble_eq_true h4⟩
    cases e : vw st d with
    | dic ks ds =>
      rw [e] at h1
      unfold dicF at h1
      rw [Bool.and_eq_true] at h1
      obtain ⟨a, kvs, rfl, q, hn, rs⟩ := vw_dic k r e
      subst hn
      obtain ⟨z1, z2⟩ := zip_pd h1.2 rs
      simp only [pyd]
      rw [z1]
      exact .dic q z2
    | _ =>
      rw [e] at h1
      cases h1
def dRepr : Fn := fun ds st => match ds with
  | [d] => if reprB (vw st d) then .ok (.str (shown (vw st d))) st else .bad
  | _ => .bad
abbrev rRepr (K : PySem.W.Frag) : List V → Hp → VK → Prop := fun xs H Q => ∃ v d, xs = [v] ∧ Da K H v d ∧ d.depth ≤ 60 ∧ d.showable = true ∧ d.shown.length ≤ sizeLine ∧ Q (.str d.shown) H
theorem dRepr_ok {C : Cfg} : CallD C dRepr (rRepr C.K) := by
  intro W σ η st ds vs H Q k rs p
  unfold dRepr at p
  split at p
  · rename_i d
    obtain ⟨v, rfl, rd⟩ := rs.one_inv
    split at p
    · rename_i h
      obtain ⟨l1, l2, l3, l4⟩ := vw_da k h rd
      refine ⟨v, _, rfl, l1, l2, l3, Nat.le_trans l4 (by decide), p.ret k ?_⟩
      rw [Rep]
      rfl
    · exact p.elim
  · exact p.elim
end G

set_option Elab.async false
set_option linter.all false
set_option maxRecDepth 100000
set_option maxHeartbeats 4000000
/-! Statements, loops, comprehensions. -/
namespace G
open PySem PySem.Spec PyProof.Rows L2

inductive Out where
  | nx (ρ : Env) | rt (d : D) | bk (ρ : Env) | ct (ρ : Env)
inductive RS where
  | ok (o : Out) (st : Sto) | exc (x : Exc) (ρ : Env) (st : Sto) | bad
abbrev EvS := Env → Sto → RS
def Res.into {α : Type} (r : Res α) (ρ : Env) (k : α → Sto → RS) : RS := match r with
  | .ok a st => k a st
  | .exc x st => .exc x ρ st
  | .bad => .bad
def PostS (C : Cfg) (W : WX) (η : List Addr) (H : Hp) (r : RS) (D : Ends) : Prop := match r with
  | .ok (.nx ρ) st' => ∀ σ' η' H', Step η H η' H' → StOk C η' st' H' → EnvOk C η' H' ρ σ' → D.nx σ' H'
  | .ok (.rt d) st' => ∀ v η' H', Step η H η' H' → StOk C η' st' H' → Rep C η' H' d v → D.rt v H'
  | .ok (.bk ρ) st' => ∀ σ' η' H', Step η H η' H' → StOk C η' st' H' → EnvOk C η' H' ρ σ' → D.bk σ' H'
  | .ok (.ct ρ) st' => ∀ σ' η' H', Step η H η' H' → StOk C η' st' H' → EnvOk C η' H' ρ σ' → D.ct σ' H'
  | .exc x ρ st' => ∀ c d σ' η' H', Step η H η' H' → StOk C η' st' H' → EnvOk C η' H' ρ σ' → RepX C η' H' x c d → W c d σ' H'
  | .bad => False
section
variable {C : Cfg} {W : WX} {σ : L2.St} {α β : Type} {R : List Addr → Hp → α → β → Prop} {η η' : List Addr} {H H' : Hp}
theorem PostS.step {r : RS} {D : Ends} (s : Step η H η' H') (h : PostS C W η H r D) : PostS C W η' H' r D := by
  cases r with
  | ok o st' =>
    cases o with
    | nx ρ => exact fun σ1 η1 H1 s1 => h σ1 η1 H1 (s.trans s1)
    | rt d => exact fun σ1 η1 H1 s1 => h σ1 η1 H1 (s.trans s1)
    | bk ρ => exact fun σ1 η1 H1 s1 => h σ1 η1 H1 (s.trans s1)
    | ct ρ => exact fun σ1 η1 H1 s1 => h σ1 η1 H1 (s.trans s1)
  | exc x ρ st' => exact fun c d σ1 η1 H1 s1 => h c d σ1 η1 H1 (s.trans s1)
  | bad => exact h
theorem PostS.into {r : Res α} {ρ : Env} {k : α → Sto → RS} {D : Ends} {Q1 : β → Hp → Prop} (h : PostS C W η H (r.into ρ k) D) (en : EnvOk C η H ρ σ)
    (hk : ∀ a st1 v η1 H1, r = .ok a st1 → Step η H η1 H1 → StOk C η1 st1 H1 → R η1 H1 a v → PostS C W η1 H1 (k a st1) D → Q1 v H1) : Post C W σ R η H r Q1 := by
  cases r with
  | ok a st1 => exact fun v η1 H1 s1 k1 r1 => hk a st1 v η1 H1 rfl s1 k1 r1 (PostS.step s1 h)
  | exc x st1 => exact fun c d η1 H1 s1 k1 rx => h c d σ η1 H1 s1 k1 (en.mono s1) rx
  | bad => exact h
theorem PostS.nx {ρ : Env} {st : Sto} {D : Ends} (h : PostS C W η H (.ok (.nx ρ) st) D) (k : StOk C η st H) (en : EnvOk C η H ρ σ) : D.nx σ H := h σ η H Step.refl k en
theorem PostS.imp {r : RS} {D D' : Ends} (h : PostS C W η H r D) (h1 : ∀ σ H, D.nx σ H → D'.nx σ H) (h2 : ∀ v H, D.rt v H → D'.rt v H) (h3 : ∀ σ H, D.bk σ H → D'.bk σ H) (h4 : ∀ σ H, D.ct σ H → D'.ct σ H) : PostS C W η H r D' := by
  cases r with
  | ok o st' =>
    cases o with
    | nx ρ => exact fun σ1 η1 H1 s1 k e => h1 _ _ (h σ1 η1 H1 s1 k e)
    | rt d => exact fun σ1 η1 H1 s1 k e => h2 _ _ (h σ1 η1 H1 s1 k e)
    | bk ρ => exact fun σ1 η1 H1 s1 k e => h3 _ _ (h σ1 η1 H1 s1 k e)
    | ct ρ => exact fun σ1 η1 H1 s1 k e => h4 _ _ (h σ1 η1 H1 s1 k e)
  | exc x ρ st' => exact h
  | bad => exact h
end
def tS (C : Cfg) (W : WX) (g : EvS) : TS := fun D σ H => ∃ η ρ st, StOk C η st H ∧ EnvOk C η H ρ σ ∧ PostS C W η H (g ρ st) D
structure SS (X : Cx) (C : Cfg) (s : Stmt) (g : EvS) : Prop where
  run : ∀ W, Takes X W → PS X s (tS C W g)
structure SB (X : Cx) (C : Cfg) (s : List Stmt) (g : EvS) : Prop where
  run : ∀ W, Takes X W → PSs X s (tS C W g)
theorem PS_imp {X : Cx} {s : Stmt} {t t' : TS} (h : PS X s t) (i : ∀ D σ H, t' D σ H → t D σ H) : PS X s t' := ⟨fun pins s σ H D I q => h.run pins s σ H D I (i D σ H q)⟩
theorem PSs_imp {X : Cx} {s : List Stmt} {t t' : TS} (h : PSs X s t) (i : ∀ D σ H, t' D σ H → t D σ H) : PSs X s t' := ⟨fun pins s σ H D I q => h.run pins s σ H D I (i D σ H q)⟩
/-! ### targets -/
abbrev EvG := D → Env → Option Env
abbrev EvGs := List D → Env → Option Env
/-- the slots but these stay -/
def But (own : List Nat) (σ σ' : L2.St) : Prop := σ'.length = σ.length ∧ ∀ j, j ∉ own → σ'[j]? = σ[j]?
theorem But.refl {own : List Nat} {σ : L2.St} : But own σ σ := ⟨rfl, fun _ _ => rfl⟩
theorem But.set {σ : L2.St} {i : Nat} {v : Option V} : But [i] σ (σ.set i v) := ⟨by simp, fun j hj => by
  have h : i ≠ j := fun e => hj (by simp [e])
  rw [List.getElem?_set_ne h]⟩
theorem But.trans {o1 o2 : List Nat} {σ σ1 σ2 : L2.St} (a : But o1 σ σ1) (b : But o2 σ1 σ2) : But (o1 ++ o2) σ σ2 := ⟨b.1.trans a.1, fun j hj => by
  rw [List.mem_append, not_or] at hj
  exact (b.2 j hj.2).trans (a.2 j hj.1)⟩
def tG (C : Cfg) (g : EvG) (own : List Nat) : TG := fun v σ H Q => ∃ η ρ d ρ', EnvOk C η H ρ σ ∧ Rep C η H d v ∧ g d ρ = some ρ' ∧ ∀ σ', EnvOk C η H ρ' σ' → But own σ σ' → Q σ' H
def tGs (C : Cfg) (g : EvGs) (own : List Nat) : TGs := fun vs σ H Q => ∃ η ρ ds ρ', EnvOk C η H ρ σ ∧ RepL C η H ds vs ∧ g ds ρ = some ρ' ∧ ∀ σ', EnvOk C η H ρ' σ' → But own σ σ' → Q σ' H
structure SG (X : Cx) (C : Cfg) (e : Expr) (g : EvG) (own : List Nat) : Prop where
  run : PG X e (tG C g own)
structure SGs (X : Cx) (C : Cfg) (es : List Expr) (g : EvGs) (own : List Nat) : Prop where
  run : PGs X es (tGs C g own)
theorem PG_imp {X : Cx} {e : Expr} {t t' : TG} (h : PG X e t) (i : ∀ v σ H Q, t' v σ H Q → t v σ H Q) : PG X e t' := ⟨fun pins s σ H v u Q I r q => h.run pins s σ H v u Q I r (i v σ H Q q)⟩
theorem PGs_imp {X : Cx} {e : List Expr} {t t' : TGs} (h : PGs X e t) (i : ∀ v σ H Q, t' v σ H Q → t v σ H Q) : PGs X e t' := ⟨fun pins s σ H v u Q I r q => h.run pins s σ H v u Q I r (i v σ H Q q)⟩
def gN (i : Nat) : EvG := fun d ρ => some (ρ.set i (some d))
def gNilD : EvGs := fun ds ρ => match ds with
  | [] => some ρ
  | _ => none
def gConsD (g : EvG) (gs : EvGs) : EvGs := fun ds ρ => match ds with
  | d :: r => (match g d ρ with
    | some ρ' => gs r ρ'
    | none => none)
  | [] => none
/-- a tuple's items -/
def gT (gs : EvGs) : EvG := fun d ρ => match d with
  | .tup ds => gs ds ρ
  | _ => none
section
variable {X : Cx} {C : Cfg} {a b c e tg iter : Expr} {es : List Expr} {fa fb fc f : Ev} {fs : EvA} {ft fu : EvT} {pos pos' p2 : Pos} {s : Stmt} {ss body orelse : List Stmt} {g h : EvS}
theorem SG.name (i : Nat) {x : Str} (hN : X.N.Nodup) (hi : X.N[i]? = some x := by rfl) (hx : Loc X.env.scope x := by first | exact Or.inl rfl | exact Or.inr rfl) (hf : X.fn x = true ∨ X.env.scope.names.lookup x = some .local := by first | exact Or.inl rfl | exact Or.inr rfl) : SG X C (.Name x pos) (gN i) [i] :=
  ⟨PG_imp (pg_name hN hi hx hf) fun v σ H Q ⟨η, ρ, d, ρ', en, r, e, q⟩ => by
    cases e
    exact q _ (en.set i r) But.set⟩
theorem SGs.nil : SGs X C [] gNilD [] := ⟨PGs_imp pgs_nil fun vs σ H Q ⟨η, ρ, ds, ρ', en, r, e, q⟩ => by
  cases ds with
  | nil =>
    rw [RepL] at r
    cases e
    exact ⟨r, q _ en But.refl⟩
  | cons d ds => cases e⟩
theorem SGs.cons {g : EvG} {gs : EvGs} {o1 o2 : List Nat} (h1 : SG X C e g o1) (h2 : SGs X C es gs o2) (hs : (assignEach (e :: es) X.env).map (·.2) = assign e X.env :: (assignEach es X.env).map (·.2) := by rfl) : SGs X C (e :: es) (gConsD g gs) (o1 ++ o2) :=
  ⟨PGs_imp (pgs_cons h1.run h2.run hs) fun vs σ H Q ⟨η, ρ, ds, ρ', en, r, e, q⟩ => by
    cases ds with
    | nil => cases e
    | cons d ds =>
      rw [RepL] at r
      obtain ⟨v, u, rfl, r1, r2⟩ := r
      unfold gConsD at e
      simp only at e
      cases h : g d ρ with
      | none => rw [h] at e; cases e
      | some ρ1 =>
        rw [h] at e
        exact ⟨v, u, rfl, η, ρ, d, ρ1, en, r1, h, fun σ' en' b => ⟨η, ρ1, ds, ρ', en', r2, e, fun σ2 en2 b2 => q σ2 en2 (b.trans b2)⟩⟩⟩
theorem gConsD_len {g : EvG} {gs : EvGs} {n : Nat} (h : ∀ ds ρ ρ', gs ds ρ = some ρ' → ds.length = n) : ∀ ds ρ ρ', gConsD g gs ds ρ = some ρ' → ds.length = n + 1 := by
  intro ds ρ ρ' e
  cases ds with
  | nil => cases e
  | cons d r =>
    unfold gConsD at e
    simp only at e
    cases q : g d ρ with
    | none => rw [q] at e; cases e
    | some ρ1 =>
      rw [q] at e
      rw [List.length_cons, h r ρ1 ρ' e]
theorem gNilD_len : ∀ ds ρ ρ', gNilD ds ρ = some ρ' → ds.length = 0 := by
  intro ds ρ ρ' e
  cases ds with
  | nil => rfl
  | cons d r => cases e
theorem SG.tup {gs : EvGs} {n j : Nat} {own : List Nat} (hK : X.K = C.K) (hc : X.calm = true) (h : SGs X C es gs own) (hl : ∀ ds ρ ρ', gs ds ρ = some ρ' → ds.length = n) (hn : (assignEach es X.env).length = n := by rfl) (hst : (assignEach es X.env).findIdx? (·.1) = none := by rfl) :
    SG X C (.Tuple es j pos) (gT gs) own := ⟨PG_imp (pg_tup hc h.run hn hst) fun v σ H Q ⟨η, ρ, d, ρ', en, r, e, q⟩ => by
  cases d with
  | tup ds =>
    rw [Rep] at r
    obtain ⟨a, vs, rfl, t, r⟩ := r
    have e' : gs ds ρ = some ρ' := e
    rw [hK]
    exact ⟨a, vs, rfl, t.sq, by rw [← r.length]; exact hl _ _ _ e', η, ρ, ds, ρ', en, r, e', q⟩
  | _ => cases e⟩

/-! ### small statements -/
def sNil : EvS := fun ρ st => .ok (.nx ρ) st
def sSeq (g h : EvS) : EvS := fun ρ st => match g ρ st with
  | .ok (.nx ρ') st' => h ρ' st'
  | r => r
theorem SB.nil : SB X C [] sNil := ⟨fun W tk => PSs_imp pss_nil fun D σ H ⟨η, ρ, st, k, en, p⟩ => p.nx k en⟩
theorem SB.one (h1 : SS X C s g) : SB X C [s] g := ⟨fun W tk => pss_one (h1.run W tk)⟩
theorem SB.cons (h1 : SS X C s g) (h2 : SB X C ss h) : SB X C (s :: ss) (sSeq g h) := ⟨fun W tk => PSs_imp (pss_cons (h1.run W tk) (h2.run W tk)) fun D σ H ⟨η, ρ, st, k, en, p⟩ => by
  refine ⟨η, ρ, st, k, en, ?_⟩
  unfold sSeq at p
  cases e : g ρ st with
  | ok o st' =>
    rw [e] at p
    cases o with
    | nx ρ' => exact fun σ' η' H' s1 k1 en1 => ⟨η', ρ', st', k1, en1, PostS.step s1 p⟩
    | rt d => exact p
    | bk ρ' => exact p
    | ct ρ' => exact p
  | exc x ρ' st' => rw [e] at p; exact p
  | bad => rw [e] at p; exact p⟩
def sBad : EvS := fun _ _ => .bad
theorem SS.never : SS X C s sBad := ⟨fun W tk => PS_imp ps_never fun D σ H ⟨η, ρ, st, k, en, p⟩ => p⟩
theorem SS.pass : SS X C (.Pass pos) sNil := ⟨fun W tk => PS_imp ps_pass fun D σ H ⟨η, ρ, st, k, en, p⟩ => p.nx k en⟩
theorem SS.doc {x : Str} {j : Nat} : SS X C (.Expr (.Constant (.str x) j pos) pos') sNil := ⟨fun W tk => PS_imp ps_doc fun D σ H ⟨η, ρ, st, k, en, p⟩ => p.nx k en⟩
def sBrk : EvS := fun ρ st => .ok (.bk ρ) st
def sCnt : EvS := fun ρ st => .ok (.ct ρ) st
theorem SS.brk : SS X C (.Break pos) sBrk := ⟨fun W tk => PS_imp ps_break fun D σ H ⟨η, ρ, st, k, en, p⟩ => p σ η H Step.refl k en⟩
theorem SS.cnt : SS X C (.Continue pos) sCnt := ⟨fun W tk => PS_imp ps_continue fun D σ H ⟨η, ρ, st, k, en, p⟩ => p σ η H Step.refl k en⟩
def sRet (f : Ev) : EvS := fun ρ st => (f ρ st).into ρ fun d st1 => .ok (.rt d) st1
theorem SS.ret (h : SE X C e f) : SS X C (.Return (some e) pos) (sRet f) := ⟨fun W tk => PS_imp (ps_ret (h.run W tk)) fun D σ H ⟨η, ρ, st, k, en, p⟩ =>
  ⟨η, ρ, st, k, en, PostS.into (R := Rep C) (r := f ρ st) p en fun d st1 v η1 H1 _ s1 k1 r1 p1 => p1 v η1 H1 Step.refl k1 r1⟩⟩
def sRetN : EvS := fun _ st => .ok (.rt .non) st
theorem SS.retN : SS X C (.Return none pos) sRetN := ⟨fun W tk => PS_imp ps_retN fun D σ H ⟨η, ρ, st, k, en, p⟩ => p .non η H Step.refl k (by rw [Rep])⟩
def sExp (f : Ev) : EvS := fun ρ st => (f ρ st).into ρ fun _ st1 => .ok (.nx ρ) st1
theorem SS.expr (h : SE X C e f) (hs : swapsWith e none pos.line X.env = pure false := by rfl) : SS X C (.Expr e pos) (sExp f) := ⟨fun W tk => PS_imp (ps_expr (h.run W tk) hs) fun D σ H ⟨η, ρ, st, k, en, p⟩ =>
  ⟨η, ρ, st, k, en, PostS.into (R := Rep C) (r := f ρ st) p en fun d st1 v η1 H1 _ s1 k1 r1 p1 => p1.nx k1 (en.mono s1)⟩⟩
def sIf (t : EvT) (g h : EvS) : EvS := fun ρ st => (t ρ st).into ρ fun b st1 => match b with
  | true => g ρ st1
  | false => h ρ st1
theorem SS.if_ {x y : List Stmt} (hc : ST X C c ft) (ha : SB X C x g) (hb : SB X C y h) : SS X C (.If c x y pos) (sIf ft g h) := ⟨fun W tk => PS_imp (ps_if (hc.run W tk) (ha.run W tk) (hb.run W tk)) fun D σ H ⟨η, ρ, st, k, en, p⟩ =>
  ⟨η, ρ, st, k, en, PostS.into (R := fun _ _ a b => a = b) (r := ft ρ st) p en fun b st1 v η1 H1 _ s1 k1 r1 p1 => by
    subst r1
    cases b with
    | true => exact iteT ⟨η1, ρ, st1, k1, en.mono s1, p1⟩
    | false => exact iteF ⟨η1, ρ, st1, k1, en.mono s1, p1⟩⟩⟩
/-! ### assignments -/
def sSet (i : Nat) (f : Ev) : EvS := fun ρ st => (f ρ st).into ρ fun d st1 => .ok (.nx (ρ.set i (some d))) st1
theorem set_imp {W : WX} {i : Nat} {D : Ends} {σ : L2.St} {H : Hp} (p : tS C W (sSet i f) D σ H) : tAsg (tE C W f) (gName i) D σ H := by
  obtain ⟨η, ρ, st, k, en, p⟩ := p
  exact ⟨η, ρ, st, k, en, PostS.into (R := Rep C) (r := f ρ st) p en fun d st1 v η1 H1 _ s1 k1 r1 p1 => p1.nx k1 ((en.mono s1).set i r1)⟩
theorem SS.set (i : Nat) {x : Str} {pos' : Pos} (hN : X.N.Nodup) (he : SE X C e f) (hi : X.N[i]? = some x := by rfl) (hx : Loc X.env.scope x := by first | exact Or.inl rfl | exact Or.inr rfl) (hs : swapsWith e (some (.Name x pos')) pos.line X.env = pure false := by rfl)
    (hf : X.fn x = true ∨ X.env.scope.names.lookup x = some .local := by first | exact Or.inl rfl | exact Or.inr rfl) : SS X C (.Assign [.Name x pos'] e pos) (sSet i f) :=
  ⟨fun W tk => PS_imp (ps_set hN hi hx (he.run W tk) hs hf) fun D σ H p => set_imp p⟩
/-- a, b = x, y: two local names, written side by side -/
def sPar (i j : Nat) (fs : EvA) : EvS := fun ρ st => (fs ρ st).into ρ fun ds st1 => match ds with
  | [d, e] => .ok (.nx ((ρ.set i (some d)).set j (some e))) st1
  | _ => .bad
theorem SS.par (i j : Nat) {x y : Str} {px py pt : Pos} {kt k2 pt2} (hN : X.N.Nodup) (hc : X.calm = true) (ha : SA X C [a, b] fs) (hi : X.N[i]? = some x := by rfl) (hj : X.N[j]? = some y := by rfl) (hij : i ≠ j := by decide)
    (hx : X.env.scope.names.lookup x = some .local := by rfl) (hy : X.env.scope.names.lookup y = some .local := by rfl)
    (hw : swappedStores [.Tuple [.Name x px, .Name y py] kt pt] (.Tuple [a, b] k2 pt2) X.env = pure (some [x, y]) := by rfl)
    (hs : swapsWithSole [.Tuple [.Name x px, .Name y py] kt pt] (.Tuple [a, b] k2 pt2) pos.line X.env = pure false := by rfl) :
    SS X C (.Assign [.Tuple [.Name x px, .Name y py] kt pt] (.Tuple [a, b] k2 pt2) pos) (sPar i j fs) := ⟨fun W tk => PS_imp (ps_par hc hN hi hj hij hx hy (ha.run W tk) hw hs) fun D σ H ⟨η, ρ, st, k, en, p⟩ =>
  ⟨η, ρ, st, k, en, PostS.into (R := RepL C) (r := fs ρ st) p en fun ds st1 vs η1 H1 _ s1 k1 rs p1 => by
    match ds, rs, p1 with
    | [d, e], rs, p1 =>
      obtain ⟨v, u, rfl, r1, r2⟩ := rs.two_inv
      exact ⟨v, u, rfl, p1.nx k1 (((en.mono s1).set i r1).set j r2)⟩
    | [], _, p1 => exact p1.elim
    | [_], _, p1 => exact p1.elim
    | _ :: _ :: _ :: _, _, p1 => exact p1.elim⟩⟩
def sPar3 (i j l : Nat) (fs : EvA) : EvS := fun ρ st => (fs ρ st).into ρ fun ds st1 => match ds with
  | [d, e, f] => .ok (.nx (((ρ.set i (some d)).set j (some e)).set l (some f))) st1
  | _ => .bad
/-- any target of names -/
def sAsg (f : Ev) (g : EvG) : EvS := fun ρ st => (f ρ st).into ρ fun d st1 => match g d ρ with
  | some ρ' => .ok (.nx ρ') st1
  | none => .bad
theorem SS.asg {g : EvG} {own : List Nat} (he : SE X C e f) (hg : SG X C tg g own) (hs : swapsWithSole [tg] e pos.line X.env = pure false := by rfl) (hw : swappedStores [tg] e X.env = pure none := by rfl) (h1 : (assignEach [tg] X.env).map (·.2) = [assign tg X.env] := by rfl) :
    SS X C (.Assign [tg] e pos) (sAsg f g) := ⟨fun W tk => PS_imp (ps_asg (he.run W tk) hg.run hs hw h1) fun D σ H ⟨η, ρ, st, k, en, p⟩ =>
  ⟨η, ρ, st, k, en, PostS.into (R := Rep C) (r := f ρ st) p en fun d st1 v η1 H1 _ s1 k1 r1 p1 => by
    cases e : g d ρ with
    | none => rw [e] at p1; exact p1.elim
    | some ρ' =>
      rw [e] at p1
      exact ⟨η1, ρ, d, ρ', en.mono s1, r1, e, fun σ' en' _ => p1.nx k1 en'⟩⟩⟩
/-- o[i] = e: a list of the store -/
def dPut (o i d : D) (st : Sto) : Option Sto := match o, i with
  | .ref n, .int k => (match st[n]? with
    | some (.lst ds) => (match ixN ds.length k with
      | some j => some (st.set n (.lst (ds.set j d)))
      | none => none)
    | _ => none)
  | _, _ => none
def sSub (f fo fi : Ev) : EvS := fun ρ st => (f ρ st).into ρ fun d st1 => (fo ρ st1).into ρ fun o st2 => (fi ρ st2).into ρ fun i st3 => match dPut o i d st3 with
  | some st4 => .ok (.nx ρ) st4
  | none => .bad
theorem SS.sub {o i : Expr} {fo fi : Ev} (he : SE X C e f) (ho : SE X C o fo) (hi : SE X C i fi)
    (ha : ∀ v, assign (.Subscript o i p2) X.env v = (do
      let ov ← holding [v] (eval o X.env)
      let iv ← holding [v, ov] (eval i X.env)
      standAt p2
      holding [v, ov, iv] (setItem ov iv v)
      release [v, ov, iv] []) := by intro _; rfl)
    (hs : swapsWithSole [.Subscript o i p2] e pos.line X.env = pure false := by rfl) (hw : swappedStores [.Subscript o i p2] e X.env = pure none := by rfl) (h1 : (assignEach [.Subscript o i p2] X.env).map (·.2) = [assign (.Subscript o i p2) X.env] := by rfl) :
    SS X C (.Assign [.Subscript o i p2] e pos) (sSub f fo fi) := ⟨fun W tk => PS_imp (ps_asg (he.run W tk) (pg_sub (ho.run W tk) (hi.run W tk) set_list ha) hs hw h1) fun D σ H ⟨η, ρ, st, k, en, p⟩ =>
  ⟨η, ρ, st, k, en, PostS.into (R := Rep C) (r := f ρ st) p en fun d st1 v η1 H1 _ s1 k1 r1 p1 =>
    ⟨η1, ρ, st1, k1, en.mono s1, PostS.into (R := Rep C) (r := fo ρ st1) p1 (en.mono s1) fun o st2 ov η2 H2 _ s2 k2 r2 p2 =>
      ⟨η2, ρ, st2, k2, (en.mono s1).mono s2, PostS.into (R := Rep C) (r := fi ρ st2) p2 ((en.mono s1).mono s2) fun i st3 iv η3 H3 _ s3 k3 r3 p3 => by
        have r2' := r2.mono s3
        have r1' := r1.mono (s2.trans s3)
        have en3 := ((en.mono s1).mono s2).mono s3
        cases o with
        | ref n =>
          cases i with
          | int z =>
            unfold dPut at p3
            simp only at p3
            cases hn : st3[n]? with
            | none => rw [hn] at p3; exact p3.elim
            | some q =>
              rw [hn] at p3
              cases q with
              | lst ds =>
                simp only at p3
                cases hj : ixN ds.length z with
                | none => rw [hj] at p3; exact p3.elim
                | some j =>
                  rw [hj] at p3
                  rw [Rep] at r2'
                  rw [Rep] at r3
                  obtain ⟨a, ha, rfl⟩ := r2'
                  obtain ⟨us, hu, ru⟩ := k3.ok n a _ ha hn
                  refine ⟨a, us, z, j, rfl, r3, hu, by rw [← ru.length]; exact hj, ?_⟩
                  have st := k3.step_set (u := .lst (us.set j v)) ha
                  exact p3 σ η3 _ st (k3.put ha ⟨_, upd_same, (ru.mono st).set j (r1'.mono st)⟩) (en3.mono st)
              | _ => exact p3.elim
          | _ => exact p3.elim
        | _ => exact p3.elim⟩⟩⟩⟩
/-! ### methods of lists of the store -/
def cApp (fo : Ev) (fs : EvA) : Ev := fun ρ st => (fo ρ st).bind fun o st1 => match o with
  | .ref n => (match st1[n]? with
    | some (.lst _) => (fs ρ st1).bind fun ds st2 => (match ds, st2[n]? with
      | [d], some (.lst xs) => if big (xs.length + 1) then .ok .non (st2.set n (.lst (xs ++ [d]))) else .bad
      | _, _ => .bad)
    | _ => .bad)
  | _ => .bad
theorem SE.append {o : Expr} {fo : Ev} {apos : Pos} (ho : SE X C o fo) (ha : SA X C [a] fs)
    (hbase : attributeBase o (Str.ofString "append") X.env (eval o X.env) = eval o X.env := by rfl)
    (hfew : ((backTo pos (starEach [a] X.env)).all (fun x => !x.1) && (backToKw pos (keywordEach [] X.env)).all (fun x => x.1.isSome) && decide ([a].length + ([] : List Keyword).length + (if ([] : List Keyword).isEmpty then 0 else 1) < 30)) = true := by rfl)
    (hline : (apos.endLine == pos.line) = true := by rfl) (hs : starEach [a] X.env = (false, eval a X.env) :: starEach [] X.env := by rfl) (hplain : (backTo pos (starEach [] X.env)).any (·.1) = false := by rfl) :
    SE X C (.Call (.Attribute o (Str.ofString "append") apos) [a] [] pos) (cApp fo fs) := ⟨fun W tk => PE_imp (pe_bm PySem.F.plainAttrs_list PySem.F.slot_list_append PySem.F.type_list_append mt_append (ho.run W tk) (ha.run W tk) hbase hfew hline hs hplain) fun σ H Q ⟨η, ρ, st, k, en, p⟩ =>
  ⟨η, ρ, st, k, en, by
    refine Post.bind (R := Rep C) (r := fo ρ st) p fun o st1 ov η1 H1 _ s1 k1 r1 p1 => ?_
    cases o with
    | ref m =>
      simp only at p1
      cases hs1 : st1[m]? with
      | none => rw [hs1] at p1; exact p1.elim
      | some o2 =>
        rw [hs1] at p1
        rw [Rep] at r1
        obtain ⟨q, hq, rfl⟩ := r1
        cases o2 with
        | lst ys =>
          obtain ⟨us, hu, _⟩ := k1.ok m q _ hq hs1
          refine ⟨.inl ⟨rfl, us, .inl (.inl hu)⟩, η1, ρ, st1, k1, en.mono s1, Post.bind (R := RepL C) (r := fs ρ st1) p1 fun ds st2 vs η2 H2 hok s2 k2 rs p2 => ?_⟩
          split at p2
          · rename_i d xs h
            split at p2
            · rename_i hb
              obtain ⟨w, rfl, rw'⟩ := rs.one_inv
              have hq2 := s2.ref hq
              obtain ⟨us, hu, ru⟩ := k2.ok m q _ hq2 h
              have hl := ru.length
              refine ⟨q, us, w, rfl, rfl, hu, by rw [← hl]; exact big_lt hb, ?_⟩
              have stp := k2.step_set (u := .lst (us ++ [w])) hq2
              exact p2 .non η2 _ stp (k2.put hq2 ⟨_, upd_same, (ru.mono stp).append (RepL.one (rw'.mono stp))⟩) (by rw [Rep])
            · exact p2.elim
          · exact p2.elim
        | _ => exact False.elim p1
    | _ => exact p1.elim⟩⟩
end
end G

set_option Elab.async false
set_option linter.all false
set_option maxRecDepth 100000
set_option maxHeartbeats 4000000
/-! Loops, comprehensions. -/
namespace G
open PySem PySem.Spec PyProof.Rows L2

section
variable {C C' : Cfg} {η η' : List Addr} {H H' : Hp} {st : Sto} {a : Addr}
/-- what is being made may change, where what is meant stands elsewhere -/
structure Like (C C' : Cfg) (H : Hp) : Prop where
  k : C.K = C'.K
  g : C.gl = C'.gl
  l : C.lam = C'.lam
  t : C.tabs = C'.tabs
  h : ∀ a, a ∈ C'.hot → a ∉ C.hot → H a = none
theorem TupAt.conv {vs : List V} (l : Like C C' H) (h : TupAt C η H a vs) : TupAt C' η H a vs := by
  rcases h with ⟨n, m, h⟩ | h
  · refine .inl ⟨n, fun z => ?_, h⟩
    have e := l.h a z m
    rcases h with h | ⟨o, h⟩
    · rw [e] at h; cases h
    · rw [e] at h; cases h
  · exact .inr (l.k ▸ h)
theorem LstAt.conv {vs : List V} (l : Like C C' H) (h : LstAt C η H a vs) : LstAt C' η H a vs := by
  rcases h with ⟨n, m, h⟩ | h
  · refine .inl ⟨n, fun z => ?_, h⟩
    have e := l.h a z m
    rcases h with h | ⟨o, h⟩
    · rw [e] at h; cases h
    · rw [e] at h; cases h
  · exact .inr (l.k ▸ h)
theorem CloAt.conv {t : LamT} (l : Like C C' H) (h : CloAt η C.hot H t a) : CloAt η C'.hot H t a := by
  obtain ⟨c, n1, n2, n3, n4, e1, e2⟩ := h
  have no : ∀ {b : Addr} {o : HO}, H b = some o → b ∉ C.hot → b ∉ C'.hot := fun e n z => by
    rw [l.h _ z n] at e
    cases e
  exact ⟨c, n1, no e1 n2, n3, no e2 n4, e1, e2⟩
theorem rd_conv {o : HO} (l : Like C C' H) (h : a ∉ η ∧ a ∉ C.hot ∧ Rd H a o) : a ∉ η ∧ a ∉ C'.hot ∧ Rd H a o := by
  refine ⟨h.1, fun z => ?_, h.2.2⟩
  have e := l.h a z h.2.1
  rcases h.2.2 with q | ⟨u, q⟩ <;> (rw [e] at q; cases q)
theorem ob_conv {o : HO} (l : Like C C' H) (h : a ∉ η ∧ a ∉ C.hot ∧ H a = some o) : a ∉ η ∧ a ∉ C'.hot ∧ H a = some o := by
  refine ⟨h.1, fun z => ?_, h.2.2⟩
  have e := l.h a z h.2.1
  rw [h.2.2] at e
  cases e
mutual
theorem Rep.conv (l : Like C C' H) : ∀ {d : D} {v : V}, Rep C η H d v → Rep C' η H d v
  | .non, _, h => h
  | .bl _, _, h => h
  | .int _, _, h => h
  | .str _, _, h => h
  | .ty _, _, h => h
  | .glo _, _, h => by
    rw [Rep] at h ⊢
    rw [← l.g]
    exact h
  | .ref _, _, h => h
  | .tup ds, _, h => by
    rw [Rep] at h ⊢
    obtain ⟨a, vs, e, t, r⟩ := h
    exact ⟨a, vs, e, t.conv l, RepL.conv l r⟩
  | .lst ds, _, h => by
    rw [Rep] at h ⊢
    obtain ⟨a, vs, e, t, r⟩ := h
    exact ⟨a, vs, e, t.conv l, RepL.conv l r⟩
  | .clo _ ds, _, h => by
    rw [Rep] at h ⊢
    obtain ⟨a, t, ws, e, q, r, z⟩ := h
    exact ⟨a, t, ws, e, l.l ▸ q, r.conv l, RepL.conv l z⟩
  | .dic _ ds, _, h => by
    rw [Rep] at h ⊢
    obtain ⟨a, kvs, e, q, e2, r⟩ := h
    exact ⟨a, kvs, e, rd_conv l q, e2, RepL.conv l r⟩
  | .ins _ _ ds, _, h => by
    rw [Rep] at h ⊢
    obtain ⟨a, c, dx, fs, e, q, g, e2, r⟩ := h
    exact ⟨a, c, dx, fs, e, ob_conv l q, l.g ▸ g, e2, RepL.conv l r⟩
theorem RepL.conv (l : Like C C' H) : ∀ {ds : List D} {vs : List V}, RepL C η H ds vs → RepL C' η H ds vs
  | [], _, h => h
  | d :: ds, _, h => by
    rw [RepL] at h ⊢
    obtain ⟨v, r, e, h1, h2⟩ := h
    exact ⟨v, r, e, Rep.conv l h1, RepL.conv l h2⟩
end
theorem SOk.conv {o : SO} (l : Like C C' H) (h : SOk C η H a o) : SOk C' η H a o := by
  cases o with
  | lst ds =>
    obtain ⟨vs, q, r⟩ := h
    exact ⟨vs, q, r.conv l⟩
  | dic ks ds =>
    obtain ⟨kvs, q, n, r⟩ := h
    exact ⟨kvs, q, n, r.conv l⟩
  | ins k ns ds =>
    obtain ⟨c, dx, fs, q, g, n, r⟩ := h
    exact ⟨c, dx, fs, q, l.g ▸ g, n, r.conv l⟩
theorem EnvOk.conv {ρ : Env} {σ : L2.St} (l : Like C C' H) (e : EnvOk C η H ρ σ) : EnvOk C' η H ρ σ := ⟨e.len, fun i d h => by
  obtain ⟨v, e1, r⟩ := e.ok i d h
  exact ⟨v, e1, r.conv l⟩⟩
/-- what is walked: items, told ahead -/
def ItemsOk (C : Cfg) (η : List Addr) (H : Hp) (xs : List D) (J : It) : Prop :=
  ∀ (C' : Cfg) (η1 : List Addr) (H1 : Hp) (st1 : Sto) (i : Nat), Like C C' H → Step η H η1 H1 → StOk C' η1 st1 H1 →
    (∀ x, xs[i]? = some x → J.go i H1 ∧ ∀ v H2, J.yld i H1 v H2 → Step η1 H1 η1 H2 ∧ StOk C' η1 st1 H2 ∧ Rep C' η1 H2 x v) ∧ (xs.length ≤ i → J.stop i H1)
end
abbrev EvI := Env → Sto → Res (List D)
def tIt (C : Cfg) (W : WX) (f : EvI) : TI := fun σ H R => ∃ η ρ st, StOk C η st H ∧ EnvOk C η H ρ σ ∧ Post C W σ (ItemsOk C) η H (f ρ st) R
structure SI (X : Cx) (C : Cfg) (tg e : Expr) (f : EvI) : Prop where
  run : ∀ W, Takes X W → PI X tg e (tIt C W f)
theorem PI_imp {X : Cx} {tg e : Expr} {t t' : TI} (h : PI X tg e t) (i : ∀ σ H R, t' σ H R → t σ H R) : PI X tg e t' := ⟨fun pins s σ H R I q => h.run pins s σ H R I (i σ H R q)⟩
/-- a list or a tuple is walked -/
def iSeq (K : PySem.W.Frag) (tl : TE) : TI := fun σ H R => tl σ H fun x H1 => (∃ a, x = .ref a ∧ (((∃ xs, SqL K H1 a xs) ∧ R (Itl K a) H1) ∨ ((∃ xs, SqT K H1 a xs) ∧ R (Itt K a) H1))) ∨ ∃ z, x = .str z ∧ R (Its z) H1
theorem pi_seq {X : Cx} {tg l : Expr} {tl : TE} (hl : PE X l tl) : PI X tg l (iSeq X.K tl) := by
  refine ⟨fun pins s σ H R I h => thn (hl.run pins s σ H _ I h) fun v s1 ⟨x, H1, I1, r1, e⟩ => ?_⟩
  rcases e with ⟨a, e, q⟩ | ⟨z, e, q⟩
  · subst e
    cases r1
    have new : ∀ b, b ∈ [s1.heap.objs.size] → FpOk X pins H1 b := fun b hb => by
      rw [List.mem_singleton] at hb
      rw [hb]
      exact I1.fpOk (Nat.le_refl _) (I1.hok.fresh (Nat.le_refl _))
    rcases q with ⟨⟨xs, hs⟩, q⟩ | ⟨⟨xs, hs⟩, q⟩
    · obtain ⟨its, rv, pl, hz⟩ := I1.list hs
      exact wpAny_pyIter_list pl.isList ⟨_, [s1.heap.objs.size], _, _, H1, rfl, I1.kept (t' := s1.toks) fun b o => Heap.get?_push_of_some _, turn_list a _, ⟨_, Heap.get?_push_size _ rfl, rfl, rfl⟩, new, q⟩
    · obtain ⟨its, rv, pl, hz⟩ := I1.tuple hs
      exact wpAny_pyIter_tuple (show s1.heap.IsTuple a its.toArray from pl) ⟨_, [s1.heap.objs.size], _, _, H1, rfl, I1.kept (t' := s1.toks) fun b o => Heap.get?_push_of_some _, turn_tuple a _, ⟨_, Heap.get?_push_size _ rfl, rfl, rfl⟩, new, q⟩
  · subst e
    obtain ⟨t, rfl⟩ := r1
    by_cases al : z.cps.all (· < 128) = true
    · exact wpAny_pyIter_ascii al (pi_one (tk := s1.toks) I1 _ (turn_str _ z t _ (.inl rfl)) ⟨_, Heap.get?_push_size _ rfl, rfl, rfl⟩ q)
    · exact wpAny_pyIter_wide (by simpa using al) (pi_one (tk := s1.toks) I1 _ (turn_str _ z t _ (.inr rfl)) ⟨_, Heap.get?_push_size _ rfl, rfl, rfl⟩ q)
def cSeqI (f : Ev) : EvI := fun ρ st => (f ρ st).bind fun d st1 => match d with
  | .lst xs => .ok xs st1
  | .tup xs => .ok xs st1
  | .str s => .ok (s.map fun c => .str [c]) st1
  | _ => .bad
section
variable {C : Cfg} {η : List Addr} {H : Hp}
theorem items_str {s : List Nat} : ItemsOk C η H (s.map fun c => .str [c]) (Its ⟨s.toArray⟩) := by
  intro C' η1 H1 st1 i l sp k
  have hsz : (⟨s.toArray⟩ : Str).cps.size = s.length := by simp
  refine ⟨fun x hx => ?_, fun hi => by rw [List.length_map] at hi; show (⟨s.toArray⟩ : Str).cps.size ≤ i; rw [hsz]; exact hi⟩
  rw [List.getElem?_map] at hx
  cases q : s[i]? with
  | none => rw [q] at hx; cases hx
  | some c =>
    rw [q] at hx
    cases hx
    have hlt : i < s.length := (List.getElem?_eq_some_iff.mp q).1
    refine ⟨by show i < (⟨s.toArray⟩ : Str).cps.size; rw [hsz]; exact hlt, fun u H2 y => ?_⟩
    obtain ⟨rfl, c2, hc, rfl⟩ := y
    have hc : s.toArray[i]? = some c2 := hc
    rw [List.getElem?_toArray, q] at hc
    cases hc
    exact ⟨Step.refl, k, by rw [Rep]⟩
theorem items_list {a : Addr} {vs : List V} {xs : List D} (t : LstAt C η H a vs) (r : RepL C η H xs vs) : ItemsOk C η H xs (Itl C.K a) := by
  intro C' η1 H1 st1 i l s k
  have q : SqL C.K H1 a vs := (t.mono s).sq
  have r1 := (r.conv l).mono s
  refine ⟨fun x hx => ?_, fun hi => ⟨vs, q, by rw [← r.length]; exact hi⟩⟩
  obtain ⟨v, hv, rv⟩ := r1.get hx
  refine ⟨⟨vs, v, q, hv⟩, fun u H2 y => ?_⟩
  obtain ⟨rfl, y⟩ := y
  have e := y vs q
  rw [hv] at e
  cases e
  exact ⟨Step.refl, k, rv⟩
theorem items_tup {a : Addr} {vs : List V} {xs : List D} (t : TupAt C η H a vs) (r : RepL C η H xs vs) : ItemsOk C η H xs (Itt C.K a) := by
  intro C' η1 H1 st1 i l s k
  have q : SqT C.K H1 a vs := (t.mono s).sq
  have r1 := (r.conv l).mono s
  refine ⟨fun x hx => ?_, fun hi => ⟨vs, q, by rw [← r.length]; exact hi⟩⟩
  obtain ⟨v, hv, rv⟩ := r1.get hx
  refine ⟨⟨vs, v, q, hv⟩, fun u H2 y => ?_⟩
  obtain ⟨rfl, y⟩ := y
  have e := y vs q
  rw [hv] at e
  cases e
  exact ⟨Step.refl, k, rv⟩
/-- lo, lo + 1, .. -/
def rng (lo : Int) (n : Nat) : List D := (List.range n).map fun i => .int (lo + (i : Nat))
theorem items_rng (lo : Int) (n : Nat) : ItemsOk C η H (rng lo n) (Itr lo n) := by
  intro C' η1 H1 st1 i l s k
  have hl : (rng lo n).length = n := by simp [rng]
  refine ⟨fun x hx => ?_, fun hi => by rw [hl] at hi; exact hi⟩
  have hi : i < n := by
    rw [← hl]
    exact (List.getElem?_eq_some_iff.mp hx).1
  refine ⟨hi, fun v H2 y => ?_⟩
  obtain ⟨rfl, rfl⟩ := y
  have e : x = .int (lo + (i : Nat)) := by
    unfold rng at hx
    rw [List.getElem?_map, List.getElem?_range hi] at hx
    exact (Option.some.inj hx).symm
  subst e
  exact ⟨Step.refl, k, by rw [Rep]⟩
/-- pairs -/
def zipD : List D → List D → List D
  | x :: xs, y :: ys => .tup [x, y] :: zipD xs ys
  | _, _ => []
theorem zipD_get : ∀ (xs ys : List D) (i : Nat), (zipD xs ys)[i]? = (match xs[i]?, ys[i]? with
    | some x, some y => some (.tup [x, y])
    | _, _ => none)
  | [], ys, i => by simp [zipD]
  | x :: xs, [], i => by
    simp [zipD]
  | x :: xs, y :: ys, 0 => by simp [zipD]
  | x :: xs, y :: ys, i + 1 => by
    simp only [zipD, List.getElem?_cons_succ]
    exact zipD_get xs ys i
theorem pair_new {C' : Cfg} {η1 : List Addr} {H1 : Hp} {st1 : Sto} {T : Addr} {x y : D} {u v : V} (k : StOk C' η1 st1 H1) (hT : H1 T = none) (rx : Rep C' η1 H1 x u) (ry : Rep C' η1 H1 y v) :
    Step η1 H1 η1 (upd H1 T (.tup [u, v])) ∧ StOk C' η1 st1 (upd H1 T (.tup [u, v])) ∧ Rep C' η1 (upd H1 T (.tup [u, v])) (.tup [x, y]) (.ref T) :=
  ⟨Step.new hT, k.new hT, new_tup k (RepL.cons rx (RepL.one ry)) hT⟩
theorem items_zipL {a b : Addr} {vs us : List V} {xs ys : List D} (t : LstAt C η H a vs) (r : RepL C η H xs vs) (t2 : LstAt C η H b us) (r2 : RepL C η H ys us) : ItemsOk C η H (zipD xs ys) (Itz C.K a b) := by
  intro C' η1 H1 st1 i l s k
  have q : SqL C.K H1 a vs := (t.mono s).sq
  have q2 : SqL C.K H1 b us := (t2.mono s).sq
  have r1 := (r.conv l).mono s
  have r3 := (r2.conv l).mono s
  have hz := zipD_get xs ys i
  refine ⟨fun x hx => ?_, fun hi => ?_⟩
  · rw [hx] at hz
    cases h1 : xs[i]? with
    | none => rw [h1] at hz; cases hz
    | some x1 =>
      cases h2 : ys[i]? with
      | none => rw [h1, h2] at hz; cases hz
      | some y1 =>
        rw [h1, h2] at hz
        cases hz
        obtain ⟨v, hv, rv⟩ := r1.get h1
        obtain ⟨u, hu, ru⟩ := r3.get h2
        refine ⟨⟨vs, us, v, u, q, q2, hv, hu⟩, fun w H2 y => ?_⟩
        obtain ⟨T, x', y', rfl, hT, rfl, f1, f2⟩ := y
        have e1 := f1 vs q
        rw [hv] at e1
        cases e1
        have e2 := f2 us q2
        rw [hu] at e2
        cases e2
        exact pair_new k hT rv ru
  · have e : (zipD xs ys)[i]? = none := List.getElem?_eq_none hi
    rw [e] at hz
    refine ⟨vs, us, q, q2, ?_⟩
    rw [← r.length, ← r2.length]
    cases h1 : xs[i]? with
    | none => exact .inl (List.getElem?_eq_none_iff.mp h1)
    | some x1 =>
      cases h2 : ys[i]? with
      | none => exact .inr (List.getElem?_eq_none_iff.mp h2)
      | some y1 => rw [h1, h2] at hz; cases hz
theorem items_zipT {a b : Addr} {vs us : List V} {xs ys : List D} (t : TupAt C η H a vs) (r : RepL C η H xs vs) (t2 : TupAt C η H b us) (r2 : RepL C η H ys us) : ItemsOk C η H (zipD xs ys) (RZ.ItzT C.K a b) := by
  intro C' η1 H1 st1 i l s k
  have q : SqT C.K H1 a vs := (t.mono s).sq
  have q2 : SqT C.K H1 b us := (t2.mono s).sq
  have r1 := (r.conv l).mono s
  have r3 := (r2.conv l).mono s
  have hz := zipD_get xs ys i
  refine ⟨fun x hx => ?_, fun hi => ?_⟩
  · rw [hx] at hz
    cases h1 : xs[i]? with
    | none => rw [h1] at hz; cases hz
    | some x1 =>
      cases h2 : ys[i]? with
      | none => rw [h1, h2] at hz; cases hz
      | some y1 =>
        rw [h1, h2] at hz
        cases hz
        obtain ⟨v, hv, rv⟩ := r1.get h1
        obtain ⟨u, hu, ru⟩ := r3.get h2
        refine ⟨⟨vs, us, v, u, q, q2, hv, hu⟩, fun w H2 y => ?_⟩
        obtain ⟨T, x', y', rfl, hT, rfl, f1, f2⟩ := y
        have e1 := f1 vs q
        rw [hv] at e1
        cases e1
        have e2 := f2 us q2
        rw [hu] at e2
        cases e2
        exact pair_new k hT rv ru
  · have e : (zipD xs ys)[i]? = none := List.getElem?_eq_none hi
    rw [e] at hz
    refine ⟨vs, us, q, q2, ?_⟩
    rw [← r.length, ← r2.length]
    cases h1 : xs[i]? with
    | none => exact .inl (List.getElem?_eq_none_iff.mp h1)
    | some x1 =>
      cases h2 : ys[i]? with
      | none => exact .inr (List.getElem?_eq_none_iff.mp h2)
      | some y1 => rw [h1, h2] at hz; cases hz
/-- numbered -/
def enumD (n : Nat) : List D → List D
  | [] => []
  | x :: xs => .tup [.int (n : Int), x] :: enumD (n + 1) xs
theorem enumD_get : ∀ (xs : List D) (n i : Nat), (enumD n xs)[i]? = (xs[i]?).map fun x => .tup [.int ((n + i : Nat) : Int), x]
  | [], n, i => by simp [enumD]
  | x :: xs, n, 0 => by simp [enumD]
  | x :: xs, n, i + 1 => by
    simp only [enumD, List.getElem?_cons_succ]
    rw [enumD_get xs (n + 1) i]
    have e : n + 1 + i = n + (i + 1) := by omega
    rw [e]
theorem enumD_len : ∀ (xs : List D) (n : Nat), (enumD n xs).length = xs.length
  | [], n => rfl
  | x :: xs, n => by simp [enumD, enumD_len xs]
theorem items_enum {a : Addr} {vs : List V} {xs : List D} (t : LstAt C η H a vs) (r : RepL C η H xs vs) : ItemsOk C η H (enumD 0 xs) (Ite C.K a) := by
  intro C' η1 H1 st1 i l s k
  have q : SqL C.K H1 a vs := (t.mono s).sq
  have r1 := (r.conv l).mono s
  refine ⟨fun x hx => ?_, fun hi => ⟨vs, q, by rw [← r.length, ← enumD_len xs 0]; exact hi⟩⟩
  rw [enumD_get] at hx
  cases h : xs[i]? with
  | none => rw [h] at hx; cases hx
  | some y =>
    rw [h] at hx
    cases hx
    obtain ⟨v, hv, rv⟩ := r1.get h
    refine ⟨⟨vs, v, q, hv⟩, fun w H2 z => ?_⟩
    obtain ⟨T, x', rfl, hT, rfl, f1⟩ := z
    have e1 := f1 vs q
    rw [hv] at e1
    cases e1
    refine pair_new k hT ?_ rv
    rw [Rep]
    simp
end
section
variable {X : Cx} {C : Cfg} {a b c e tg iter : Expr} {es : List Expr} {fa fb fc f : Ev} {fs : EvA} {ft fu : EvT} {fi : EvI} {pos pos' p p2 : Pos} {s : Stmt} {ss body orelse : List Stmt} {g h : EvS}
theorem SI.seq (hK : X.K = C.K) (h : SE X C e f) : SI X C tg e (cSeqI f) := ⟨fun W tk => PI_imp (pi_seq (h.run W tk)) fun σ H R ⟨η, ρ, st, k, en, p⟩ =>
  ⟨η, ρ, st, k, en, Post.bind (R := Rep C) (r := f ρ st) p fun d st1 v η1 H1 _ s1 k1 rd p1 => by
    rw [hK]
    cases d with
    | lst xs =>
      rw [Rep] at rd
      obtain ⟨a, vs, rfl, t, r⟩ := rd
      exact .inl ⟨a, rfl, .inl ⟨⟨vs, t.sq⟩, p1.ret k1 (items_list t r)⟩⟩
    | tup xs =>
      rw [Rep] at rd
      obtain ⟨a, vs, rfl, t, r⟩ := rd
      exact .inl ⟨a, rfl, .inr ⟨⟨vs, t.sq⟩, p1.ret k1 (items_tup t r)⟩⟩
    | str z =>
      rw [Rep] at rd
      subst rd
      exact .inr ⟨_, rfl, p1.ret k1 items_str⟩
    | _ => exact p1.elim⟩⟩
def cRng1 (fs : EvA) : EvI := fun ρ st => (fs ρ st).bind fun ds st1 => match ds with
  | [.int j] => if decide (j < 4000000) && decide (-4000000 < j) then .ok (rng 0 j.toNat) st1 else .bad
  | _ => .bad
theorem SI.range1 (hg : Gl X (Str.ofString "range")) (hm : X.mg (Str.ofString "range") = none) (ha : SA X C [a] fs) (hs : starEach [a] X.env = [(false, eval a X.env)] := by rfl) : SI X C tg (.Call (.Name (Str.ofString "range") p) [a] [] pos) (cRng1 fs) :=
  ⟨fun W tk => PI_imp (pi_range1 hg hm (ha.run W tk) hs) fun σ H R ⟨η, ρ, st, k, en, p⟩ =>
    ⟨η, ρ, st, k, en, Post.bind (R := RepL C) (r := fs ρ st) p fun ds st1 vs η1 H1 hok s1 k1 rs p1 => by
      split at p1
      · rename_i j
        obtain ⟨v, rfl, rv⟩ := rs.one_inv
        rw [Rep] at rv
        subst rv
        split at p1
        · rename_i h
          simp only [Bool.and_eq_true, decide_eq_true_eq] at h
          exact ⟨j, rfl, by omega, by omega, p1.ret k1 (items_rng 0 j.toNat)⟩
        · exact p1.elim
      · exact p1.elim⟩⟩
def cRng2 (fs : EvA) : EvI := fun ρ st => (fs ρ st).bind fun ds st1 => match ds with
  | [.int i, .int j] => if decide (j < 4000000) && decide (-4000000 < j) && decide (i < 4000000) && decide (-4000000 < i) then .ok (rng i (j - i).toNat) st1 else .bad
  | _ => .bad
theorem SI.range2 (hg : Gl X (Str.ofString "range")) (hm : X.mg (Str.ofString "range") = none) (ha : SA X C [a, b] fs) (hs : starEach [a, b] X.env = [(false, eval a X.env), (false, eval b X.env)] := by rfl) (hs2 : starEach [b] X.env = [(false, eval b X.env)] := by rfl) : SI X C tg (.Call (.Name (Str.ofString "range") p) [a, b] [] pos) (cRng2 fs) :=
  ⟨fun W tk => PI_imp (pi_range2 hg hm (ha.run W tk) hs hs2) fun σ H R ⟨η, ρ, st, k, en, p⟩ =>
    ⟨η, ρ, st, k, en, Post.bind (R := RepL C) (r := fs ρ st) p fun ds st1 vs η1 H1 hok s1 k1 rs p1 => by
      split at p1
      · rename_i i j
        obtain ⟨v, u, rfl, rv, ru⟩ := rs.two_inv
        rw [Rep] at rv ru
        subst rv ru
        split at p1
        · rename_i h
          simp only [Bool.and_eq_true, decide_eq_true_eq] at h
          exact ⟨i, j, rfl, ⟨by omega, by omega, by omega, by omega⟩, p1.ret k1 (items_rng i (j - i).toNat)⟩
        · exact p1.elim
      · exact p1.elim⟩⟩
def cZip (fs : EvA) : EvI := fun ρ st => (fs ρ st).bind fun ds st1 => match ds with
  | [.lst xs, .lst ys] => .ok (zipD xs ys) st1
  | [.tup xs, .tup ys] => .ok (zipD xs ys) st1
  | _ => .bad
theorem SI.zip {elts : List Expr} {kk : Nat} {tpos : Pos} (hK : X.K = C.K) (hg : Gl X (Str.ofString "zip")) (hm : X.mg (Str.ofString "zip") = none) (ha : SA X C [a, b] fs) (hs : starEach [a, b] X.env = (false, eval a X.env) :: starEach [b] X.env := by rfl) (hpl : (backTo pos (starEach [b] X.env)).any (·.1) = false := by rfl) :
    SI X C (.Tuple elts kk tpos) (.Call (.Name (Str.ofString "zip") p) [a, b] [] pos) (cZip fs) :=
  ⟨fun W tk => PI_imp (RZ.pi_zipA hg hm (ha.run W tk) hs hpl) fun σ H R ⟨η, ρ, st, k, en, p⟩ =>
    ⟨η, ρ, st, k, en, Post.bind (R := RepL C) (r := fs ρ st) p fun ds st1 vs η1 H1 hok s1 k1 rs p1 => by
      rw [hK]
      split at p1
      · rename_i xs ys
        obtain ⟨v, u, rfl, rv, ru⟩ := rs.two_inv
        rw [Rep] at rv ru
        obtain ⟨a1, vs, rfl, t, r⟩ := rv
        obtain ⟨a2, us, rfl, t2, r2⟩ := ru
        exact ⟨a1, a2, vs, us, rfl, .inl ⟨t.sq, t2.sq, p1.ret k1 (items_zipL t r t2 r2)⟩⟩
      · rename_i xs ys
        obtain ⟨v, u, rfl, rv, ru⟩ := rs.two_inv
        rw [Rep] at rv ru
        obtain ⟨a1, vs, rfl, t, r⟩ := rv
        obtain ⟨a2, us, rfl, t2, r2⟩ := ru
        exact ⟨a1, a2, vs, us, rfl, .inr ⟨t.sq, t2.sq, p1.ret k1 (items_zipT t r t2 r2)⟩⟩
      · exact p1.elim⟩⟩
def cEnum (fs : EvA) : EvI := fun ρ st => (fs ρ st).bind fun ds st1 => match ds with
  | [.lst xs] => .ok (enumD 0 xs) st1
  | _ => .bad
theorem SI.enum {elts : List Expr} {kk : Nat} {tpos : Pos} (hK : X.K = C.K) (hg : Gl X (Str.ofString "enumerate")) (hm : X.mg (Str.ofString "enumerate") = none) (ha : SA X C [a] fs) (hs : starEach [a] X.env = [(false, eval a X.env)] := by rfl) :
    SI X C (.Tuple elts kk tpos) (.Call (.Name (Str.ofString "enumerate") p) [a] [] pos) (cEnum fs) :=
  ⟨fun W tk => PI_imp (pi_enum hg hm (ha.run W tk) hs) fun σ H R ⟨η, ρ, st, k, en, p⟩ =>
    ⟨η, ρ, st, k, en, Post.bind (R := RepL C) (r := fs ρ st) p fun ds st1 vs η1 H1 hok s1 k1 rs p1 => by
      rw [hK]
      split at p1
      · rename_i xs
        obtain ⟨v, rfl, rv⟩ := rs.one_inv
        rw [Rep] at rv
        obtain ⟨a1, vs, rfl, t, r⟩ := rv
        exact ⟨a1, vs, rfl, t.sq, p1.ret k1 (items_enum t r)⟩
      · exact p1.elim⟩⟩

/-! ### for -/
def forD (g : EvG) (body : EvS) : List D → EvS
  | [], ρ, st => .ok (.nx ρ) st
  | x :: xs, ρ, st => match g x ρ with
    | none => .bad
    | some ρ1 => (match body ρ1 st with
      | .ok (.nx ρ2) st2 => forD g body xs ρ2 st2
      | .ok (.ct ρ2) st2 => forD g body xs ρ2 st2
      | .ok (.bk ρ2) st2 => .ok (.nx ρ2) st2
      | r => r)
def sFor (fi : EvI) (g : EvG) (body : EvS) : EvS := fun ρ st => (fi ρ st).into ρ fun xs st1 => forD g body xs ρ st1
theorem SS.for_ {gt : EvG} {own : List Nat} (hp : PassesOwn (model X.prog X.w) X.A X.env X.xe) (hc : X.calm = true) (hi : SI X C tg iter fi) (hg : SG X C tg gt own) (hb : SB X C body g) (hs : ∀ x, foldedSetIterable iter X.env x = pure x := by intro _; rfl) :
    SS X C (.For tg iter body [] pos) (sFor fi gt g) := ⟨fun W tk => PS_imp (ps_for hp hc (hi.run W tk) hg.run (hb.run W tk) hs) fun D σ H ⟨η, ρ, st, k, en, p⟩ => by
  refine ⟨η, ρ, st, k, en, PostS.into (R := ItemsOk C) (r := fi ρ st) p en fun xs st1 J η0 H0 _ s0 k0 items p0 => ?_⟩
  have en0 := en.mono s0
  refine ⟨fun i m σ H => m = xs.length - i ∧ i ≤ xs.length ∧ ∃ η1 ρ1 st1, Step η0 H0 η1 H ∧ StOk C η1 st1 H ∧ EnvOk C η1 H ρ1 σ ∧ PostS C W η1 H (forD gt g (xs.drop i) ρ1 st1) D,
    ⟨_, rfl, Nat.zero_le _, η0, ρ, st1, Step.refl, k0, en0, p0⟩, ?_⟩
  rintro i m σ1 H1 ⟨rfl, hi, η1, ρ1, st2, s1, k1, en1, p1⟩
  obtain ⟨it, stop⟩ := items C η1 H1 st2 i ⟨rfl, rfl, rfl, rfl, fun _ a b => absurd a b⟩ s1 k1
  by_cases hl : i < xs.length
  · have hx : xs[i]? = some xs[i] := List.getElem?_eq_getElem hl
    obtain ⟨go, yl⟩ := it _ hx
    rw [List.drop_eq_getElem_cons hl] at p1
    unfold forD at p1
    refine .inr ⟨go, fun σ' H' => ∃ η3 ρ3 st3, Step η0 H0 η3 H' ∧ StOk C η3 st3 H' ∧ EnvOk C η3 H' ρ3 σ' ∧ PostS C W η3 H' (forD gt g (xs.drop (i + 1)) ρ3 st3) D, fun σ' H' n => ⟨xs.length - (i + 1), by omega, rfl, hl, n⟩, fun v H2 y => ?_⟩
    obtain ⟨s2, k2, r2⟩ := yl v H2 y
    cases hg2 : gt xs[i] ρ1 with
    | none => rw [hg2] at p1; exact p1.elim
    | some ρ2 =>
      rw [hg2] at p1
      dsimp only at p1
      refine ⟨η1, ρ1, _, ρ2, en1.mono s2, r2, hg2, fun σ2 en2 _ => ⟨η1, ρ2, st2, k2, en2, ?_⟩⟩
      have p2 := PostS.step s2 p1
      cases hb2 : g ρ2 st2 with
      | ok o st3 =>
        rw [hb2] at p2
        cases o with
        | nx ρ3 => exact fun σ3 η3 H3 s3 k3 en3 => ⟨η3, ρ3, st3, (s1.trans s2).trans s3, k3, en3, PostS.step s3 p2⟩
        | ct ρ3 => exact fun σ3 η3 H3 s3 k3 en3 => ⟨η3, ρ3, st3, (s1.trans s2).trans s3, k3, en3, PostS.step s3 p2⟩
        | bk ρ3 => exact p2
        | rt d => exact p2
      | exc x ρ3 st3 => rw [hb2] at p2; exact p2
      | bad => rw [hb2] at p2; exact p2
  · have e : i = xs.length := by omega
    subst e
    rw [List.drop_length] at p1
    exact .inl ⟨stop (Nat.le_refl _), p1.nx k1 en1⟩⟩
/-! ### while -/
def whileD (t : EvT) (body : EvS) : Nat → EvS
  | 0, _, _ => .bad
  | n + 1, ρ, st => (t ρ st).into ρ fun b st1 => match b with
    | false => .ok (.nx ρ) st1
    | true => (match body ρ st1 with
      | .ok (.nx ρ2) st2 => whileD t body n ρ2 st2
      | .ok (.ct ρ2) st2 => whileD t body n ρ2 st2
      | .ok (.bk ρ2) st2 => .ok (.nx ρ2) st2
      | r => r)
theorem SS.while_ (n : Nat) (hp : PassesOwn (model X.prog X.w) X.A X.env X.xe) (hc : ST X C c ft) (hb : SB X C body g) : SS X C (.While c body [] pos) (whileD ft g n) := ⟨fun W tk => PS_imp (ps_while hp (hc.run W tk) (hb.run W tk)) fun D σ H ⟨η, ρ, st, k, en, p⟩ => by
  refine ⟨fun m σ H => ∃ η ρ st, StOk C η st H ∧ EnvOk C η H ρ σ ∧ PostS C W η H (whileD ft g m ρ st) D, ⟨n, η, ρ, st, k, en, p⟩, ?_⟩
  rintro m σ1 H1 ⟨η1, ρ1, st1, k1, en1, p1⟩
  cases m with
  | zero => exact p1.elim
  | succ m =>
    unfold whileD at p1
    refine ⟨η1, ρ1, st1, k1, en1, PostS.into (R := fun _ _ a b => a = b) (r := ft ρ1 st1) p1 en1 fun b st2 v η2 H2 _ s2 k2 r2 p2 => ?_⟩
    subst r2
    have en2 := en1.mono s2
    cases b with
    | false => exact iteF (p2.nx k2 en2)
    | true =>
      refine iteT ⟨fun σ' H' => ∃ η ρ st, StOk C η st H' ∧ EnvOk C η H' ρ σ' ∧ PostS C W η H' (whileD ft g m ρ st) D, fun σ' H' z => ⟨m, Nat.lt_succ_self m, z⟩, η2, ρ1, st2, k2, en2, ?_⟩
      cases hb2 : g ρ1 st2 with
      | ok o st3 =>
        rw [hb2] at p2
        cases o with
        | nx ρ3 => exact fun σ3 η3 H3 s3 k3 en3 => ⟨η3, ρ3, st3, k3, en3, PostS.step s3 p2⟩
        | ct ρ3 => exact fun σ3 η3 H3 s3 k3 en3 => ⟨η3, ρ3, st3, k3, en3, PostS.step s3 p2⟩
        | bk ρ3 => exact p2
        | rt d => exact p2
      | exc x ρ3 st3 => rw [hb2] at p2; exact p2
      | bad => rw [hb2] at p2; exact p2⟩
/-! ### list comprehensions -/
/-- the slots of a block's own names forgotten -/
def wipeD (ρ : Env) : List Nat → Env
  | [] => ρ
  | v :: vs => (wipeD ρ vs).set v none
theorem EnvOk.wipe {η : List Addr} {H : Hp} {ρ : Env} {σ : L2.St} (e : EnvOk C η H ρ σ) : ∀ vs : List Nat, EnvOk C η H (wipeD ρ vs) (L2.wipe σ vs)
  | [] => e
  | v :: vs => by
    have h := EnvOk.wipe e vs
    refine ⟨by simp [wipeD, L2.wipe, h.len], fun j x q => ?_⟩
    unfold wipeD at q
    unfold L2.wipe
    by_cases hj : j = v
    · subst hj
      have hl : j < (wipeD ρ vs).length := by simpa using (List.getElem?_eq_some_iff.mp q).1
      rw [List.getElem?_set_self hl] at q
      cases q
    · rw [List.getElem?_set_ne (Ne.symm hj)] at q
      obtain ⟨w, e1, r⟩ := h.ok j x q
      exact ⟨w, by rw [List.getElem?_set_ne (Ne.symm hj)]; exact e1, r⟩
/-- the turns: no exception may leave a block -/
def lcD (g : EvG) (t : EvT) (f : Ev) (ρ : Env) : List D → List D → Sto → Res (List D)
  | [], acc, st => .ok acc st
  | x :: xs, acc, st => match g x ρ with
    | none => .bad
    | some ρ1 => (match t ρ1 st with
      | .ok true st1 => (match f ρ1 st1 with
        | .ok d st2 => if big (acc.length + 1) then lcD g t f ρ xs (acc ++ [d]) st2 else .bad
        | _ => .bad)
      | .ok false st1 => lcD g t f ρ xs acc st1
      | _ => .bad)
def cLc (fi : EvI) (g : EvG) (t : EvT) (f : Ev) (vs : List Nat) : Ev := fun ρ st => (fi ρ st).bind fun xs st1 => (lcD g t f (wipeD ρ vs) xs [] st1).bind fun ds st2 => .ok (.lst ds) st2
def cLcN (fi : EvI) (g : EvG) (t : EvT) (f : Ev) (vs : List Nat) : Ev := fun ρ st => (fi ρ st).bind fun xs st1 => (lcD g t f (wipeD ρ vs) xs [] st1).bind fun ds st2 => .ok (.ref st2.length) (st2 ++ [.lst ds])
def tYesD : EvT := fun _ st => .ok true st
/-- a block's tests -/
structure STs (X : Cx) (C : Cfg) (ifs : List Expr) (t : EvT) : Prop where
  run : ∀ W, Takes X W → PTs X ifs (tT C W t)
theorem PTs_imp {X : Cx} {ifs : List Expr} {t t' : TT} (h : PTs X ifs t) (i : ∀ σ H Q, t' σ H Q → t σ H Q) : PTs X ifs t' := ⟨fun pins s σ H Q I q => h.run pins s σ H Q I (i σ H Q q)⟩
theorem STs.nil : STs X C [] tYesD := ⟨fun W tk => PTs_imp pts_nil fun σ H Q ⟨η, ρ, st, k, en, p⟩ => p.ret k rfl⟩
theorem STs.one (h : ST X C c ft) : STs X C [c] ft := ⟨fun W tk => pts_one (h.run W tk)⟩
/-- nothing is let out -/
abbrev W0 : WX := fun _ _ _ _ => False
theorem wipe_get (σ : L2.St) (j : Nat) : ∀ vs : List Nat, (L2.wipe σ vs)[j]? = if j ∈ vs ∧ j < σ.length then some none else σ[j]?
  | [] => by simp [L2.wipe]
  | v :: vs => by
    unfold L2.wipe
    by_cases hj : j = v
    · subst hj
      by_cases hl : j < σ.length
      · rw [List.getElem?_set_self (by rw [wipe_length]; exact hl), if_pos ⟨List.mem_cons_self, hl⟩]
      · rw [if_neg (fun z => hl z.2), List.getElem?_eq_none (by simp [wipe_length]; omega), List.getElem?_eq_none (by omega)]
    · rw [List.getElem?_set_ne (Ne.symm hj), wipe_get σ j vs]
      simp [hj]
theorem wipe_but {vs : List Nat} {σ σ2 : L2.St} (h : But vs (L2.wipe σ vs) σ2) : L2.wipe σ2 vs = L2.wipe σ vs := by
  obtain ⟨h1, h2⟩ := h
  rw [wipe_length] at h1
  refine List.ext_getElem? fun j => ?_
  rw [wipe_get, wipe_get, h1]
  by_cases hj : j ∈ vs ∧ j < σ.length
  · rw [if_pos hj, if_pos hj]
  · rw [if_neg hj, if_neg hj]
    by_cases hm : j ∈ vs
    · have hl : σ.length ≤ j := Nat.not_lt.mp fun z => hj ⟨hm, z⟩
      rw [List.getElem?_eq_none (by omega), List.getElem?_eq_none hl]
    · rw [h2 j hm, wipe_get, if_neg hj]
end
section
variable {C C' : Cfg} {η : List Addr} {H H' : Hp} {st : Sto} {a : Addr}
/-- what is being made has changed -/
def Rest (C : Cfg) (H H' : Hp) : Prop := ∀ a u, a ∉ C.hot → H a = some u → H' a = some u
theorem TupAt.rest {vs : List V} (l : Rest C H H') (h : TupAt C η H a vs) : TupAt C η H' a vs := by
  rcases h with ⟨n, m, h | ⟨o, h⟩⟩ | h
  · exact .inl ⟨n, m, .inl (l a _ m h)⟩
  · exact .inl ⟨n, m, .inr ⟨o, l a _ m h⟩⟩
  · exact .inr h
theorem LstAt.rest {vs : List V} (l : Rest C H H') (h : LstAt C η H a vs) : LstAt C η H' a vs := by
  rcases h with ⟨n, m, h | ⟨o, h⟩⟩ | h
  · exact .inl ⟨n, m, .inl (l a _ m h)⟩
  · exact .inl ⟨n, m, .inr ⟨o, l a _ m h⟩⟩
  · exact .inr h
theorem CloAt.rest {t : LamT} (l : Rest C H H') (h : CloAt η C.hot H t a) : CloAt η C.hot H' t a := by
  obtain ⟨c, n1, n2, n3, n4, e1, e2⟩ := h
  exact ⟨c, n1, n2, n3, n4, l a _ n2 e1, l c _ n4 e2⟩
theorem rd_rest {o : HO} (l : Rest C H H') (h : a ∉ η ∧ a ∉ C.hot ∧ Rd H a o) : a ∉ η ∧ a ∉ C.hot ∧ Rd H' a o := ⟨h.1, h.2.1, h.2.2.elim (fun q => .inl (l a _ h.2.1 q)) fun ⟨u, q⟩ => .inr ⟨u, l a _ h.2.1 q⟩⟩
theorem ob_rest {o : HO} (l : Rest C H H') (h : a ∉ η ∧ a ∉ C.hot ∧ H a = some o) : a ∉ η ∧ a ∉ C.hot ∧ H' a = some o := ⟨h.1, h.2.1, l a _ h.2.1 h.2.2⟩
mutual
theorem Rep.rest (l : Rest C H H') : ∀ {d : D} {v : V}, Rep C η H d v → Rep C η H' d v
  | .non, _, h => h
  | .bl _, _, h => h
  | .int _, _, h => h
  | .str _, _, h => h
  | .ty _, _, h => h
  | .glo _, _, h => h
  | .ref _, _, h => h
  | .tup ds, _, h => by
    rw [Rep] at h ⊢
    obtain ⟨a, vs, e, t, r⟩ := h
    exact ⟨a, vs, e, t.rest l, RepL.rest l r⟩
  | .lst ds, _, h => by
    rw [Rep] at h ⊢
    obtain ⟨a, vs, e, t, r⟩ := h
    exact ⟨a, vs, e, t.rest l, RepL.rest l r⟩
  | .clo _ ds, _, h => by
    rw [Rep] at h ⊢
    obtain ⟨a, t, ws, e, q, r, z⟩ := h
    exact ⟨a, t, ws, e, q, r.rest l, RepL.rest l z⟩
  | .dic _ ds, _, h => by
    rw [Rep] at h ⊢
    obtain ⟨a, kvs, e, q, e2, r⟩ := h
    exact ⟨a, kvs, e, rd_rest l q, e2, RepL.rest l r⟩
  | .ins _ _ ds, _, h => by
    rw [Rep] at h ⊢
    obtain ⟨a, c, dx, fs, e, q, g, e2, r⟩ := h
    exact ⟨a, c, dx, fs, e, ob_rest l q, g, e2, RepL.rest l r⟩
theorem RepL.rest (l : Rest C H H') : ∀ {ds : List D} {vs : List V}, RepL C η H ds vs → RepL C η H' ds vs
  | [], _, h => h
  | d :: ds, _, h => by
    rw [RepL] at h ⊢
    obtain ⟨v, r, e, h1, h2⟩ := h
    exact ⟨v, r, e, Rep.rest l h1, RepL.rest l h2⟩
end
theorem SOk.rest {o : SO} (l : Rest C H H') (e : H' a = H a) (h : SOk C η H a o) : SOk C η H' a o := by
  cases o with
  | lst ds =>
    obtain ⟨vs, q, r⟩ := h
    exact ⟨vs, e.trans q, r.rest l⟩
  | dic ks ds =>
    obtain ⟨kvs, q, n, r⟩ := h
    exact ⟨kvs, e.trans q, n, r.rest l⟩
  | ins k ns ds =>
    obtain ⟨c, dx, fs, q, g, n, r⟩ := h
    exact ⟨c, dx, fs, e.trans q, g, n, r.rest l⟩
/-- the thing at p is being made -/
theorem rest_upd {p : Addr} {o : HO} (h : p ∈ C.hot) : Rest C H (upd H p o) := fun a u n e => by
  have ne : a ≠ p := fun z => n (by rw [z]; exact h)
  rw [upd_ne ne]
  exact e
theorem StOk.rest {p : Addr} {o : HO} {xs : List V} (k : StOk C η st H) (h : p ∈ C.hot) (n : p ∉ η) (el : H p = some (.lst xs)) (ol : ∃ ys, o = .lst ys) : StOk C η st (upd H p o) :=
  ⟨k.len, k.nd, fun m a x h1 h2 => (k.ok m a x h1 h2).rest (rest_upd h) (upd_ne fun z => n (z ▸ List.mem_of_getElem? h1)), fun b hb => ⟨(k.hot b hb).1, by
    by_cases e : b = p
    · obtain ⟨ys, rfl⟩ := ol
      exact ⟨.lst ys, by rw [e, upd_same], trivial⟩
    · rw [upd_ne e]
      exact (k.hot b hb).2⟩, fun q hq => tab_upd el trivial (k.tab q hq)⟩
/-- made, it joins the store -/
theorem TupAt.join {vs : List V} {p : Addr} (hp : p ∈ C.hot) (l : Like C C' H) (h : TupAt C η H a vs) : TupAt C' (η ++ [p]) H a vs := by
  rcases h with ⟨n, m, h⟩ | h
  · have q := TupAt.conv l (.inl ⟨n, m, h⟩ : TupAt C η H a vs)
    have np : a ∉ η ++ [p] := fun z => by
      rcases List.mem_append.mp z with z | z
      · exact n z
      · rw [List.mem_singleton] at z
        exact m (z ▸ hp)
    rcases q with ⟨_, m2, h2⟩ | q
    · exact .inl ⟨np, m2, h2⟩
    · exact .inr q
  · exact .inr (l.k ▸ h)
theorem LstAt.join {vs : List V} {p : Addr} (hp : p ∈ C.hot) (l : Like C C' H) (h : LstAt C η H a vs) : LstAt C' (η ++ [p]) H a vs := by
  rcases h with ⟨n, m, h⟩ | h
  · have q := LstAt.conv l (.inl ⟨n, m, h⟩ : LstAt C η H a vs)
    have np : a ∉ η ++ [p] := fun z => by
      rcases List.mem_append.mp z with z | z
      · exact n z
      · rw [List.mem_singleton] at z
        exact m (z ▸ hp)
    rcases q with ⟨_, m2, h2⟩ | q
    · exact .inl ⟨np, m2, h2⟩
    · exact .inr q
  · exact .inr (l.k ▸ h)
theorem CloAt.join {t : LamT} {p : Addr} (hp : p ∈ C.hot) (l : Like C C' H) (h : CloAt η C.hot H t a) : CloAt (η ++ [p]) C'.hot H t a := by
  have q := h.conv l
  obtain ⟨c, n1, n2, n3, n4, e1, e2⟩ := h
  obtain ⟨c', m1, m2, m3, m4, f1, f2⟩ := q
  have out : ∀ {b : Addr}, b ∉ η → b ∉ C.hot → b ∉ η ++ [p] := fun h1 h2 z => by
    rcases List.mem_append.mp z with z | z
    · exact h1 z
    · rw [List.mem_singleton] at z
      exact h2 (z ▸ hp)
  have nc : c ∉ C'.hot := fun z => by
    rw [l.h c z n4] at e2
    cases e2
  exact ⟨c, out n1 n2, m2, out n3 n4, nc, e1, e2⟩
theorem rd_join {o : HO} {p : Addr} (hp : p ∈ C.hot) (l : Like C C' H) (h : a ∉ η ∧ a ∉ C.hot ∧ Rd H a o) : a ∉ η ++ [p] ∧ a ∉ C'.hot ∧ Rd H a o := by
  refine ⟨fun z => ?_, (rd_conv l h).2⟩
  rcases List.mem_append.mp z with z | z
  · exact h.1 z
  · rw [List.mem_singleton] at z
    exact h.2.1 (z ▸ hp)
theorem ob_join {o : HO} {p : Addr} (hp : p ∈ C.hot) (l : Like C C' H) (h : a ∉ η ∧ a ∉ C.hot ∧ H a = some o) : a ∉ η ++ [p] ∧ a ∉ C'.hot ∧ H a = some o := by
  refine ⟨fun z => ?_, (ob_conv l h).2⟩
  rcases List.mem_append.mp z with z | z
  · exact h.1 z
  · rw [List.mem_singleton] at z
    exact h.2.1 (z ▸ hp)
mutual
theorem Rep.join {p : Addr} (hp : p ∈ C.hot) (l : Like C C' H) : ∀ {d : D} {v : V}, Rep C η H d v → Rep C' (η ++ [p]) H d v
  | .non, _, h => h
  | .bl _, _, h => h
  | .int _, _, h => h
  | .str _, _, h => h
  | .ty _, _, h => h
  | .glo _, _, h => by
    rw [Rep] at h ⊢
    rw [← l.g]
    exact h
  | .ref n, _, h => by
    rw [Rep] at h ⊢
    obtain ⟨a, e, r⟩ := h
    exact ⟨a, by rw [List.getElem?_append_left (List.getElem?_eq_some_iff.mp e).1]; exact e, r⟩
  | .tup ds, _, h => by
    rw [Rep] at h ⊢
    obtain ⟨a, vs, e, t, r⟩ := h
    exact ⟨a, vs, e, t.join hp l, RepL.join hp l r⟩
  | .lst ds, _, h => by
    rw [Rep] at h ⊢
    obtain ⟨a, vs, e, t, r⟩ := h
    exact ⟨a, vs, e, t.join hp l, RepL.join hp l r⟩
  | .clo _ ds, _, h => by
    rw [Rep] at h ⊢
    obtain ⟨a, t, ws, e, q, r, z⟩ := h
    exact ⟨a, t, ws, e, l.l ▸ q, r.join hp l, RepL.join hp l z⟩
  | .dic _ ds, _, h => by
    rw [Rep] at h ⊢
    obtain ⟨a, kvs, e, q, e2, r⟩ := h
    exact ⟨a, kvs, e, rd_join hp l q, e2, RepL.join hp l r⟩
  | .ins _ _ ds, _, h => by
    rw [Rep] at h ⊢
    obtain ⟨a, c, dx, fs, e, q, g, e2, r⟩ := h
    exact ⟨a, c, dx, fs, e, ob_join hp l q, l.g ▸ g, e2, RepL.join hp l r⟩
theorem RepL.join {p : Addr} (hp : p ∈ C.hot) (l : Like C C' H) : ∀ {ds : List D} {vs : List V}, RepL C η H ds vs → RepL C' (η ++ [p]) H ds vs
  | [], _, h => h
  | d :: ds, _, h => by
    rw [RepL] at h ⊢
    obtain ⟨v, r, e, h1, h2⟩ := h
    exact ⟨v, r, e, Rep.join hp l h1, RepL.join hp l h2⟩
end
theorem SOk.join {o : SO} {p : Addr} (hp : p ∈ C.hot) (l : Like C C' H) (h : SOk C η H a o) : SOk C' (η ++ [p]) H a o := by
  cases o with
  | lst ds =>
    obtain ⟨vs, q, r⟩ := h
    exact ⟨vs, q, r.join hp l⟩
  | dic ks ds =>
    obtain ⟨kvs, q, n, r⟩ := h
    exact ⟨kvs, q, n, r.join hp l⟩
  | ins k ns ds =>
    obtain ⟨c, dx, fs, q, g, n, r⟩ := h
    exact ⟨c, dx, fs, q, l.g ▸ g, n, r.join hp l⟩
/-- cooler -/
theorem Like.less (k : C.K = C'.K) (g : C.gl = C'.gl) (l : C.lam = C'.lam) (t : C.tabs = C'.tabs) (h : ∀ a, a ∈ C'.hot → a ∈ C.hot) : Like C C' H := ⟨k, g, l, t, fun a b c => absurd (h a b) c⟩
theorem StOk.conv (l : Like C C' H) (k : StOk C η st H) (h : ∀ a ∈ C'.hot, a ∉ η ∧ ∃ o, H a = some o ∧ Mut o) : StOk C' η st H := ⟨k.len, k.nd, fun n a o h1 h2 => (k.ok n a o h1 h2).conv l, h, l.t ▸ k.tab⟩
/-- a thing begins to be made -/
theorem StOk.begin {p : Addr} {ys : List V} (k : StOk C η st H) (hp : H p = none) : StOk ⟨C.K, C.gl, p :: C.hot, C.lam, C.tabs⟩ η st (upd H p (.lst ys)) := by
  have l : Like C ⟨C.K, C.gl, p :: C.hot, C.lam, C.tabs⟩ H := ⟨rfl, rfl, rfl, rfl, fun a b c => by
    rcases List.mem_cons.mp b with rfl | b
    · exact hp
    · exact absurd b c⟩
  refine ⟨k.len, k.nd, fun n a x h1 h2 => ((k.ok n a x h1 h2).conv l).mono (Step.new hp) ?_, fun b hb => ?_, k.tab.ext fun b u e => by rw [upd_ne (ne_of_none e hp)]; exact e⟩
  · obtain ⟨u, e⟩ := k.there (List.mem_of_getElem? h1)
    rw [upd_ne (ne_of_none e hp)]
  · rcases List.mem_cons.mp hb with w | w
    · subst w
      refine ⟨fun m => ?_, .lst ys, upd_same, trivial⟩
      obtain ⟨u, e⟩ := k.there m
      rw [hp] at e
      cases e
    · exact ⟨(k.hot b w).1, (k.hot b w).2.imp fun o e => ⟨by rw [upd_ne (ne_of_none e.1 hp)]; exact e.1, e.2⟩⟩
end
section
variable {X : Cx} {C : Cfg} {c e tg iter elt : Expr} {ifs : List Expr} {f : Ev} {ft : EvT} {fi : EvI} {gt : EvG} {pos pos' : Pos} {scope : Scope} {own : List (Str × Nat)} {vs o1 : List Nat}
/-- in some heat -/
def tEx (C : Cfg) (f : Ev) : TE := fun σ H Q => ∃ hot, tE ⟨C.K, C.gl, hot, C.lam, C.tabs⟩ W0 f σ H Q
def tTx (C : Cfg) (t : EvT) : TT := fun σ H Q => ∃ hot, tT ⟨C.K, C.gl, hot, C.lam, C.tabs⟩ W0 t σ H Q
def tGx (C : Cfg) (g : EvG) (own : List Nat) : TG := fun v σ H Q => ∃ hot, tG ⟨C.K, C.gl, hot, C.lam, C.tabs⟩ g own v σ H Q
theorem lc_in {te : TE} (fin : List D → Sto → Res D) {W : WX} {σ : L2.St} {Q : VK} {η1 : List Addr} {H1 : Hp} {st1 : Sto} {ρw : Env} {xs : List D} {J : It} {Dn : Addr} (hte : ∀ σ2 H2 Q2, wipe σ2 vs = wipe σ vs → tEx C f σ2 H2 Q2 → te σ2 H2 Q2) (ho : ∀ i ∈ o1, i ∈ vs)
    (hfin : ∀ (η1 η2 : List Addr) (H1 H2 : Hp) (ds : List D) (st2 : Sto) (us : List V) (p : Addr), H1 p = none → Step η1 H1 η2 H2 → StOk ⟨C.K, C.gl, p :: C.hot, C.lam, C.tabs⟩ η2 st2 H2 → H2 p = some (.lst us) → p ∉ η2 → p ∉ C.hot → RepL ⟨C.K, C.gl, p :: C.hot, C.lam, C.tabs⟩ η2 H2 ds us → Post C W σ (Rep C) η1 H1 (fin ds st2) Q → Q (.ref p) H2)
    (k1 : StOk C η1 st1 H1) (enw : EnvOk C η1 H1 ρw (L2.wipe σ vs)) (items : ItemsOk C η1 H1 xs J) (p1 : Post C W σ (Rep C) η1 H1 ((lcD gt ft f ρw xs [] st1).bind fin) Q) (hD : H1 Dn = none) :
    ∃ Wm : Nat → Nat → Hp → Prop, (∃ m, Wm 0 m (upd H1 Dn (.lst []))) ∧ ∀ i m H, Wm i m H → (J.stop i H ∧ Q (.ref Dn) H) ∨ (J.go i H ∧ ∃ Nx : Hp → Prop, (∀ H', Nx H' → ∃ m', m' < m ∧ Wm (i + 1) m' H') ∧ ∀ x H', J.yld i H x H' → tGx C gt o1 x (wipe σ vs) H' fun σ2 H2 => wipe σ2 vs = wipe σ vs ∧ tTx C ft σ2 H2 fun b H3 =>
      if b = true then te σ2 H3 fun y H4 => ∃ acc, H4 Dn = some (.lst acc) ∧ acc.length < sizeLine ∧ Nx (upd H4 Dn (.lst (acc ++ [y]))) else Nx H3) := by
  have nhot : Dn ∉ C.hot := fun m => k1.cold m hD
  have lk : Like C ⟨C.K, C.gl, Dn :: C.hot, C.lam, C.tabs⟩ H1 := ⟨rfl, rfl, rfl, rfl, fun a b c => by
    rcases List.mem_cons.mp b with rfl | b
    · exact hD
    · exact absurd b c⟩
  have neD : ∀ {a : Addr} {u : HO}, H1 a = some u → a ≠ Dn := fun e z => by rw [z, hD] at e; cases e
  generalize hr : lcD gt ft f ρw xs [] st1 = r at p1
  refine ⟨fun i m H' => m = xs.length - i ∧ i ≤ xs.length ∧ ∃ η2 acc us st2, Step η1 H1 η2 H' ∧ StOk ⟨C.K, C.gl, Dn :: C.hot, C.lam, C.tabs⟩ η2 st2 H' ∧ H' Dn = some (.lst us) ∧ Dn ∉ η2 ∧ RepL ⟨C.K, C.gl, Dn :: C.hot, C.lam, C.tabs⟩ η2 H' acc us ∧ r = lcD gt ft f ρw (xs.drop i) acc st2, ⟨_, rfl, Nat.zero_le _, η1, [], [], st1, Step.new hD, k1.begin hD, upd_same, new_out k1 hD, RepL.nil, hr.symm⟩, ?_⟩
  rintro i m H' ⟨rfl, hi, η2, acc, us, st2, s2, k2, hDu, nD, ra, hr2⟩
  obtain ⟨it, stop⟩ := items _ η2 H' st2 i lk s2 k2
  by_cases hl : i < xs.length
  · have hx : xs[i]? = some xs[i] := List.getElem?_eq_getElem hl
    obtain ⟨go, yl⟩ := it _ hx
    rw [List.drop_eq_getElem_cons hl] at hr2
    unfold lcD at hr2
    refine .inr ⟨go, fun H'' => ∃ η2 acc us st2, Step η1 H1 η2 H'' ∧ StOk ⟨C.K, C.gl, Dn :: C.hot, C.lam, C.tabs⟩ η2 st2 H'' ∧ H'' Dn = some (.lst us) ∧ Dn ∉ η2 ∧ RepL ⟨C.K, C.gl, Dn :: C.hot, C.lam, C.tabs⟩ η2 H'' acc us ∧ r = lcD gt ft f ρw (xs.drop (i + 1)) acc st2, fun H'' n => ⟨xs.length - (i + 1), by omega, rfl, hl, n⟩, fun v H3 y => ?_⟩
    obtain ⟨s3, k3, r3⟩ := yl v H3 y
    cases hg : gt xs[i] ρw with
    | none => rw [hg] at hr2; dsimp only at hr2; rw [hr2] at p1; exact p1.elim
    | some ρ2 =>
      rw [hg] at hr2
      dsimp only at hr2
      have en3 := (enw.conv lk).mono (s2.trans s3)
      refine ⟨Dn :: C.hot, η2, ρw, _, ρ2, en3, r3, hg, fun σ2 en4 but => ?_⟩
      have hwp := wipe_but (vs := vs) (σ := σ) (σ2 := σ2) ⟨but.1, fun j hj => but.2 j fun z => hj (ho j z)⟩
      refine ⟨hwp, Dn :: C.hot, η2, ρ2, st2, k3, en4, ?_⟩
      cases ht : ft ρ2 st2 with
      | ok b st3 =>
        intro b' η5 H5 s5 k5 eb
        subst eb
        rw [ht] at hr2
        cases b with
        | false =>
          dsimp only at hr2
          refine iteF ⟨η5, acc, us, st3, (s2.trans s3).trans s5, k5, s5.keep _ _ (s3.keep _ _ hDu nD (fun ps z => by cases z)) nD (fun ps z => by cases z), ?_, (ra.mono (s3.trans s5)), hr2⟩
          exact s5.nin (s3.keep _ _ hDu nD (fun ps z => by cases z)) nD
        | true =>
          dsimp only at hr2
          refine iteT (hte σ2 H5 _ hwp ⟨Dn :: C.hot, η5, ρ2, st3, k5, en4.mono s5, ?_⟩)
          cases hf : f ρ2 st3 with
          | ok d st4 =>
            intro u η6 H6 s6 k6 ru
            rw [hf] at hr2
            dsimp only at hr2
            have hD5 := s5.keep _ _ (s3.keep _ _ hDu nD (fun ps z => by cases z)) nD (fun ps z => by cases z)
            have n5 := s5.nin (s3.keep _ _ hDu nD (fun ps z => by cases z)) nD
            have hD6 := s6.keep _ _ hD5 n5 (fun ps z => by cases z)
            have n6 := s6.nin hD5 n5
            have ra6 := ra.mono ((s3.trans s5).trans s6)
            by_cases hb : big (acc.length + 1) = true
            · rw [if_pos hb] at hr2
              have hot : Dn ∈ (⟨C.K, C.gl, Dn :: C.hot, C.lam, C.tabs⟩ : Cfg).hot := List.mem_cons_self
              have s16 := ((s2.trans s3).trans s5).trans s6
              refine ⟨us, hD6, by rw [← ra6.length]; exact big_lt hb, η6, acc ++ [d], us ++ [u], st4, ⟨s16.ext, fun a o e n q => ?_, fun a e => ?_⟩, k6.rest hot n6 hD6 ⟨_, rfl⟩, upd_same, n6, (ra6.rest (rest_upd hot)).append (RepL.one (ru.rest (rest_upd hot))), hr2⟩
              · rw [upd_ne (neD e)]
                exact s16.keep a o e n q
              · by_cases ea : a = Dn
                · rw [ea]; exact hD
                · rw [upd_ne ea] at e
                  exact s16.dom a e
            · rw [if_neg hb] at hr2
              rw [hr2] at p1
              exact p1.elim
          | exc x st4 => rw [hf] at hr2; dsimp only at hr2; rw [hr2] at p1; exact p1.elim
          | bad => rw [hf] at hr2; dsimp only at hr2; rw [hr2] at p1; exact p1.elim
      | exc x st3 => rw [ht] at hr2; dsimp only at hr2; rw [hr2] at p1; exact p1.elim
      | bad => rw [ht] at hr2; dsimp only at hr2; rw [hr2] at p1; exact p1.elim
  · have e : i = xs.length := by omega
    subst e
    rw [List.drop_length] at hr2
    unfold lcD at hr2
    rw [hr2] at p1
    exact .inl ⟨stop (Nat.le_refl _), hfin η1 η2 H1 H' acc st2 us Dn hD s2 k2 hDu nD nhot ra p1⟩
theorem lc_impT {te : TE} (fin : List D → Sto → Res D) {W : WX} {σ : L2.St} {H : Hp} {Q : VK} (hte : ∀ σ2 H2 Q2, wipe σ2 vs = wipe σ vs → tEx C f σ2 H2 Q2 → te σ2 H2 Q2) (ho : ∀ i ∈ o1, i ∈ vs)
    (hfin : ∀ (η1 η2 : List Addr) (H1 H2 : Hp) (ds : List D) (st2 : Sto) (us : List V) (p : Addr), H1 p = none → Step η1 H1 η2 H2 → StOk ⟨C.K, C.gl, p :: C.hot, C.lam, C.tabs⟩ η2 st2 H2 → H2 p = some (.lst us) → p ∉ η2 → p ∉ C.hot → RepL ⟨C.K, C.gl, p :: C.hot, C.lam, C.tabs⟩ η2 H2 ds us → Post C W σ (Rep C) η1 H1 (fin ds st2) Q → Q (.ref p) H2)
    (h : tE C W (fun ρ st => (fi ρ st).bind fun xs st1 => (lcD gt ft f (wipeD ρ vs) xs [] st1).bind fin) σ H Q) : tLc (tIt C W fi) (tGx C gt o1) (tTx C ft) te vs σ H Q := by
  obtain ⟨η, ρ, st, k, en, p⟩ := h
  exact ⟨η, ρ, st, k, en, Post.bind (R := ItemsOk C) (r := fi ρ st) p fun xs st1 J η1 H1 _ s1 k1 items p1 D hD => lc_in fin hte ho hfin k1 ((en.mono s1).wipe vs) items p1 hD⟩
theorem lc_imp (fin : List D → Sto → Res D) {W : WX} {σ : L2.St} {H : Hp} {Q : VK} (ho : ∀ i ∈ o1, i ∈ vs)
    (hfin : ∀ (η1 η2 : List Addr) (H1 H2 : Hp) (ds : List D) (st2 : Sto) (us : List V) (p : Addr), H1 p = none → Step η1 H1 η2 H2 → StOk ⟨C.K, C.gl, p :: C.hot, C.lam, C.tabs⟩ η2 st2 H2 → H2 p = some (.lst us) → p ∉ η2 → p ∉ C.hot → RepL ⟨C.K, C.gl, p :: C.hot, C.lam, C.tabs⟩ η2 H2 ds us → Post C W σ (Rep C) η1 H1 (fin ds st2) Q → Q (.ref p) H2)
    (h : tE C W (fun ρ st => (fi ρ st).bind fun xs st1 => (lcD gt ft f (wipeD ρ vs) xs [] st1).bind fin) σ H Q) : tLc (tIt C W fi) (tGx C gt o1) (tTx C ft) (tEx C f) vs σ H Q := lc_impT fin (fun _ _ _ _ z => z) ho hfin h
theorem fin_lst {W : WX} {σ : L2.St} {Q : VK} (η1 η2 : List Addr) (H1 H2 : Hp) (ds : List D) (st2 : Sto) (us : List V) (p : Addr) (hp : H1 p = none) (s : Step η1 H1 η2 H2) (k : StOk ⟨C.K, C.gl, p :: C.hot, C.lam, C.tabs⟩ η2 st2 H2) (e : H2 p = some (.lst us)) (n : p ∉ η2) (m : p ∉ C.hot)
    (r : RepL ⟨C.K, C.gl, p :: C.hot, C.lam, C.tabs⟩ η2 H2 ds us) (h : Post C W σ (Rep C) η1 H1 (.ok (.lst ds) st2) Q) : Q (.ref p) H2 := by
  have l : Like ⟨C.K, C.gl, p :: C.hot, C.lam, C.tabs⟩ C H2 := Like.less rfl rfl rfl rfl fun a b => List.mem_cons_of_mem _ b
  refine h.at_ s (k.conv l fun a ha => k.hot a (List.mem_cons_of_mem _ ha)) ?_
  rw [Rep]
  exact ⟨p, us, rfl, .inl ⟨n, m, .inl e⟩, r.conv l⟩
theorem fin_new {W : WX} {σ : L2.St} {Q : VK} (η1 η2 : List Addr) (H1 H2 : Hp) (ds : List D) (st2 : Sto) (us : List V) (p : Addr) (hp : H1 p = none) (s : Step η1 H1 η2 H2) (k : StOk ⟨C.K, C.gl, p :: C.hot, C.lam, C.tabs⟩ η2 st2 H2) (e : H2 p = some (.lst us)) (n : p ∉ η2) (m : p ∉ C.hot)
    (r : RepL ⟨C.K, C.gl, p :: C.hot, C.lam, C.tabs⟩ η2 H2 ds us) (h : Post C W σ (Rep C) η1 H1 (.ok (.ref st2.length) (st2 ++ [.lst ds])) Q) : Q (.ref p) H2 := by
  have l : Like ⟨C.K, C.gl, p :: C.hot, C.lam, C.tabs⟩ C H2 := Like.less rfl rfl rfl rfl fun a b => List.mem_cons_of_mem _ b
  have hot : p ∈ (⟨C.K, C.gl, p :: C.hot, C.lam, C.tabs⟩ : Cfg).hot := List.mem_cons_self
  refine h (.ref p) (η2 ++ [p]) H2 ⟨?_, s.keep, s.dom⟩ ⟨by simp [k.len], ?_, fun i a x h1 h2 => ?_, fun a ha => ⟨fun z => (List.mem_append.mp z).elim (k.hot a (List.mem_cons_of_mem _ ha)).1 fun z => m (by rw [List.mem_singleton] at z; exact z ▸ ha), (k.hot a (List.mem_cons_of_mem _ ha)).2⟩, fun q hq => k.tab q hq⟩ ?_
  · obtain ⟨t, rfl, ht⟩ := s.ext
    refine ⟨t ++ [p], by simp, fun q hq => ?_⟩
    rcases List.mem_append.mp hq with z | z
    · exact ht q z
    · rw [List.mem_singleton] at z
      rw [z]
      exact hp
  · rw [List.nodup_append]
    exact ⟨k.nd, by simp, fun a ha b hb => by
      rw [List.mem_singleton] at hb
      rw [hb]
      exact fun z => n (z ▸ ha)⟩
  · by_cases hi : i < η2.length
    · rw [List.getElem?_append_left hi] at h1
      rw [List.getElem?_append_left (by rw [← k.len]; exact hi)] at h2
      exact (k.ok i a x h1 h2).join hot l
    · have hl : i < (η2 ++ [p]).length := (List.getElem?_eq_some_iff.mp h1).1
      have ei : i = η2.length := by
        simp at hl
        omega
      subst ei
      have e1 : p = a := by simpa using h1
      have e2 : SO.lst ds = x := by
        rw [k.len] at h2
        simpa using h2
      subst e1 e2
      exact ⟨us, e, r.join hot l⟩
  · rw [Rep]
    exact ⟨p, by rw [← k.len]; simp, rfl⟩
abbrev BX (X : Cx) (scope : Scope) (s : Shared) (H : Hp) (A : Addr) (cl : List (Str × Addr)) (fp : List Addr) : Cx := X.blk s H scope (compEnvC scope cl A X.env) fp
theorem blk_e {X : Cx} (h : ∀ hot, SE X ⟨C.K, C.gl, hot, C.lam, C.tabs⟩ e f) : PE X e (tEx C f) := ⟨fun pins s σ H Q I ⟨hot, q⟩ => ((h hot).run W0 takes0).run pins s σ H Q I q⟩
theorem blk_t {X : Cx} (h : ∀ hot, STs X ⟨C.K, C.gl, hot, C.lam, C.tabs⟩ ifs ft) : PTs X ifs (tTx C ft) := ⟨fun pins s σ H Q I ⟨hot, q⟩ => ((h hot).run W0 takes0).run pins s σ H Q I q⟩
theorem blk_g {X : Cx} (h : ∀ hot, SG X ⟨C.K, C.gl, hot, C.lam, C.tabs⟩ e gt o1) : PG X e (tGx C gt o1) := ⟨fun pins s σ H v u Q I r ⟨hot, q⟩ => (h hot).run.run pins s σ H v u Q I r q⟩
theorem SE.lc (hc : X.calm = true) (hN : X.N.Nodup) (hi : SI X C tg iter fi) (ok : BlkOk X.N X.env.scope scope own) (ho : ∀ i ∈ o1, i ∈ own.map (·.2))
    (hg : ∀ s H A cl fp hot, SG (BX X scope s H A cl fp) ⟨C.K, C.gl, hot, C.lam, C.tabs⟩ tg gt o1) (ht : ∀ s H A cl fp hot, STs (BX X scope s H A cl fp) ⟨C.K, C.gl, hot, C.lam, C.tabs⟩ ifs ft) (he : ∀ s H A cl fp hot, SE (BX X scope s H A cl fp) ⟨C.K, C.gl, hot, C.lam, C.tabs⟩ elt f)
    (hs : ∀ x, foldedSetIterable iter X.env x = pure x := by intro _; rfl) : SE X C (.ListComp elt [⟨tg, iter, ifs, 0⟩] scope pos) (cLc fi gt ft f (own.map (·.2))) :=
  ⟨fun W tk => PE_imp (pe_lc hc hN (hi.run W tk) ok (fun s H A cl fp => blk_g (hg s H A cl fp)) (fun s H A cl fp => blk_t (ht s H A cl fp)) (fun s H A cl fp => blk_e (he s H A cl fp)) hs) fun σ H Q h => lc_imp _ ho fin_lst h⟩
theorem SE.lcN (hc : X.calm = true) (hN : X.N.Nodup) (hi : SI X C tg iter fi) (ok : BlkOk X.N X.env.scope scope own) (ho : ∀ i ∈ o1, i ∈ own.map (·.2))
    (hg : ∀ s H A cl fp hot, SG (BX X scope s H A cl fp) ⟨C.K, C.gl, hot, C.lam, C.tabs⟩ tg gt o1) (ht : ∀ s H A cl fp hot, STs (BX X scope s H A cl fp) ⟨C.K, C.gl, hot, C.lam, C.tabs⟩ ifs ft) (he : ∀ s H A cl fp hot, SE (BX X scope s H A cl fp) ⟨C.K, C.gl, hot, C.lam, C.tabs⟩ elt f)
    (hs : ∀ x, foldedSetIterable iter X.env x = pure x := by intro _; rfl) : SE X C (.ListComp elt [⟨tg, iter, ifs, 0⟩] scope pos) (cLcN fi gt ft f (own.map (·.2))) :=
  ⟨fun W tk => PE_imp (pe_lc hc hN (hi.run W tk) ok (fun s H A cl fp => blk_g (hg s H A cl fp)) (fun s H A cl fp => blk_t (ht s H A cl fp)) (fun s H A cl fp => blk_e (he s H A cl fp)) hs) fun σ H Q h => lc_imp _ ho fin_new h⟩
/-- name = [..] -/
theorem SS.setLc (i : Nat) {y : Str} {py spos : Pos} (hc : X.calm = true) (hN : X.N.Nodup) (hi : SI X C tg iter fi) (ok : BlkOk X.N X.env.scope scope own) (ho : ∀ i ∈ o1, i ∈ own.map (·.2))
    (hg : ∀ s H A cl fp hot, SG (BX X scope s H A cl fp) ⟨C.K, C.gl, hot, C.lam, C.tabs⟩ tg gt o1) (ht : ∀ s H A cl fp hot, STs (BX X scope s H A cl fp) ⟨C.K, C.gl, hot, C.lam, C.tabs⟩ ifs ft) (he : ∀ s H A cl fp hot, SE (BX X scope s H A cl fp) ⟨C.K, C.gl, hot, C.lam, C.tabs⟩ elt f)
    (hsw : swapsWith (.ListComp elt [⟨tg, iter, ifs, 0⟩] scope pos) (some (.Name y py)) spos.line X.env = pure true) (hy : X.N[i]? = some y := by rfl) (hyl : X.env.scope.names.lookup y = some .local := by rfl)
    (hs : ∀ x, foldedSetIterable iter X.env x = pure x := by intro _; rfl) : SS X C (.Assign [.Name y py] (.ListComp elt [⟨tg, iter, ifs, 0⟩] scope pos) spos) (sSet i (cLc fi gt ft f (own.map (·.2)))) :=
  ⟨fun W tk => PS_imp (ps_setLc hc hN hy hyl hsw (hi.run W tk) ok (fun s H A cl fp => blk_g (hg s H A cl fp)) (fun s H A cl fp => blk_t (ht s H A cl fp)) (fun s H A cl fp => blk_e (he s H A cl fp)) hs) fun D σ H p => by
    have q := set_imp p
    exact lc_imp _ ho fin_lst q⟩
theorem SS.setLcN (i : Nat) {y : Str} {py spos : Pos} (hc : X.calm = true) (hN : X.N.Nodup) (hi : SI X C tg iter fi) (ok : BlkOk X.N X.env.scope scope own) (ho : ∀ i ∈ o1, i ∈ own.map (·.2))
    (hg : ∀ s H A cl fp hot, SG (BX X scope s H A cl fp) ⟨C.K, C.gl, hot, C.lam, C.tabs⟩ tg gt o1) (ht : ∀ s H A cl fp hot, STs (BX X scope s H A cl fp) ⟨C.K, C.gl, hot, C.lam, C.tabs⟩ ifs ft) (he : ∀ s H A cl fp hot, SE (BX X scope s H A cl fp) ⟨C.K, C.gl, hot, C.lam, C.tabs⟩ elt f)
    (hsw : swapsWith (.ListComp elt [⟨tg, iter, ifs, 0⟩] scope pos) (some (.Name y py)) spos.line X.env = pure true) (hy : X.N[i]? = some y := by rfl) (hyl : X.env.scope.names.lookup y = some .local := by rfl)
    (hs : ∀ x, foldedSetIterable iter X.env x = pure x := by intro _; rfl) : SS X C (.Assign [.Name y py] (.ListComp elt [⟨tg, iter, ifs, 0⟩] scope pos) spos) (sSet i (cLcN fi gt ft f (own.map (·.2)))) :=
  ⟨fun W tk => PS_imp (ps_setLc hc hN hy hyl hsw (hi.run W tk) ok (fun s H A cl fp => blk_g (hg s H A cl fp)) (fun s H A cl fp => blk_t (ht s H A cl fp)) (fun s H A cl fp => blk_e (he s H A cl fp)) hs) fun D σ H p => by
    have q := set_imp p
    exact lc_imp _ ho fin_new q⟩
end
end G

set_option Elab.async false
set_option linter.all false
set_option maxRecDepth 100000
set_option maxHeartbeats 4000000
/-! Defs, their calls, the law's end. -/
namespace G
open PySem PySem.Spec PyProof.Rows L2

/-- what a def promises: g's results -/
def spD (K : PySem.W.Frag) (gl : Nat → Option Addr) (tb : List (Addr × Str)) (g : Fn) (n : Nat) : Sp := fun vs H Q E => ∃ hot lam η st ds, StOk ⟨K, gl, hot, lam, tb⟩ η st H ∧ RepL ⟨K, gl, hot, lam, tb⟩ η H ds vs ∧ vs.length = n ∧ Post ⟨K, gl, hot, lam, tb⟩ (fun c d _ H' => E c d H') [] (Rep ⟨K, gl, hot, lam, tb⟩) η H (g ds st) Q
/-- the def at f keeps it, where no repr is going on -/
structure FnG (P : Program) (w : World) (K : PySem.W.Frag) (mg : Str → Option Value) (base : Heap) (gl : Nat → Option Addr) (tb : List (Addr × Str)) (k : Nat) (f : Addr) (fd : FuncData) (ps : List Str) (g : Fn) : Prop where
  run : ∀ (A : Around) (outer : List PySem.Env) (s : Shared) (H : Hp) (args : Args) (us : List Value) (vs : List V) (Q : VK) (E : XK), Room k A → A.guards = some [] → Env0 P w K mg base A outer s H → BindsTo s fd args (ps.zip us) → Vals vs us → spD K gl tb g ps.length vs H Q E →
    codeAny (model P w) A (.call (.ref f) args) (CR (L2.CX P w) outer P w H s Q E) s
/-- a body's end -/
def RS.fin (r : RS) : Res D := match r with
  | .ok (.nx _) st => .ok .non st
  | .ok (.rt d) st => .ok d st
  | .exc x _ st => .exc x st
  | _ => .bad
def fnD (n : Nat) (body : EvS) : Fn := fun ds st => (body (ds.map some ++ List.replicate (n - ds.length) none) st).fin
section
variable {P : Program} {w : World} {K : PySem.W.Frag} {mg : Str → Option Value} {base : Heap} {gl : Nat → Option Addr} {tb : List (Addr × Str)}
theorem env_start {C : Cfg} {η : List Addr} {H : Hp} {N : List Str} {ds : List D} {vs : List V} (r : RepL C η H ds vs) : EnvOk C η H (ds.map some ++ List.replicate (N.length - ds.length) none) (L2.start N vs) := by
  have hl := r.length
  unfold L2.start
  refine ⟨by simp [hl], fun i d h => ?_⟩
  by_cases hi : i < ds.length
  · rw [List.getElem?_append_left (by simpa using hi), List.getElem?_map] at h
    cases e : ds[i]? with
    | none => rw [e] at h; cases h
    | some x =>
      rw [e] at h
      cases h
      obtain ⟨v, e2, rv⟩ := r.get e
      exact ⟨v, by rw [List.getElem?_append_left (by simp; omega), List.getElem?_map, e2]; rfl, rv⟩
  · rw [List.getElem?_append_right (by simpa using hi)] at h
    have := List.mem_of_getElem? h
    simp at this
theorem FnG.of {x qual : Str} {params : Arguments} {body : List Stmt} {scope : Scope} {dvs : List V} {kws : List (Str × V)} {f : Addr} {fd : FuncData} {N ps : List Str} {k : Nat} {g : EvS} (F : FunD K x qual params body scope dvs kws f fd) (S : FnScope N ps scope)
    (h : ∀ (cdv : Value) (A : Around) (outer : List PySem.Env) (s : Shared) (H : Hp) (E : XK) (hot : List Addr) (lam : Nat → Option (LamT × List V)), Room k (A.deeper (envOfC qual scope s.heap.objs.size f cdv)) → (A.deeper (envOfC qual scope s.heap.objs.size f cdv)).guards = some [] →
      SB (cxOf (L2.CX P w) P w K mg base N qual scope f cdv A outer s H E) ⟨K, gl, hot, lam, tb⟩ body g) : FnG P w K mg base gl tb (k + 1) f fd ps (fnD N.length g) := by
  obtain ⟨oc, od, dV, kV, doc, pm, an, cdv, ct, osl, rfl, lk, hcd, _, _⟩ := F.ex
  refine ⟨fun A outer s H args us vs Q E hr hgd e0 hb r hsp => ?_⟩
  obtain ⟨hot, lam, η, st, ds, kst, rds, hl, post⟩ := hsp
  have old : ∀ b o, base.get? b = some o → s.heap.get? b = some o := fun b o e => (e0.bs b o e).1
  have KX : K.In s.heap := e0.mod.kin.keeps old
  have par : ∀ y ∈ ps.zip us, scope.names.lookup y.1 = some .local ∨ (scope.names.lookup y.1 = some .cell ∧ ((cellsFrom (s.heap.objs.size + 1) scope.names []).lookup y.1).isSome = true) := by
    intro y hy
    obtain ⟨n, v⟩ := y
    have hp := S.par n (List.of_mem_zip hy).1
    exact hp.imp id fun q => ⟨q, PySem.W.cellsFrom_some _ _ _ (.inl q)⟩
  refine codeAny_call_function hr.depth (KX _ _ lk) rfl S.co S.gen rfl (PySem.W.codeRec_of KX hcd) (hb _ _ _ _ ?_)
  refine wpAny_newFunctionEnv_cells S.kind par fun env he s1 x => ?_
  subst he
  refine ⟨(e0.mod.nolimit.keeps old).keeps x.toInCall.keep, codeAny_func ?_⟩
  have I : Inv (cxOf (L2.CX P w) P w K mg base N qual scope f cdv A outer s H E) [] (L2.start N vs) H s1 := inv_start S hr.hd e0 hl r x
  have body' := (h cdv A outer s H E hot lam (hr.deeper _) hgd).run (fun c d _ H' => E c d H') (takes_of rfl rfl rfl rfl)
  refine wpAny_mono (body'.run [] s1 (L2.start N vs) H { nx := fun _ H' => Q .non H', rt := Q } I ⟨η, _, st, kst, env_start rds, ?_⟩) (fun fl s' hs => ?_) fun e s' hs => hs
  · unfold fnD at post
    cases e : g (ds.map some ++ List.replicate (N.length - ds.length) none) st with
    | ok o st' =>
      rw [e] at post
      cases o with
      | nx ρ => exact fun σ' η' H' s k _ => post .non η' H' s k (by rw [Rep])
      | rt d => exact post
      | bk ρ => exact post.elim
      | ct ρ => exact post.elim
    | exc x ρ st' =>
      rw [e] at post
      exact fun c d σ' η' H' s k _ rx => post c d η' H' s k rx
    | bad => rw [e] at post; exact post.elim
  · cases fl with
    | ret u =>
      obtain ⟨v, σ', H', J, rv, q⟩ := hs
      exact ⟨v, H', J.os, J.bare, J.base, J.hok, rv, q⟩
    | next =>
      obtain ⟨σ', H', J, q⟩ := hs
      exact ⟨V.non, H', J.os, J.bare, J.base, J.hok, rfl, q⟩
    | brk =>
      obtain ⟨_, _, _, q⟩ := hs
      exact q.elim
    | cont =>
      obtain ⟨_, _, _, q⟩ := hs
      exact q.elim
theorem FnG.imp {k : Nat} {f : Addr} {fd : FuncData} {ps : List Str} {g g' : Fn} (F : FnG P w K mg base gl tb k f fd ps g)
    (h : ∀ (hot : List Addr) (lam : Nat → Option (LamT × List V)) (η : List Addr) (st : Sto) (ds : List D) (vs : List V) (H : Hp) (Q : VK) (E : XK), StOk ⟨K, gl, hot, lam, tb⟩ η st H → RepL ⟨K, gl, hot, lam, tb⟩ η H ds vs → vs.length = ps.length → Post ⟨K, gl, hot, lam, tb⟩ (fun c d _ H' => E c d H') [] (Rep ⟨K, gl, hot, lam, tb⟩) η H (g' ds st) Q → Post ⟨K, gl, hot, lam, tb⟩ (fun c d _ H' => E c d H') [] (Rep ⟨K, gl, hot, lam, tb⟩) η H (g ds st) Q) : FnG P w K mg base gl tb k f fd ps g' :=
  ⟨fun A outer s H args us vs Q E hr hg e0 hb r ⟨hot, lam, η, st, ds, k1, rd, hl, p⟩ => F.run A outer s H args us vs Q E hr hg e0 hb r ⟨hot, lam, η, st, ds, k1, rd, hl, h hot lam η st ds vs H Q E k1 rd hl p⟩⟩
end

/-! ### what a def has made for itself is forgotten -/
mutual
/-- it names objects of the store below n alone -/
def low (n : Nat) : D → Bool
  | .ref m => Nat.blt m n
  | .tup ds => lows n ds
  | .lst ds => lows n ds
  | .clo _ ds => lows n ds
  | .dic _ ds => lows n ds
  | .ins _ _ ds => lows n ds
  | _ => true
def lows (n : Nat) : List D → Bool
  | [] => true
  | d :: ds => low n d && lows n ds
end
def lowO (n : Nat) : SO → Bool
  | .lst ds => lows n ds
  | .dic _ ds => lows n ds
  | .ins _ _ ds => lows n ds
def Res.leave (n : Nat) (r : Res D) : Res D := match r with
  | .ok d st => if low n d && (st.take n).all (lowO n) then .ok d (st.take n) else .bad
  | .exc x st => if lows n (x.fs.map (·.2)) && (st.take n).all (lowO n) then .exc x (st.take n) else .bad
  | .bad => .bad
def lvD (g : Fn) : Fn := fun ds st => (g ds st).leave st.length
section
variable {C : Cfg} {η t : List Addr} {H : Hp} {st : Sto} {a : Addr}
theorem TupAt.less {vs : List V} (h : TupAt C (η ++ t) H a vs) : TupAt C η H a vs := by
  rcases h with ⟨n, m, h⟩ | h
  · exact .inl ⟨fun z => n (List.mem_append_left _ z), m, h⟩
  · exact .inr h
theorem LstAt.less {vs : List V} (h : LstAt C (η ++ t) H a vs) : LstAt C η H a vs := by
  rcases h with ⟨n, m, h⟩ | h
  · exact .inl ⟨fun z => n (List.mem_append_left _ z), m, h⟩
  · exact .inr h
mutual
theorem Rep.less : ∀ {d : D} {v : V}, low η.length d = true → Rep C (η ++ t) H d v → Rep C η H d v
  | .non, _, _, h => h
  | .bl _, _, _, h => h
  | .int _, _, _, h => h
  | .str _, _, _, h => h
  | .ty _, _, _, h => h
  | .glo _, _, _, h => h
  | .ref n, _, q, h => by
    rw [Rep] at h ⊢
    obtain ⟨a, e, r⟩ := h
    rw [low, Nat.blt_eq] at q
    rw [List.getElem?_append_left q] at e
    exact ⟨a, e, r⟩
  | .tup ds, _, q, h => by
    rw [Rep] at h ⊢
    obtain ⟨a, vs, e, t, r⟩ := h
    exact ⟨a, vs, e, t.less, RepL.less (by rw [low] at q; exact q) r⟩
  | .lst ds, _, q, h => by
    rw [Rep] at h ⊢
    obtain ⟨a, vs, e, t, r⟩ := h
    exact ⟨a, vs, e, t.less, RepL.less (by rw [low] at q; exact q) r⟩
  | .clo _ ds, _, q, h => by
    rw [Rep] at h ⊢
    obtain ⟨a, t, ws, e, l, ⟨c, n1, n2, n3, n4, e1, e2⟩, r⟩ := h
    exact ⟨a, t, ws, e, l, ⟨c, fun z => n1 (List.mem_append_left _ z), n2, fun z => n3 (List.mem_append_left _ z), n4, e1, e2⟩, RepL.less (by rw [low] at q; exact q) r⟩
  | .dic _ ds, _, q, h => by
    rw [Rep] at h ⊢
    obtain ⟨a, kvs, e, ⟨n1, n2, n3⟩, e2, r⟩ := h
    exact ⟨a, kvs, e, ⟨fun z => n1 (List.mem_append_left _ z), n2, n3⟩, e2, RepL.less (by rw [low] at q; exact q) r⟩
  | .ins _ _ ds, _, q, h => by
    rw [Rep] at h ⊢
    obtain ⟨a, c, dx, fs, e, ⟨n1, n2, n3⟩, g, e2, r⟩ := h
    exact ⟨a, c, dx, fs, e, ⟨fun z => n1 (List.mem_append_left _ z), n2, n3⟩, g, e2, RepL.less (by rw [low] at q; exact q) r⟩
theorem RepL.less : ∀ {ds : List D} {vs : List V}, lows η.length ds = true → RepL C (η ++ t) H ds vs → RepL C η H ds vs
  | [], _, _, h => h
  | d :: ds, _, q, h => by
    rw [RepL] at h ⊢
    rw [lows, Bool.and_eq_true] at q
    obtain ⟨v, r, e, h1, h2⟩ := h
    exact ⟨v, r, e, Rep.less q.1 h1, RepL.less q.2 h2⟩
end
theorem SOk.less {o : SO} (q : lowO η.length o = true) (h : SOk C (η ++ t) H a o) : SOk C η H a o := by
  cases o with
  | lst ds =>
    obtain ⟨vs, e, r⟩ := h
    exact ⟨vs, e, r.less q⟩
  | dic ks ds =>
    obtain ⟨kvs, e, n, r⟩ := h
    exact ⟨kvs, e, n, r.less q⟩
  | ins k ns ds =>
    obtain ⟨c, dx, fs, e, g, n, r⟩ := h
    exact ⟨c, dx, fs, e, g, n, r.less q⟩
theorem StOk.less (k : StOk C (η ++ t) st H) (q : (st.take η.length).all (lowO η.length) = true) : StOk C η (st.take η.length) H := by
  have hl := k.len
  rw [List.length_append] at hl
  refine ⟨by rw [List.length_take]; omega, ?_, fun n a o h1 h2 => ?_, fun a ha => ⟨fun z => (k.hot a ha).1 (List.mem_append_left _ z), (k.hot a ha).2⟩, k.tab⟩
  · have := k.nd
    rw [List.nodup_append] at this
    exact this.1
  · have hn : n < η.length := (List.getElem?_eq_some_iff.mp h1).1
    have h3 := h2
    rw [List.getElem?_take_of_lt hn] at h3
    exact SOk.less (List.all_eq_true.mp q o (List.mem_of_getElem? h2)) (k.ok n a o (by rw [List.getElem?_append_left hn]; exact h1) h3)
end
theorem FnG.leave {P : Program} {w : World} {K : PySem.W.Frag} {mg : Str → Option Value} {base : Heap} {gl : Nat → Option Addr} {tb : List (Addr × Str)} {k : Nat} {f : Addr} {fd : FuncData} {ps : List Str} {g : Fn} (F : FnG P w K mg base gl tb k f fd ps g) : FnG P w K mg base gl tb k f fd ps (lvD g) :=
  F.imp fun hot lam η st ds vs H Q E k1 rd hl p => by
    unfold lvD at p
    have hn : st.length = η.length := k1.len.symm
    cases e : g ds st with
    | ok d st' =>
      rw [e] at p
      intro v η' H' s k' r
      obtain ⟨t, rfl, ht⟩ := s.ext
      unfold Res.leave at p
      dsimp only at p
      rw [hn] at p
      split at p
      · rename_i h
        rw [Bool.and_eq_true] at h
        exact p v η H' ⟨⟨[], by simp, by simp⟩, s.keep, s.dom⟩ (k'.less h.2) (r.less h.1)
      · exact p.elim
    | exc x st' =>
      rw [e] at p
      intro c dd η' H' s k' r
      obtain ⟨t, rfl, ht⟩ := s.ext
      unfold Res.leave at p
      dsimp only at p
      rw [hn] at p
      split at p
      · rename_i h
        rw [Bool.and_eq_true] at h
        refine p c dd η H' ⟨⟨[], by simp, by simp⟩, s.keep, s.dom⟩ (k'.less h.2) ⟨r.1, ?_⟩
        rcases r.2 with ⟨z1, z2⟩ | ⟨a, us, z1, z2, z3, z4, z5, z6⟩
        · exact .inl ⟨z1, z2⟩
        · exact .inr ⟨a, us, z1, fun q => z2 (List.mem_append_left _ q), z3, z4, z5, z6.less h.1⟩
      · exact p.elim
    | bad => rw [e] at p; exact p.elim

/-! ### calls -/
def cCall (g : Fn) (dd : List D) (fs : EvA) : Ev := fun ρ st => (fs ρ st).bind fun ds st1 => g (ds ++ dd) st1
section
variable {X : Cx} {C : Cfg} {e : Expr} {es : List Expr} {fs : EvA} {pos p : Pos} {x : Str} {k : Nat} {f : Addr} {fd : FuncData} {ps : List Str} {g : Fn} {dvs : List V} {dd : List D} {ds : List Value}
theorem call_run (F : FnG X.prog X.w X.K X.mg X.base C.gl C.tabs k f fd ps g) (hK : X.K = C.K) (hr : Room k X.A) (hgd : X.A.guards = some []) (hb : Binds X.K fd ps ds) (hd : Vals dvs ds) {W : WX} (tk : Takes X W) {pins : List (Addr × Obj)} {σ : L2.St} {H : Hp} {s : Shared} {Q : VK} {us : List Value} {vs : List V} {η : List Addr} {st : Sto} {as : List D}
    (I : Inv X pins σ H s) (r : Vals vs us) (k1 : StOk C η st H) (ra : RepL C η H as (vs ++ dvs)) (hl : (vs ++ dvs).length = ps.length) (post : Post C W σ (Rep C) η H (g as st) Q) : wpAny (model X.prog X.w) X.A (call (.ref f) us) (EP X pins σ Q) X.xe s := by
  obtain ⟨K, gl, hot, lam, tb⟩ := C
  dsimp only at hK
  subst hK
  have r2 : Vals (vs ++ dvs) (us ++ ds) := r.append hd
  have q : spD X.K gl tb g ps.length (vs ++ dvs) H Q (fun c d H' => W c d σ H') := by
    refine ⟨hot, lam, η, st, as, k1, ra, hl, ?_⟩
    cases e : g as st with
    | ok d st' => rw [e] at post; exact post
    | exc x st' => rw [e] at post; exact post
    | bad => rw [e] at post; exact post.elim
  refine wpAny_call (codeAny_mono (F.run X.A X.stack s H ⟨us, []⟩ (us ++ ds) (vs ++ dvs) Q _ hr hgd I.env0 (hb s us I.kIn (by rw [← r2.length]; exact hl)) r2 q) fun res s' hq => ?_)
  cases res with
  | error e => exact tk e s' (XE.of_call I (fun _ _ _ z => z) hq)
  | ok fl =>
    cases fl with
    | ret u => exact I.after hq
    | next => exact hq.elim
    | brk => exact hq.elim
    | cont => exact hq.elim
theorem SE.call (F : FnG X.prog X.w X.K X.mg X.base C.gl C.tabs k f fd ps g) (hK : X.K = C.K) (hr : Room k X.A) (hgd : X.A.guards = some []) (hg : Gl X x) (hm : X.mg x = some (.ref f)) (hk : PySem.W.keepIn X.K (.ref f) = true) (hb : Binds X.K fd ps ds) (hd : Vals dvs ds)
    (hdr : ∀ η H, RepL C η H dd dvs) (ha : SA X C (e :: es) fs) (hn : (e :: es).length + dd.length = ps.length) (hlen : ∀ ρ st a st1, fs ρ st = .ok a st1 → a.length = (e :: es).length)
    (hdb : (x == ("__debug__" : Str)) = false := by decide) (he : starEach (e :: es) X.env = (false, eval e X.env) :: starEach es X.env := by rfl) (hpl : (backTo pos (starEach es X.env)).any (·.1) = false := by rfl) :
    SE X C (.Call (.Name x p) (e :: es) [] pos) (cCall g dd fs) := ⟨fun W tk => ⟨fun pins s σ H Q I h => by
  obtain ⟨η, ρ, st, k0, en, post⟩ := h
  refine wpAny_Call_Name_kw (ld_glob I hg hm ?_ hdb)
  refine PySem.W.callWith_K (h₀ := X.base) I.ok.mod.kin hk ?_ he hpl
  refine thn ((ha.run W tk).run pos pins s σ H (fun vs H1 => ∃ η1 st1 as, StOk C η1 st1 H1 ∧ RepL C η1 H1 as vs ∧ as.length = (e :: es).length ∧ Post C W σ (Rep C) η1 H1 (g (as ++ dd) st1) Q) I ⟨η, ρ, st, k0, en, ?_⟩) fun us s1 ⟨vs, H1, I1, r, η1, st1, as, k1, ra, la, p1⟩ => ⟨I1.kIn, ?_⟩
  · exact Post.bind (R := RepL C) (r := fs ρ st) post fun as st1 vs η1 H1 hok s1 k1 ra p1 => ⟨η1, st1, as, k1, ra, hlen _ _ _ _ hok, p1⟩
  · have ra2 := ra.append (hdr η1 H1)
    exact call_run F hK hr hgd hb hd tk I1 r k1 ra2 (by rw [← ra2.length, List.length_append, la]; exact hn) p1⟩⟩
theorem cNil_len : ∀ (ρ : Env) (st : Sto) (a : List D) (st1 : Sto), cNil ρ st = .ok a st1 → a.length = 0 := by
  intro ρ st a st1 h
  cases h
  rfl
theorem cCons_len {fa : Ev} {fs : EvA} {n : Nat} (hn : ∀ (ρ : Env) (st : Sto) (a : List D) (st1 : Sto), fs ρ st = .ok a st1 → a.length = n) : ∀ (ρ : Env) (st : Sto) (a : List D) (st1 : Sto), cCons fa fs ρ st = .ok a st1 → a.length = n + 1 := by
  intro ρ st a st1 h
  unfold cCons Res.bind at h
  cases e : fa ρ st with
  | ok d st2 =>
    rw [e] at h
    dsimp only at h
    cases e2 : fs ρ st2 with
    | ok as st3 =>
      rw [e2] at h
      cases h
      rw [List.length_cons, hn _ _ _ _ e2]
    | exc x st3 => rw [e2] at h; cases h
    | bad => rw [e2] at h; cases h
  | exc x st2 => rw [e] at h; cases h
  | bad => rw [e] at h; cases h
end
end G

set_option Elab.async false
set_option linter.all false
set_option maxRecDepth 100000
set_option maxHeartbeats 4000000
/-! A law's end. -/
namespace G
open PySem PySem.Spec PyProof.Rows L2

theorem rep_ints {C : Cfg} {η : List Addr} {H : Hp} : ∀ ns : List Int, RepL C η H (ns.map D.int) (ns.map V.int)
  | [] => RepL.nil
  | n :: ns => RepL.cons (by rw [Rep]) (rep_ints ns)
section
variable {P : Program} {w : World} {K : PySem.W.Frag} {mg mb : Str → Option Value} {gl : Nat → Option Addr} {k : Nat} {fa a : Addr} {fd : FuncData} {x : Str} {g : Fn} {s : Shared} {vs : List Value} {ns : List Int}
/-- the call of the law's def, from a heap that knows the script at most -/
theorem call_law (H : Hp) (KX : K.In s.heap) (hns : s.heap.Ns mainGlobals mg) (hb : s.heap.Ns builtinsNs mb) (hbb : ∀ x : Str, x ≠ "__name__" → mb x = bootBuiltins x) (hlim : s.heap.NoLimit) (hg : s.gens = #[])
    (ha : s.heap.get? a = some { cls := .type "list", data := .seq vs.toArray }) (hr : Room k callerA) (F : ∀ base : Heap, K.In base → base.Ns mainGlobals mg → FnG P w K mg base gl [] k fa fd [x] g)
    (hbind : ∀ (s : Shared) (u : Value), BindsTo s fd ⟨[u], []⟩ [(x, u)]) (res : ∃ st, g [.lst (ns.map D.int)] [] = .ok (.bl true) st)
    (only : ∀ b u, H b = some u → b = a ∧ K.lookup a = none ∧ ∃ o xs, u = .frz o (.lst xs)) (sq : SqL K H a (ns.map V.int)) (hok : HOk P w H s.heap) :
    codeAny (model P w) callerA (.call (.ref fa) ⟨[.ref a], []⟩) (fun r s' => r = .ok (.ret (.bool true)) ∧ OldK s.heap s'.heap ∧ s'.os = s.os ∧ AllBare s'.gens) s := by
  have free : ∀ {b : Addr} {o : Obj}, s.heap.get? b = some o → (∀ xs n, o.data ≠ .seq xs n) → H b = none := by
    intro b o e d
    cases q : H b with
    | none => rfl
    | some u =>
      obtain ⟨z, _⟩ := only b u q
      rw [z, ha] at e
      cases e
      exact absurd rfl (d _ _)
  have ns_in : ∀ {b : Addr} {m : Str → Option Value}, s.heap.Ns b m → (hidT s.heap H).Ns b m := by
    intro b m ⟨o, es, ep, e, d, r⟩
    exact ⟨o, es, ep, hidT_get e (free e fun xs n z => by rw [d] at z; cases z), d, r⟩
  have kin : K.In (hidT s.heap H) := by
    intro b o e
    refine hidT_get (KX b o e) ?_
    cases q : H b with
    | none => rfl
    | some u =>
      obtain ⟨z, z2, _⟩ := only b u q
      rw [z, z2] at e
      cases e
  obtain ⟨mc, l1, l2⟩ := hlim
  have md : Mod K mg (hidT s.heap H) := ⟨kin, ns_in hns, ⟨mb, ns_in hb, hbb⟩, ⟨mc, ns_in l1, l2⟩⟩
  have e0 : Env0 P w K mg (hidT s.heap H) callerA [] s H := ⟨rfl, md, fun b o e => of_hidT e, Nat.le_of_eq (hidT_size _ _), trivial, fun b hb => (List.not_mem_nil hb).elim, hok, .of_eq hg⟩
  have sp : spD K gl [] g 1 [.ref a] H (fun v _ => v = .bl true) (fun _ _ _ => False) := by
    obtain ⟨st, e⟩ := res
    refine ⟨[], fun _ => none, [], [], [.lst (ns.map D.int)], ⟨rfl, List.nodup_nil, fun n b o h1 _ => (by cases h1), fun b hb => (List.not_mem_nil hb).elim, fun q hq => (List.not_mem_nil hq).elim⟩, RepL.one ?_, rfl, ?_⟩
    · rw [Rep]
      refine ⟨a, _, rfl, ?_, rep_ints ns⟩
      rcases sq with q | q
      · exact .inl ⟨List.not_mem_nil, List.not_mem_nil, q⟩
      · exact .inr q
    · rw [e]
      intro v η' H' _ _ r
      rw [Rep] at r
      exact r
  refine codeAny_mono ((F _ kin (ns_in hns)).run callerA [] s H ⟨[.ref a], []⟩ [.ref a] [.ref a] _ _ hr rfl e0 (hbind s (.ref a)) (.cons rfl .nil) sp) fun r s' h => ?_
  cases r with
  | error e =>
    obtain ⟨_, _, _, _, _, _, _, _, _, _, _, _, z⟩ := h
    exact z.elim
  | ok fl =>
    cases fl with
    | next => exact h.elim
    | brk => exact h.elim
    | cont => exact h.elim
    | ret u =>
      obtain ⟨v, H', os, bare, un, hok', r', q⟩ := h
      cases (show v = .bl true from q)
      cases (show u = Value.bool true from r')
      refine ⟨rfl, OldK.of_keep fun b o e => ?_, os, bare⟩
      cases q : H b with
      | none => exact un.keep b o e q (fun z => List.not_mem_nil z) (fun z => List.not_mem_nil z)
      | some u =>
        obtain ⟨_, _, ob, xs, rfl⟩ := only b u q
        have e1 := (hok b _ q).1
        have e2 := (hok' b _ (un.frzs b ob _ q)).1
        rw [e] at e1
        cases e1
        exact e2
theorem law_run (KX : K.In s.heap) (hns : s.heap.Ns mainGlobals mg) (hb : s.heap.Ns builtinsNs mb) (hbb : ∀ x : Str, x ≠ "__name__" → mb x = bootBuiltins x) (hlim : s.heap.NoLimit) (hg : s.gens = #[])
    (ha : s.heap.get? a = some { cls := .type "list", data := .seq vs.toArray }) (hi : IntsAre vs ns) (hl : ns.length ≤ sizeLine) (hr : Room k callerA) (F : ∀ base : Heap, K.In base → base.Ns mainGlobals mg → FnG P w K mg base gl [] k fa fd [x] g)
    (hbind : ∀ (s : Shared) (u : Value), BindsTo s fd ⟨[u], []⟩ [(x, u)]) (res : ∃ st, g [.lst (ns.map D.int)] [] = .ok (.bl true) st) :
    codeAny (model P w) callerA (.call (.ref fa) ⟨[.ref a], []⟩) (fun r s' => r = .ok (.ret (.bool true)) ∧ OldK s.heap s'.heap ∧ s'.os = s.os ∧ AllBare s'.gens) s := by
  have rv := vals_ints hi
  have ln := hi.length
  cases hk : K.lookup a with
  | some o =>
    have e := KX a o hk
    rw [ha] at e
    cases e
    exact call_law (fun _ => none) KX hns hb hbb hlim hg ha hr F hbind res (fun b u z => by cases z) (.inr ⟨_, vs.toArray, _, hk, rfl, rfl, rfl, by rw [List.size_toArray, ln]; exact hl, by simpa using rv⟩) fun b u z => by cases z
  | none =>
    obtain ⟨H0, hH⟩ : ∃ H0 : Hp, H0 = fun b => if b = a then some (HO.frz { cls := .type "list", data := .seq vs.toArray } (.lst (ns.map V.int))) else none := ⟨_, rfl⟩
    have at_ : H0 a = some (HO.frz { cls := .type "list", data := .seq vs.toArray } (.lst (ns.map V.int))) := by
      rw [hH]
      exact if_pos rfl
    have only : ∀ b u, H0 b = some u → b = a ∧ u = HO.frz { cls := .type "list", data := .seq vs.toArray } (.lst (ns.map V.int)) := by
      intro b u z
      by_cases e : b = a
      · rw [e, at_] at z
        cases z
        exact ⟨e, rfl⟩
      · rw [hH] at z
        have z2 := (if_neg e).symm.trans z
        cases z2
    refine call_law H0 KX hns hb hbb hlim hg ha hr F hbind res (fun b u z => ?_) (.inl (.inr ⟨_, at_⟩)) fun b u z => ?_
    · obtain ⟨e, e2⟩ := only b u z
      exact ⟨e, hk, _, _, e2⟩
    · obtain ⟨e, e2⟩ := only b u z
      subst e e2
      exact ⟨ha, by rw [List.length_map]; exact hl, vs, _, rv, ha⟩
end
/-- the goal that the head leaves -/
theorem walkG {l : PySem.W.OpenLaw} {n k : Nat} {q : Program} {loose : List Str} {XP : (Str → Option Value) → Heap → Prop} {YP : World → Heap → Prop} {d : DefRec} {x : Str}
    (hn : l.most = some n) (hn2 : n ≤ sizeLine) (hdf : d.params.defaults = []) (hr : Room k callerA)
    (F : ∀ (w : World) (mg : Str → Option Value) (fa : Addr) (h : Heap), YP w h → h.Ns mainGlobals mg → mg d.name = some (.ref fa) →
      ∃ (K : PySem.W.Frag) (fd : FuncData) (gl : Nat → Option Addr) (g : Fn), K.In h ∧ (∀ (s : Shared) (u : Value), BindsTo s fd ⟨[u], []⟩ [(x, u)]) ∧ (∀ ns : List Int, ns.length ≤ n → ∃ st, g [.lst (ns.map D.int)] [] = .ok (.bl true) st) ∧
        ∀ base : Heap, K.In base → base.Ns mainGlobals mg → FnG l.prog w K mg base gl [] k fa fd [x] g) :
    PySem.W.WalkO q loose XP YP l.row.toRowW d [] (fun f vs => PySem.call f vs) := by
  refine Att.attach_call hn hdf fun w s₀ s₁ mg mb fa o pm cd doc a vs ns G Y ho hd hcd hmg hobj hints hlen hg => ?_
  obtain ⟨K, fd, gl, g, KX, hb, res, hF⟩ := F w mg fa _ Y G.T.g hmg
  exact law_run KX G.T.g G.T.b G.T.builtins G.T.nolimit hg hobj hints (Nat.le_trans hlen hn2) hr hF hb (res ns hlen)
end G

set_option Elab.async false
set_option linter.all false
set_option maxRecDepth 100000
set_option maxHeartbeats 4000000
/-! What the written part holds. -/
namespace G
open PySem PySem.Spec PyProof.Rows L2

mutual
/-- a constant of the module: what stands in the written part -/
def repB (K : PySem.W.Frag) : D → Value → Bool
  | .non, u => (match u with
    | .none => true
    | _ => false)
  | .bl b, u => (match u with
    | .bool c => b == c
    | _ => false)
  | .int i, u => (match u with
    | .int j _ => decide (i = j)
    | _ => false)
  | .str s, u => (match u with
    | .str x _ => decide (x.cps.toList = s)
    | _ => false)
  | .tup ds, u => (match u with
    | .ref a => (match K.lookup a with
      | some ⟨.type c, _, .seq its _, _⟩ => decide (c = "tuple") && (decide (its.size ≤ sizeLine) && repsB K ds its.toList)
      | _ => false)
    | _ => false)
  | _, _ => false
def repsB (K : PySem.W.Frag) : List D → List Value → Bool
  | [], us => us.isEmpty
  | d :: ds, us => (match us with
    | u :: r => repB K d u && repsB K ds r
    | [] => false)
end
mutual
theorem repB_ok {K : PySem.W.Frag} {gl : Nat → Option Addr} {hot : List Addr} {lam : Nat → Option (LamT × List V)} {tb : List (Addr × Str)} : ∀ (d : D) (u : Value), repB K d u = true → ∃ v, RelV v u ∧ ∀ η H, Rep ⟨K, gl, hot, lam, tb⟩ η H d v
  | .non, u, h => by
    cases u <;> first | (simp [repB] at h; done) | skip
    exact ⟨.non, rfl, fun η H => by rw [Rep]⟩
  | .bl b, u, h => by
    cases u <;> first | (simp [repB] at h; done) | skip
    rename_i c
    have e : b = c := by simpa [repB] using h
    subst e
    exact ⟨.bl b, rfl, fun η H => by rw [Rep]⟩
  | .int i, u, h => by
    cases u <;> first | (simp [repB] at h; done) | skip
    rename_i j t
    have e : i = j := by simpa [repB] using h
    subst e
    exact ⟨.int i, ⟨t, rfl⟩, fun η H => by rw [Rep]⟩
  | .str s, u, h => by
    cases u <;> first | (simp [repB] at h; done) | skip
    rename_i x t
    have e : x.cps.toList = s := by simpa [repB] using h
    subst e
    exact ⟨.str x, ⟨t, rfl⟩, fun η H => by rw [Rep]⟩
  | .tup ds, u, h => by
    cases u <;> first | (simp [repB] at h; done) | skip
    rename_i a
    rw [repB] at h
    split at h
    · rename_i c dd its n sl hl
      rw [Bool.and_eq_true, Bool.and_eq_true] at h
      obtain ⟨h1, h2, h3⟩ := h
      have e : c = "tuple" := of_decide_eq_true h1
      subst e
      obtain ⟨vs, rv, q⟩ := repsB_ok (gl := gl) (hot := hot) (lam := lam) (tb := tb) ds its.toList h3
      refine ⟨.ref a, rfl, fun η H => ?_⟩
      rw [Rep]
      exact ⟨a, vs, rfl, .inr ⟨_, its, n, hl, rfl, rfl, of_decide_eq_true h2, rv⟩, q η H⟩
    · cases h
  | .ty _, u, h => by simp [repB] at h
  | .glo _, u, h => by simp [repB] at h
  | .ref _, u, h => by simp [repB] at h
  | .lst _, u, h => by simp [repB] at h
  | .clo _ _, u, h => by simp [repB] at h
  | .dic _ _, u, h => by simp [repB] at h
  | .ins _ _ _, u, h => by simp [repB] at h
theorem repsB_ok {K : PySem.W.Frag} {gl : Nat → Option Addr} {hot : List Addr} {lam : Nat → Option (LamT × List V)} {tb : List (Addr × Str)} : ∀ (ds : List D) (us : List Value), repsB K ds us = true → ∃ vs, Vals vs us ∧ ∀ η H, RepL ⟨K, gl, hot, lam, tb⟩ η H ds vs
  | [], us, h => by
    cases us with
    | nil => exact ⟨[], .nil, fun η H => RepL.nil⟩
    | cons u us => simp [repsB] at h
  | d :: ds, us, h => by
    cases us with
    | nil => simp [repsB] at h
    | cons u us =>
      rw [repsB, Bool.and_eq_true] at h
      obtain ⟨v, r, q⟩ := repB_ok (gl := gl) (hot := hot) (lam := lam) (tb := tb) d u h.1
      obtain ⟨vs, rs, qs⟩ := repsB_ok (gl := gl) (hot := hot) (lam := lam) (tb := tb) ds us h.2
      exact ⟨v :: vs, .cons r rs, fun η H => RepL.cons (q η H) (qs η H)⟩
end
/-- the module's name x stands for d -/
def conB (K : PySem.W.Frag) (x : Str) (d : D) : Bool := match PySem.W.nsIn K mainGlobals x with
  | some (some u) => repB K d u
  | _ => false
structure ConAt (K : PySem.W.Frag) (mg : Str → Option Value) (gl : Nat → Option Addr) (x : Str) (d : D) : Prop where
  ex : ∃ u, mg x = some u ∧ repB K d u = true
theorem conB_ok {K : PySem.W.Frag} {h : Heap} {mg : Str → Option Value} {gl : Nat → Option Addr} (X : K.In h) (G : h.Ns mainGlobals mg) {x : Str} {d : D} (c : conB K x d = true) : ConAt K mg gl x d := by
  unfold conB at c
  cases e : PySem.W.nsIn K mainGlobals x with
  | none => rw [e] at c; cases c
  | some o =>
    rw [e] at c
    cases o with
    | none => cases c
    | some u => exact ⟨u, PySem.W.mg_of X G e, c⟩
theorem SE.con {X : Cx} {C : Cfg} {x : Str} {d : D} {pos : Pos} (h : ConAt X.K X.mg C.gl x d) (hK : X.K = C.K) (hg : Gl X x := by rfl) (hd : (x == ("__debug__" : Str)) = false := by decide) : SE X C (.Name x pos) (cC d) := by
  obtain ⟨u, e, r⟩ := h.ex
  obtain ⟨K, gl, hot, lam, tb⟩ := C
  dsimp only at hK
  subst hK
  obtain ⟨v, rv, q⟩ := repB_ok (gl := gl) (hot := hot) (lam := lam) (tb := tb) d u r
  exact SE.glob hg e rv q hd
/-! ### arguments that fill up -/
/-- what is told of a def in the written part -/
structure DefAt (K : PySem.W.Frag) (mg : Str → Option Value) (x : Str) (st : Stmt) (dd : List He.Dv) (f : Addr) (fd : FuncData) : Prop where
  fn : FunD K x x (defArgs st) (defBody st) (defScope st) (dd.map (He.Dv.v K)) [] f fd
  g : mg x = some (.ref f)
/-- the constants that stand as defaults -/
def dvD : D → He.Dv
  | .non => .non
  | .bl b => .bl b
  | .int i => .int i
  | .str s => .str ⟨s.toArray⟩
  | _ => .non
def dvOk : D → Bool
  | .non => true
  | .bl _ => true
  | .int _ => true
  | .str _ => true
  | _ => false
theorem dv_rep {C : Cfg} {η : List Addr} {H : Hp} : ∀ {ds : List D}, ds.all dvOk = true → RepL C η H ds ((ds.map dvD).map (He.Dv.v C.K))
  | [], _ => RepL.nil
  | d :: ds, h => by
    rw [List.all_cons, Bool.and_eq_true] at h
    refine RepL.cons ?_ (dv_rep h.2)
    cases d <;> first | (simp [dvOk] at h; done) | (rw [Rep]; rfl)
end G

set_option Elab.async false
set_option linter.all false
set_option maxRecDepth 100000
set_option maxHeartbeats 4000000
/-! What the printed walks name. -/
namespace G
open PySem PySem.Spec PyProof.Rows L2
section
variable {X : Cx} {C : Cfg} {a b c e : Expr} {es : List Expr} {f : Ev} {fs : EvA} {pos p : Pos} {x : Str} {k : Nat} {fd : FuncData} {ps : List Str} {g : Fn} {dd : List D} {st : Stmt} {dv : List He.Dv} {fa : Addr}
theorem SS.par3 (i j l : Nat) {x y z : Str} {px py pz pt : Pos} {kt k2 pt2} (hN : X.N.Nodup) (hc : X.calm = true) (ha : SA X C [a, b, c] fs) (hi : X.N[i]? = some x := by rfl) (hj : X.N[j]? = some y := by rfl) (hl : X.N[l]? = some z := by rfl) (hij : i ≠ j := by decide) (hil : i ≠ l := by decide) (hjl : j ≠ l := by decide)
    (hx : X.env.scope.names.lookup x = some .local := by rfl) (hy : X.env.scope.names.lookup y = some .local := by rfl) (hz : X.env.scope.names.lookup z = some .local := by rfl)
    (hw : swappedStores [.Tuple [.Name x px, .Name y py, .Name z pz] kt pt] (.Tuple [a, b, c] k2 pt2) X.env = pure (some [x, y, z]) := by rfl)
    (hs : swapsWithSole [.Tuple [.Name x px, .Name y py, .Name z pz] kt pt] (.Tuple [a, b, c] k2 pt2) pos.line X.env = pure false := by rfl) :
    SS X C (.Assign [.Tuple [.Name x px, .Name y py, .Name z pz] kt pt] (.Tuple [a, b, c] k2 pt2) pos) (sPar3 i j l fs) := ⟨fun W tk => PS_imp (ps_par3 hc hN hi hj hl hij hil hjl hx hy hz (ha.run W tk) hw hs) fun D σ H ⟨η, ρ, st, k, en, p⟩ =>
  ⟨η, ρ, st, k, en, PostS.into (R := RepL C) (r := fs ρ st) p en fun ds st1 vs η1 H1 _ s1 k1 rs p1 => by
    match ds, rs, p1 with
    | [d, e, f], rs, p1 =>
      rw [RepL] at rs
      obtain ⟨v, r, rfl, r1, rs⟩ := rs
      obtain ⟨u, w, rfl, r2, r3⟩ := rs.two_inv
      exact ⟨v, u, w, rfl, p1.nx k1 ((((en.mono s1).set i r1).set j r2).set l r3)⟩
    | [], _, p1 => exact p1.elim
    | [_], _, p1 => exact p1.elim
    | [_, _], _, p1 => exact p1.elim
    | _ :: _ :: _ :: _ :: _, _, p1 => exact p1.elim⟩⟩
theorem SE.revL {j : Nat} {p1 p2 p3 : Pos} (hK : X.K = C.K) (he : SE X C e f) : SE X C (.Subscript e (.Slice none none (some (.UnaryOp .USub (.Constant (.int 1) j p1) p2)) p3) pos) (cUn dRev f) := ⟨fun W tk => PE_imp (pe_revL (he.run W tk)) fun σ H Q ⟨η, ρ, st, k, en, p⟩ =>
  ⟨η, ρ, st, k, en, Post.bind (R := Rep C) (r := f ρ st) p fun d st1 v η1 H1 _ s1 k1 rd p1 => by
    rw [hK]
    unfold dRev at p1
    split at p1
    · rename_i ds q
      obtain ⟨a1, vs, rfl, q, r⟩ := vw_lst k1 rd q
      exact ⟨a1, vs, rfl, q, p1.lst k1 r.reverse⟩
    · exact p1.elim⟩⟩
/-- a call of a def of the module, the defaults behind the written values -/
theorem SE.fn (F : FnG X.prog X.w X.K X.mg X.base C.gl C.tabs k fa fd ps g) (at_ : DefAt X.K X.mg x st dv fa fd) (hK : X.K = C.K) (hr : Room k X.A) (hgd : X.A.guards = some []) (hb : ∃ ds, Vals ((dd.map dvD).map (He.Dv.v X.K)) ds ∧ Binds X.K fd ps ds) (hdd : dd.all dvOk = true)
    (ha : SA X C (e :: es) fs) (hn : (e :: es).length + dd.length = ps.length) (hlen : ∀ ρ st a st1, fs ρ st = .ok a st1 → a.length = (e :: es).length)
    (hg : Gl X x := by rfl) (hdb : (x == ("__debug__" : Str)) = false := by decide) (he : starEach (e :: es) X.env = (false, eval e X.env) :: starEach es X.env := by rfl) (hpl : (backTo pos (starEach es X.env)).any (·.1) = false := by rfl) :
    SE X C (.Call (.Name x p) (e :: es) [] pos) (cCall g dd fs) := by
  obtain ⟨ds, hd, hb⟩ := hb
  refine SE.call F hK hr hgd hg at_.g at_.fn.kp hb hd (fun η H => ?_) ha hn hlen hdb he hpl
  rw [hK]
  exact dv_rep hdd
end
/-- no defaults -/
theorem binds0 {K : PySem.W.Frag} {mg : Str → Option Value} {x : Str} {st : Stmt} {fa : Addr} {fd : FuncData} {ps : List Str} (at_ : DefAt K mg x st [] fa fd)
    (h : ∀ (kV doc pm : Value) (an : Option Addr) (cdv ct : Value) (us : List Value), us.length = ps.length → bindArgs (PySem.W.fnOf x x (defArgs st) (defBody st) (defScope st) .none kV doc pm an cdv ct) ⟨us, []⟩ = pure (ps.zip us)) :
    ∃ ds, Vals ((([] : List D).map dvD).map (He.Dv.v K)) ds ∧ Binds K fd ps ds := ⟨[], .nil, FunD.bindsN at_.fn h⟩
/-- what the head tells of a def -/
theorem def_at {K : PySem.W.Frag} {h : Heap} {mg : Str → Option Value} {x : Str} {st : Stmt} {dd : List He.Dv} {fn : List He.DefD} {fa : List He.Fa} (X : K.In h) (G : h.Ns mainGlobals mg) (c : He.SaysD fa fn K) (i j : Nat)
    (h1 : fn[i]? = some ⟨(x, none), x, x, defArgs st, defBody st, defScope st, dd, []⟩) (h2 : fa[j]? = some (.glo x)) : ∃ fd, DefAt K mg x st dd (He.ga K x) fd := by
  obtain ⟨fd, F⟩ := c.def_ i h1
  exact ⟨fd, F, He.glo_ok X G (c.fact j h2)⟩
theorem bb_len : bootBuiltins (Str.ofString "len") = some (.builtin "len") := by decide +kernel
theorem bb_abs : bootBuiltins (Str.ofString "abs") = some (.builtin "abs") := by decide +kernel
theorem bb_max : bootBuiltins (Str.ofString "max") = some (.builtin "max") := by decide +kernel
theorem bb_min : bootBuiltins (Str.ofString "min") = some (.builtin "min") := by decide +kernel
theorem bb_all : bootBuiltins (Str.ofString "all") = some (.builtin "all") := by decide +kernel
theorem bb_any : bootBuiltins (Str.ofString "any") = some (.builtin "any") := by decide +kernel
theorem bb_repr : bootBuiltins (Str.ofString "repr") = some (.builtin "repr") := by decide +kernel
theorem bb_isinstance : bootBuiltins (Str.ofString "isinstance") = some (.builtin "isinstance") := by decide +kernel
theorem bt_int : bootBuiltins (Str.ofString "int") = some (.type "int") := by decide +kernel
theorem bt_bool : bootBuiltins (Str.ofString "bool") = some (.type "bool") := by decide +kernel
theorem bt_str : bootBuiltins (Str.ofString "str") = some (.type "str") := by decide +kernel
theorem bt_tuple : bootBuiltins (Str.ofString "tuple") = some (.type "tuple") := by decide +kernel
theorem bt_list : bootBuiltins (Str.ofString "list") = some (.type "list") := by decide +kernel
theorem bt_dict : bootBuiltins (Str.ofString "dict") = some (.type "dict") := by decide +kernel
end G

set_option Elab.async false
set_option linter.all false
set_option maxRecDepth 100000
set_option maxHeartbeats 4000000
/-! Own exceptions over any built-in class whose own __init__ calls super().__init__ and keeps one field. -/
namespace G
open PySem PySem.Spec PyProof.Rows L2
section
open PySem.W
/-- what the written part tells of such a class -/
structure XC (K : Frag) (C : Addr) (newId : String) (bmB : List Value) : Prop where
  own : excInitIn K C bmB newId = true
  over : excOver K C bmB = true
  dict : hasDictIn K C = true
  sa : findIn K (.ref C) "__setattr__" = some (some (.builtin "object.__setattr__"))
  exC : subIn K (.ref C) (.type "BaseException") = some true
  tyC : typeIn K (.ref C) = some (.type "type")
  kC : keepIn K (.ref C) = true
section
open Builtin Builtin.ObjectAttr
variable {prog : Program} {w : World} {A : Around} {E : Value → Shared → Prop} {R : Result → Shared → Prop} {hp : Heap} {g : Array GenState} {d : Drawn} {t : Nat} {os : OsState} {K : Frag} {C x : Addr} {B newId : String} {bmB : List Value}
/-- the first field of such an exception -/
theorem x_store {fld : Str} {tk : Tok} {v : Value} {fv : Array Value} (SF : StoreFacts B bmB "object.__setattr__" "object") (T : XC K C newId bmB) (kin : K.In hp) (hx : hp.get? x = some { cls := .ref C, data := .fields fv }) (ht : takerIn K C fld = some none)
    (fin : ∀ h2 tk2 dx, (∀ b o, b ≠ x → hp.get? b = some o → h2.get? b = some o) → hp.objs.size ≤ dx → dx ≠ x → h2.get? x = some { cls := .ref C, dict := some dx, data := .fields fv } → h2.Ns1 dx (fun y => if y = fld then some v else none) → R (.ok (.ret .none)) ⟨h2, g, d, tk2, os⟩) :
    codeAny (model prog w) A (.call (.builtin "object.__setattr__") ⟨[.ref x, .str fld tk, v], []⟩) R ⟨hp, g, d, t, os⟩ := by
  have inst : InstAt hp x { cls := .ref C, data := .fields fv } C none := ⟨hx, rfl, rfl, trivial⟩
  refine osa_openX (s := ⟨hp, g, d, t, os⟩) SF kin inst T.over ht fun flag => ?_
  show wpAny _ _ (storeInOwnDict (.ref x) (.ref C) (.str fld tk) fld v flag) _ _ _
  obtain ⟨cd, hc, hd⟩ := any_some T.dict
  have lk : Looks (model prog w) hp (classData C) cd := looks_clsIn kin hc
  have xs : hp.objs.size ≠ x := (Nat.ne_of_lt (Heap.lt_size hx)).symm
  obtain ⟨c1, c2, c3, c4, c5, c6, c7, c8, c9, c10, c11⟩ := cd
  dsimp only at hd
  cases hd
  unfold storeInOwnDict ownDictForStores
  repeat (first | with_reducible refine HandSPX.store_in_new ?_ ?_ | with_reducible refine wpAny_loadPart_at hx ?_ | with_reducible refine lk.at ?_ | wp_step)
  · exact ⟨_, #[], _, (Heap.get?_update_ne _ _ _ _ xs).trans (Heap.get?_push_at rfl rfl), rfl, fun e he => (by simp at he), fun _ => rfl⟩
  · intro h2 tk2 n2 same
    have up : (hp.push { cls := .type "dict", data := .dict #[] }).get? x = some { cls := .ref C, data := .fields fv } := Heap.get?_push_of_some _ hx
    refine fin h2 tk2 hp.objs.size (fun b o hb e => (same.2 b (Nat.ne_of_lt (Heap.lt_size e))).trans ((Heap.get?_update_ne _ _ _ _ hb).trans (Heap.get?_push_of_some _ e))) (Nat.le_refl _) xs ((same.2 x xs.symm).trans (Heap.get?_update_self _ up rfl)) n2
end
end
section
variable {X : Cx} {pins : List (Addr × Obj)} {σ : L2.St} {H : Hp} {s : Shared} {a C : Addr} {f : Str} {y : V} {u : Value} {Q : Unit → Shared → Prop} {E : Value → Shared → Prop} {A : Around} {B newId initId : String} {bmB : List Value}
/-- self.f = y on such an exception -/
theorem x_set (SF : PySem.StoreFacts B bmB "object.__setattr__" "object") (T : XC X.K C newId bmB) (I : Inv X pins σ H s) (e : H a = some (exo a C none)) (ht : PySem.W.takerIn X.K C f = some none) (ry : RelV y u)
    (fin : ∀ dx s2, H dx = none → dx ≠ a → Inv X pins σ (upd (upd H dx (exd dx [(f, y)])) a (exo a C (some dx))) s2 → Q () s2) : wpAny (model X.prog X.w) A (setAttr (.ref a) f u) Q E s := by
  obtain ⟨t1, ho⟩ := exo_at I.hok e
  obtain ⟨hp, g, d, t, os⟩ := s
  refine PySem.W.set_plain I.kIn (ox := { cls := .ref C, dict := none, data := .fields #[.ref t1, .none, .none, .none, .bool false, .none] }) (od := none) ⟨ho, rfl, rfl, trivial⟩ T.sa ?_
  refine x_store SF T I.kIn ho ht fun h2 tk2 dx k dn dne hx hn => ?_
  have new : H dx = none := I.hok.fresh dn
  have old : ∀ {b : Addr} {o : Obj}, hp.get? b = some o → b ≠ dx := fun z => Nat.ne_of_lt (Nat.lt_of_lt_of_le (Heap.lt_size z) dn)
  have other : ∀ {b : Addr}, H b = none → b ≠ a := fun n z => by
    rw [z, e] at n
    cases n
  obtain ⟨H2, hH2⟩ : ∃ H2, H2 = upd (upd H dx (exd dx [(f, y)])) a (exo a C (some dx)) := ⟨_, rfl⟩
  have at_ : ∀ b, b ≠ a → b ≠ dx → H2 b = H b := fun b h1 h3 => by rw [hH2, upd_ne h1, upd_ne h3]
  have un : Un X.fs [] H H2 hp h2 := by
    refine ⟨fun b o z n _ _ => k b o (other n) z, fun b o z n _ _ => ⟨o.slots, k b o (other n) z⟩, fun b o z n _ => by rw [at_ b (other n) (old z)]; exact n, fun b o z _ => ?_, fun b xs z => ?_, fun b o v z => ?_, fun b ps z => ⟨#[], ?_⟩⟩
    · rcases Decidable.em (b = a) with hb | hb
      · exact ⟨_, hb ▸ hx⟩
      · exact ⟨o, k b o hb z⟩
    · rw [at_ b (at_ne e z exo_tup) (ne_of_none z new)]
      exact z
    · rw [at_ b (at_ne e z exo_frz) (ne_of_none z new)]
      exact z
    · rw [at_ b (at_ne e z exo_tbl) (ne_of_none z new), z, Array.append_empty]
  refine fin dx _ new dne (hH2 ▸ I.un (t' := tk2) un fun b o q => ?_)
  rcases Decidable.em (b = a) with hb | hb
  · subst hb
    rw [hH2, upd_same] at q
    cases q
    exact exo_ok hx
  rcases Decidable.em (b = dx) with hd | hd
  · subst hd
    rw [hH2, upd_ne hb, upd_same] at q
    cases q
    exact exd_ok hn (relO_put (fs := []) ry fun _ => True.intro)
  · rw [at_ b hb hd] at q
    refine (I.hok b o q).stay (fun c v hc z => k c v ?_ z) (fun c hc => ?_) (fun c xs hc => ?_)
    · rcases hc with rfl | hc
      · exact hb
      · exact at_ne e hc exo_own
    · rw [at_ c (at_ne e hc exo_own) (ne_of_none hc new)]
      exact hc
    · rw [at_ c (at_ne e hc exo_tup) (ne_of_none hc new)]
      exact hc
end
end G

set_option Elab.async false
set_option linter.all false
set_option maxRecDepth 100000
set_option maxHeartbeats 4000000
/-! Own exceptions over a built-in one whose __new__ is its parent's (KeyError). -/
namespace G
open PySem PySem.Spec
open PySem.F in
/-- what is asked of the built-in class B: its __init__; its __new__, which is Bn's -/
structure ExcB (B newId initId : String) (bmB : List Value) : Prop where
  init : Slot B "__init__" initId
  initEntry : entryFor table initId = some Builtin.«BaseException.__init__»
  initKind : builtinKind initId = some .slot
  initRow : Manifest.signature? initId = some ⟨.positional, "*", B, .self, [⟨"args", .varPos, false⟩]⟩
  noStar : (B != "*") = true
  nw : ∃ (Bn inN : String) (bmN : List Value), PySem.ExcBaseFacts Bn newId inN bmN ∧ bmB.contains (.type Bn) = true
  noAttr : bmB.contains (.type "AttributeError") = false
  noName : bmB.contains (.type "NameError") = false
theorem ExcB.of {B newId initId : String} {bmB : List Value} (F : PySem.ExcBaseFacts B newId initId bmB) : ExcB B newId initId bmB :=
  ⟨F.init, F.initEntry, F.initKind, F.initRow, F.noStar, ⟨B, initId, bmB, F, F.hasB⟩, F.noAttr, F.noName⟩
theorem excB_KeyError : ExcB "KeyError" "LookupError.__new__" "KeyError.__init__" [.type "KeyError", .type "LookupError", .type "Exception", .type "BaseException", .type "object"] where
  init := .of (owner := "KeyError") (n := "__init__") (by rw [typeLookup_type, builtinLookup_eq_fast]; kernel_rfl) (by decide +kernel) (by decide +kernel) (by decide +kernel) (by first | exact .inl (by decide +kernel) | exact .inr (by decide +kernel)) (by rw [isSubtype_type]; kernel_rfl)
  initEntry := PyProof.Rows.excClass_KeyError.initEntry
  initKind := by decide +kernel
  initRow := by kernel_rfl
  noStar := by decide +kernel
  nw := ⟨"LookupError", "LookupError.__init__", _, PySem.F.excBase_LookupError, by decide +kernel⟩
  noAttr := by decide +kernel
  noName := by decide +kernel
theorem kxs_KeyError : PySem.W.KxsFacts "KeyError" "KeyError.__init__" := ⟨by (show builtinType _ = _); (rw [builtinType_eq_fast]); kernel_rfl, by first | kernel_rfl | rfl⟩
open PySem.F in
theorem store_KeyError : PySem.StoreFacts "KeyError" [.type "KeyError", .type "LookupError", .type "Exception", .type "BaseException", .type "object"] "object.__setattr__" "object" :=
  { mro := by kernel_rfl
    slot := .of (owner := "object") (n := "__setattr__") (by (rw [typeLookup_type, builtinLookup_eq_fast]); kernel_rfl) (by decide +kernel) (by decide +kernel) (by decide +kernel) (by first | exact .inl (by decide +kernel) | exact .inr (by decide +kernel)) (by (rw [isSubtype_type]); kernel_rfl)
    entry := entry_object_sa
    kind := by decide +kernel
    split := by decide +kernel
    hasOwner := by decide +kernel
    args := fun a b c => by (unfold argsOk); kernel_rfl
    passes := fun self => by kernel_rfl }
section
variable {prog : Program} {w : World} {A : Around} {E : Value → Shared → Prop} {R : Result → Shared → Prop} {h : Heap} {g : Array GenState} {d : Drawn} {t : Nat} {os : OsState}
variable {nm qn : Str} {C N : Addr} {bs bm bmB : List Value} {hd : Bool} {sn : List Str} {sb : List Value} {ab : Bool} {col : Option Bool} {dd : Option Addr} {k0 k1 k2 k3 k5 : Option Value} {B newId initId : String}
theorem checkB_bound {M : Model} (F : ExcB B newId initId bmB) {e : Addr} {oe : Obj} {rest : List Value} {Q : Unit → Shared → Prop} (hC : h.get? C = some (excClassObj nm qn C N bs bm hd sn sb ab col dd k0 k1 k2 k3 k5 newId)) (he : h.get? e = some oe) (hcl : oe.cls = .ref C) (fin : Q () ⟨h, g, d, t, os⟩) :
    wpAny M A (checkBoundCall initId ⟨.ref e :: rest, []⟩) Q E ⟨h, g, d, t, os⟩ := by
  have star := F.noStar
  simp only [checkBoundCall, F.initKind, F.initRow]
  repeat (first | (with_reducible refine wpAny_loadPart_at he ?_; rw [hcl]) | with_reducible refine wpAny_loadPart_at hC ?_ | wp_step)
  have ck : ∀ (a b : String) (n : Nat), Bind.check ⟨.positional, "*", B, .self, [⟨"args", .varPos, false⟩]⟩ a b n (List.map (fun x => x.fst) ({ pos := Value.ref e :: rest } : Args).kw) = pure () := fun a b n => check_star_args _ _ _ _ _ _
  refine wpAny_onRaise ?_
  rw [ck]
  exact wpAny_pure fin
theorem newB_check {M : Model} {Bn inN : String} {bmN : List Value} (Fn : PySem.ExcBaseFacts Bn newId inN bmN) (inB : bm.contains (.type Bn) = true) {rest : List Value} {Q : Unit → Shared → Prop} (hC : h.get? C = some (excClassObj nm qn C N bs bm hd sn sb ab col dd k0 k1 k2 k3 k5 newId)) (fin : Q () ⟨h, g, d, t, os⟩) :
    wpAny M A (checkBuiltinCall newId ⟨.ref C :: rest, []⟩) Q E ⟨h, g, d, t, os⟩ := by
  have star := Fn.noStar
  have inC : (Value.ref C :: bm).contains (.type Bn) = true := by rw [List.contains_cons, inB, Bool.or_true]
  simp only [checkBuiltinCall, Fn.newKind, Fn.newSplit, Fn.newRow]
  repeat (first | refine wpAny_loadPart_at hC ?_ | (refine wpAny_isSubtype_exc hC ?_; rw [inC]) | refine wpAny_staticBase_exc hC ?_ | refine wpAny_madeBy_exc hC ?_ | simp only [bne_self_eq_false, Bool.false_eq_true, if_false] | wp_step)
  exact fin
theorem newB_run {Bn inN : String} {bmN : List Value} (Fn : PySem.ExcBaseFacts Bn newId inN bmN) (inB : bm.contains (.type Bn) = true) (nA : bm.contains (.type "AttributeError") = false) (nN : bm.contains (.type "NameError") = false) {rest : List Value} (hC : h.get? C = some (excClassObj nm qn C N bs bm hd sn sb ab col dd k0 k1 k2 k3 k5 newId))
    (fin : R (.ok (.ret (.ref (h.objs.size + 1)))) ⟨(h.push { cls := .type "tuple", data := .seq rest.toArray }).push { cls := .ref C, data := .fields #[.ref h.objs.size, .none, .none, .none, .bool false, .none] }, g, d, t, os⟩) (few : rest.length ≤ sizeLine) :
    codeAny (model prog w) A (.builtin newId ⟨.ref C :: rest, []⟩) R ⟨h, g, d, t, os⟩ := by
  have ends := Fn.ends
  have c1 : (Value.ref C :: bm).contains (.type Bn) = true := by rw [List.contains_cons, inB, Bool.or_true]
  have c2 : (Value.ref C :: bm).contains (.type "AttributeError") = false := by (rw [List.contains_cons, nA]); rfl
  have c3 : (Value.ref C :: bm).contains (.type "NameError") = false := by (rw [List.contains_cons, nN]); rfl
  refine codeAny_builtinAt Fn.entry ?_
  unfold Builtin.«BaseException.__new__»
  refine wpAt_bind ?_
  show wpAt _ _ _ (stack >>= _) _ _ _
  refine wpAt_bind (wpAt_stack fun pp below => wpAt_of_wpAny ?_)
  wp_walk
  refine wpAt_of_wpAny ?_
  rw [Fn.owner]
  repeat (first | with_reducible refine wpAny_madeHere_exc Fn.canon hC ?_ | with_reducible refine wpAny_loadPart_at hC ?_ | (with_reducible refine wpAny_isSubtype_exc hC ?_; first | rw [c1] | rw [c2] | rw [c3]) | wp_step)
  show R _ _
  rw [Heap.size_push]
  exact fin
theorem typeB_call (F : ExcB B newId initId bmB) (hT : ∀ X : String, bm.contains (.type X) = bmB.contains (.type X)) {rest : List Value} {fI : Addr} {Q : Fin → Shared → Prop}
    (hC : h.get? C = some (excClassObj nm qn C N bs bm hd sn sb ab col dd k0 k1 k2 k3 k5 newId))
    (li : W.Looks (model prog w) h (typeLookup (.ref C) "__init__") (some (.ref fI))) (lb : ∀ self, W.Looks (model prog w) h (bindSpecial (.ref fI) self) (.ref fI, [self])) (few : rest.length ≤ sizeLine)
    (go : codeAny (model prog w) A (.call (.ref fI) ⟨.ref (h.objs.size + 1) :: rest, []⟩) (fun r s' => match r with | .ok (.ret v) => v = .none ∧ Q (.done (.ret (.ref (h.objs.size + 1)))) s' | .ok _ => False | .error e => E e s') ⟨(h.push (W.kdv_tup rest)).push (PySem.HandSPX.excO C h.objs.size), g, d, t, os⟩) :
    wpAny (model prog w) A (Builtin.«type.__call__» ⟨.ref C :: rest, []⟩) Q E ⟨h, g, d, t, os⟩ := by
  obtain ⟨Bn, inN, bmN, Fn, inB⟩ := F.nw
  have inB2 : bm.contains (.type Bn) = true := (hT Bn).trans inB
  repeat (first | with_reducible refine wpAny_loadPart_at hC ?_ | with_reducible refine wpAny_madeBy_exc hC ?_ | wp_step)
  refine codeAny_call_builtin_code (Code.quiet_builtin _ Fn.quiet) (newB_check Fn inB2 hC ?_)
  refine newB_run Fn inB2 ((hT _).trans F.noAttr) ((hT _).trans F.noName) hC ?_ few
  show wpAny _ _ _ _ _ _
  have up : ∀ b o, h.get? b = some o → ((h.push (W.kdv_tup rest)).push (PySem.HandSPX.excO C h.objs.size)).get? b = some o := fun b o e => Heap.get?_push_of_some _ (Heap.get?_push_of_some _ e)
  have hC2 := up _ _ hC
  have got : ((h.push (W.kdv_tup rest)).push (PySem.HandSPX.excO C h.objs.size)).get? (h.objs.size + 1) = some (PySem.HandSPX.excO C h.objs.size) := by heap_get
  have own : (Value.ref C :: bm).contains (.ref C) = true := by simp
  have li2 := li.keeps up
  have lb2 := (lb (.ref (h.objs.size + 1))).keeps up
  unfold isInstance
  repeat (first | with_reducible refine wpAny_loadPart_at got ?_ | (with_reducible refine wpAny_isSubtype_exc hC2 ?_; rw [own]) | wp_step)
  show wpAny _ _ (typeLookup (.ref C) _) _ _ _
  refine li2.at (wpAny_holding (wpAny_bind (lb2.at ?_)))
  refine wpAny_bind (wpAny_call (codeAny_mono go fun r s2 z => ?_))
  rcases r with e | (v | _ | _ | _) <;> first | exact z | exact z.elim | skip
  obtain ⟨rfl, z⟩ := z
  first
    | exact wpAny_pure (wpAny_pure z)
    | (wp_walk; exact z)
theorem callB_own (F : ExcB B newId initId bmB) (hT : ∀ X : String, bm.contains (.type X) = bmB.contains (.type X)) {rest : List Value} {fI : Addr}
    (hC : h.get? C = some (excClassObj nm qn C N bs bm hd sn sb ab col dd k0 k1 k2 k3 k5 newId))
    (li : W.Looks (model prog w) h (typeLookup (.ref C) "__init__") (some (.ref fI))) (lb : ∀ self, W.Looks (model prog w) h (bindSpecial (.ref fI) self) (.ref fI, [self])) (few : rest.length ≤ sizeLine)
    (go : codeAny (model prog w) (A.under (.builtin "type.__call__" ⟨.ref C :: rest, []⟩)) (.call (.ref fI) ⟨.ref (h.objs.size + 1) :: rest, []⟩) (W.InitBack (h.objs.size + 1) R) ⟨(h.push (W.kdv_tup rest)).push (PySem.HandSPX.excO C h.objs.size), g, d, t, os⟩) :
    codeAny (model prog w) A (.call (.ref C) ⟨rest, []⟩) R ⟨h, g, d, t, os⟩ := by
  have e1 := tc_lookup
  have e2 := tc_bind (.ref C)
  have isT : (⟨h, g, d, t, os⟩ : Shared).TypeIs (.ref C) "type" := ⟨_, hC, rfl⟩
  refine codeAny_of_tree ?_
  show wpAny _ _ (callAny (.ref C) _) _ _ _
  repeat (any_goals (first | assumption | with_reducible refine wpAny_loadPart_at hC ?_ | wp_step))
  refine ⟨rfl, codeAny_call_builtin_at (Code.quiet_builtin _ (by decide +kernel)) entry_typeCall (wpAny_check_type_call_sub hC (typeB_call F hT hC li lb few ?_))⟩
  refine codeAny_mono go fun r s2 z => ?_
  rcases r with e | (v | _ | _ | _) <;> exact z
end
end G

set_option Elab.async false
set_option linter.all false
set_option maxRecDepth 100000
set_option maxHeartbeats 4000000
/-! .. their __init__: super().__init__(text); self.f = v. -/
namespace G
open PySem PySem.Spec PyProof.Rows L2
section
open PySem.W
variable {prog : Program} {w : World} {A : Around} {E : Value → Shared → Prop} {h : Heap} {g : Array GenState} {d : Drawn} {t : Nat} {os : OsState} {B newId initId : String} {bmB : List Value}
/-- the wrapper of the built-in __init__, called -/
theorem mw_call {nm q : Str} {C N x u t0 : Addr} {bs bm : List Value} {hdct : Bool} {sn : List Str} {sub : List Value} {ab : Bool} {col : Option Bool} {dd : Option Addr} {k0 k1 k2 k3 k5 : Option Value} {rest : List Value} {Q : Value → Shared → Prop} (FB : ExcB B newId initId bmB)
    (hC : h.get? C = some (excClassObj nm q C N bs bm hdct sn sub ab col dd k0 k1 k2 k3 k5 newId)) (hx : h.get? x = some (excObj C t0 none .none)) (hu : h.get? u = some (kxs_mw initId x)) (few : rest.length ≤ sizeLine)
    (fin : ∀ h2, (∀ b o, b ≠ x → h.get? b = some o → h2.get? b = some o) → h2.get? x = some (excObj C h.objs.size none .none) → Q .none ⟨h2, g, d, t, os⟩) : wpAny (model prog w) A (call (.ref u) rest) Q E ⟨h, g, d, t, os⟩ := by
  refine wpAny_call (codeAny_of_tree ?_)
  show wpAny _ A.in1 (callAny (.ref u) ⟨rest, []⟩) _ _ _
  unfold callAny
  refine wpAny_bind (wpAny_load hu ?_)
  have dec : (Value.type "method-wrapper" == Value.type "method" || Value.type "method-wrapper" == Value.type "builtin_function_or_method" || Value.type "method-wrapper" == Value.type "method-wrapper") = true := by decide
  simp only [kxs_mw, dec, if_true]
  refine KFB.if_so (by decide) (wpAny_bind (checkB_bound FB hC hx rfl ?_))
  refine wpAny_bind (wpAny_pure (wpAny_pure ⟨plainId_quiet FB.init.plain _, codeAny_builtin FB.initEntry ?_⟩))
  exact exc_init_tree (cls := .ref C) (t0 := t0) (dv := none) (c2 := .none) (c3 := .none) (b4 := .bool false) hx few fun h2 k e _ => fin h2 k e
end
/-- such an __init__ of the class at C, as the written part has it -/
structure XM (P : Program) (K : PySem.W.Frag) (C fI cc : Addr) (F : NdefX.NF) (B initId : String) : Prop where
  lk : ∃ oc od osl doc pm ct, K.lookup fI = some ⟨oc, od, .func (F.fd doc pm ct), osl⟩
  cell : ∃ cl cld csl, K.lookup cc = some ⟨cl, cld, .cell (some (.ref C)), csl⟩
  cl : F.cl = [(Str.ofString "__class__", cc)]
  code : PySem.W.codeIn K (.ref F.c) F.qual = true
  file : ∃ ccl cdd vs ccs file tf, K.lookup F.c = some ⟨ccl, cdd, .fields vs, ccs⟩ ∧ vs[2]? = some (.str file tf) ∧ ((P.main.file : Str) == file) = true
  ini : PySem.W.findIn K (.ref C) (Str.ofString "__init__") = some (some (.ref fI))
  fn : PySem.W.typeIn K (.ref fI) = some (.type "function")
  stat : PySem.W.nsIn K cStatics "thirdparty.any" = some none
  sup : PySem.W.ks_superIn K C C (Str.ofString "__init__") = some (some (.builtin initId))
  isB : PySem.W.subIn K (.ref C) (.type B) = some true
  cls : ∃ cd, PySem.W.clsIn K C = some cd
  self : PySem.W.mroIn K C (.ref C) = some true
  nosup : (P.main.scope.names.lookup (Str.ofString "super")).isSome = false
section
open NdefX
variable {P : Program} {w : World} {K : PySem.W.Frag} {mg : Str → Option Value} {base : Heap} {A : Around} {outer : List PySem.Env} {s : Shared} {H : Hp} {C fI cc a : Addr} {F : NF} {B newId initId : String} {bmB : List Value} {p f : Str} {y : V} {u : Value}
theorem cells_at (M : XM P K C fI cc F B initId) (e0 : Env0 P w K mg base A outer s H) : CellsAt F.cl [Str.ofString "__class__"] [none] s.heap H := by
  obtain ⟨cl, cld, csl, e⟩ := M.cell
  have eb := e0.mod.kin _ _ e
  obtain ⟨e1, e2⟩ := e0.bs _ _ eb
  rw [M.cl]
  have look : ∀ y c, ([(Str.ofString "__class__", cc)] : List (Str × Addr)).lookup y = some c → y = Str.ofString "__class__" ∧ c = cc := fun y c z => by
    have z2 := PySem.mem_of_lookup z
    rw [List.mem_singleton] at z2
    cases z2
    exact ⟨rfl, rfl⟩
  refine ⟨rfl, fun y c z => ?_, fun x y c z1 z2 => ?_, fun i y z => ?_⟩
  · obtain ⟨_, rfl⟩ := look y c z
    exact ⟨e2, _, _, e1, rfl⟩
  · rw [(look x c z1).1, (look y c z2).1]
  · have hy : y = Str.ofString "__class__" := List.mem_singleton.1 (List.mem_of_getElem? z)
    subst hy
    refine ⟨cc, by simp [List.lookup], fun v q => ?_⟩
    have := List.mem_of_getElem? q
    rw [List.mem_singleton] at this
    cases this
end
end G

set_option Elab.async false
set_option linter.all false
set_option maxRecDepth 100000
set_option maxHeartbeats 4000000
/-! .. run. -/
namespace G
open PySem PySem.Spec PyProof.Rows L2
open NdefX
abbrev sSelf : Str := Str.ofString "self"
abbrev sCls : Str := Str.ofString "__class__"
section
variable {P : Program} {w : World} {K : PySem.W.Frag} {mg : Str → Option Value} {base : Heap} {A : Around} {outer : List PySem.Env} {s : Shared} {H : Hp} {C fI cc a : Addr} {F : NF} {B newId initId : String} {bmB : List Value} {p f : Str} {y : V} {u : Value} {k : Nat} {E : XK}
theorem xinit_run (FB : ExcB B newId initId bmB) (SF : PySem.StoreFacts B bmB "object.__setattr__" "object") (KF : PySem.W.KxsFacts B initId) (T : XC K C newId bmB) (M : XM P K C fI cc F B initId)
    {p0 p1 p2 p3 p4 q0 q1 q2 q3 : Pos} {arg : Expr} {tg : TE} {ar : Arg} (S : NScope [sSelf, p, sCls] [sSelf, p] [sCls] F.scope) (hpar : (F.params.posonlyargs ++ F.params.args).head? = some ar) (har : ar.arg = sSelf)
    (hbody : F.body = [.Expr (.Call (.Attribute (.Call (.Name (Str.ofString "super") p0) [] [] p1) (Str.ofString "__init__") p2) [arg] [] p3) p4, .Assign [.Attribute (.Name sSelf q0) f q1] (.Name p q2) q3])
    (hbind : ∀ (doc pm ct : Value) (us : List Value), us.length = 2 → bindArgs (F.fd doc pm ct) ⟨us, []⟩ = pure ([sSelf, p].zip us)) (hks : F.scope.names.lookup (Str.ofString "super") = some .globalImplicit) (hfree : mg (Str.ofString "super") = none)
    (ht : PySem.W.takerIn K C f = some none) (hint : ∀ L, interactive (envF F fI L) = false) (hsw : ∀ env : PySem.Env, swapsWith (.Call (.Attribute (.Call (.Name (Str.ofString "super") p0) [] [] p1) (Str.ofString "__init__") p2) [arg] [] p3) none p4.line env = pure false)
    (hst : ∀ env : PySem.Env, starEach [arg] env = [(false, eval arg env)])
    (hev : ∀ env : PySem.Env, ∃ pl : Sem Bool, eval (.Call (.Attribute (.Call (.Name (Str.ofString "super") p0) [] [] p1) (Str.ofString "__init__") p2) [arg] [] p3) env = (do
      let ov ← attributeBase (.Call (.Name (Str.ofString "super") p0) [] [] p1) (Str.ofString "__init__") env (eval (.Call (.Name (Str.ofString "super") p0) [] [] p1) env)
      standAt p2.atName
      let (f, first) ← holding [ov] (getMethod ov (Str.ofString "__init__") pl)
      callWith p3 f first (backTo p3 (starEach [arg] env)) []))
    (hp1 : (p == ("__debug__" : Str)) = false) (hp2 : (p == ("__classdict__" : Str)) = false)
    (harg : PE (ncx (L2.CX P w) P w K mg base [sSelf, p, sCls] F fI A outer s H E) arg tg)
    (hr : Room (k + 1) A) (hgd : A.guards = some []) (e0 : Env0 P w K mg base A outer s H) (ha : H a = some (exo a C none)) (ry : RelV y u) (hg : tg (startF [sSelf, p, sCls] [.ref a, y] [none]) H (fun _ H1 => H1 = H)) :
    codeAny (model P w) A (.call (.ref fI) ⟨[.ref a, u], []⟩) (CR (L2.CX P w) outer P w H s (fun v H2 => v = .non ∧ ∃ d, H d = none ∧ d ≠ a ∧ H2 = upd (upd H d (exd d [(f, y)])) a (exo a C (some d))) E) s := by
  obtain ⟨hp, g, dr, tk, os⟩ := s
  obtain ⟨oc, od, osl, doc, pm, ct, lk⟩ := M.lk
  have old := fun b o (e : base.get? b = some o) => (e0.bs b o e).1
  have KX : K.In hp := e0.mod.kin.keeps old
  have Cl := cells_at M e0
  refine PySem.ks_codeAny_call_defAt (binds := [sSelf, p].zip [.ref a, u]) hr.depth (KX _ _ lk) rfl (e0.mod.nolimit.keeps old) (PySem.W.codeRec_of KX M.code) rfl (BindsTo.of_eq (hbind doc pm ct _ rfl)) S.nocell (fun x hx => S.par _ (List.of_mem_zip hx).1) (fun h₁ hns kp => ?_) S.co S.gen S.kind
  have I : Inv (ncx (L2.CX P w) P w K mg base [sSelf, p, sCls] F fI A outer ⟨hp, g, dr, tk, os⟩ H E) [] (startF [sSelf, p, sCls] [.ref a, y] [none]) H ⟨h₁, g, dr, tk + 2, os⟩ := inv_startN S hr.hd e0 rfl (.cons rfl (.cons ry .nil)) Cl hns kp
  show _root_.PySem.wpAt (model P w) (A.deeper (envF F fI hp.objs.size)) (.func F.body (envF F fI hp.objs.size)) (execs F.body (envF F fI hp.objs.size)) _ _ ⟨h₁, g, dr, tk + 2, os⟩
  have PX := harg
  have KX1 : K.In h₁ := PySem.W.Frag.In.keeps KX kp
  obtain ⟨t1, ho⟩ := exo_at I.hok ha
  obtain ⟨cd, hcd⟩ := M.cls
  obtain ⟨oD, hD1, hD2⟩ : ∃ oD, K.lookup C = some oD ∧ oD.data = .cls cd := by
    unfold PySem.W.clsIn at hcd
    split at hcd
    · rename_i e
      cases hcd
      exact ⟨_, e, rfl⟩
    · cases hcd
  obtain ⟨ccl, cdd, vs, ccs, file, tf, lkc, hvs, hfile⟩ := M.file
  obtain ⟨cl0, cl1, cl2, lkcc⟩ := M.cell
  obtain ⟨mb, b1, b2⟩ := e0.mod.blt
  rw [hbody]
  obtain ⟨pl, hpl⟩ := hev (envF F fI hp.objs.size)
  refine PySem.ks_wpAt_execs_cons (PySem.ks_wpAt_Expr_any (PySem.ks_wpAt_MethodCall ?_ hpl) (hint _) (hsw _))
  refine PySem.ks_wpAt_super_base (env := envF F fI hp.objs.size) (show F.scope.names.lookup _ = _ from hks) (show F.scope.names.lookup _ = _ from S.frk _ (List.mem_singleton.2 rfl)) (by decide) rfl (KX1 _ _ lk) rfl hpar rfl (KX1 _ _ lkc) rfl hvs hfile M.nosup ?_
  refine PySem.W.ks_loadName_global S.kind (show F.scope.names.lookup _ = _ from hks) (PySem.Calls.loadGlobal_builtin (env := envF F fI hp.objs.size) (e0.mod.glob.keeps fun b o e => kp _ _ (old b o e)) hfree (b1.keeps fun b o e => kp _ _ (old b o e)) ((b2 _ (by decide)).trans (show bootBuiltins (Str.ofString "super") = some (.type "super") by decide +kernel)) ⟨rfl, ?_⟩)
  refine PySem.wpAny_loadName_free S.kind (show F.scope.names.lookup _ = _ from S.frk _ (List.mem_singleton.2 rfl)) (c := cc) (v := .ref C) (by show F.cl.lookup _ = _; rw [M.cl]; simp [List.lookup]) ⟨_, KX1 _ _ lkcc, rfl⟩ ?_
  rw [har]
  refine PySem.wpAny_loadName_local S.kind (show F.scope.names.lookup _ = _ from S.par _ (.head _)) hns (v := .ref a) (zip_look (i := 0) (ps := [sSelf, p]) (us := [.ref a, u]) ?_ rfl rfl) ?_
  · have := S.nd
    simp only [List.nodup_cons, List.mem_cons, List.not_mem_nil, or_false, not_or] at this ⊢
    exact ⟨this.1.1, fun z => z, List.nodup_nil⟩
  refine PySem.ks_wpAny_isType_cls (KX1 _ _ hD1) hD2 ⟨rfl, ?_⟩
  refine PySem.ks_wpAny_call_super (KX1 _ _ hD1) hD2 ho rfl (fun c e => by cases e) (PySem.W.looks_mroIn KX1 M.self) fun h2 e2 k2 => ?_
  have KX2 : K.In h2 := PySem.W.Frag.In.keeps KX1 k2
  have I2 : Inv (ncx (L2.CX P w) P w K mg base [sSelf, p, sCls] F fI A outer ⟨hp, g, dr, tk, os⟩ H E) [] (startF [sSelf, p, sCls] [.ref a, y] [none]) H ⟨h2, g, dr, tk + 2, os⟩ := I.kept k2
  have inst : PySem.W.InstAt h2 a { cls := .ref C, dict := none, data := .fields #[.ref t1, .none, .none, .none, .bool false, .none] } C none := ⟨k2 _ _ ho, rfl, rfl, trivial⟩
  have hal : PySem.W.alongIn K (Str.ofString "__init__") ((cd.mro.dropWhile (· != .ref C)).drop 1) = some (some (.builtin initId)) := by
    have z := M.sup
    unfold PySem.W.ks_superIn at z
    rw [hcd] at z
    exact z
  refine PySem.W.kxs_getMethod KF e2 (PySem.W.looks_opaque KX2 M.stat) (l₀ := cd.mro) (fun A Q E s k q => wpAny_bind ((PySem.W.looks_clsIn KX2 hcd) A _ E s k (wpAny_pure q))) rfl KX2 hal (inst.type.andThen (PySem.W.looks_subIn KX2 M.isB)) (PySem.W.ks_ne KX2 inst hcd) (by decide) ?_
  show wpAny _ _ (callWith p3 (.ref h2.objs.size) [] (backTo p3 (starEach [arg] (envF F fI hp.objs.size))) []) _ _ _
  have k3 : ∀ b o, h2.get? b = some o → (h2.push (PySem.W.kxs_mw initId a)).get? b = some o := fun b o e => Heap.get?_push_of_some _ e
  have I3 : Inv (ncx (L2.CX P w) P w K mg base [sSelf, p, sCls] F fI A outer ⟨hp, g, dr, tk, os⟩ H E) [] (startF [sSelf, p, sCls] [.ref a, y] [none]) H ⟨h2.push (PySem.W.kxs_mw initId a), g, dr, tk + 3, os⟩ := I2.kept k3
  have hu : (h2.push (PySem.W.kxs_mw initId a)).get? h2.objs.size = some (PySem.W.kxs_mw initId a) := Heap.get?_push_size _ rfl
  have nu : H h2.objs.size = none := I2.hok.fresh (Nat.le_refl _)
  have I4 := I3.pins_of (pins' := [(h2.objs.size, PySem.W.kxs_mw initId a)]) fun q hq => by
    rw [List.mem_singleton] at hq
    subst hq
    exact ⟨hu, nu, Nat.ne_of_gt (I2.lt), fun z => I2.nofs (Nat.le_refl _) z, fun v z => by cases z⟩
  refine PySem.W.kxs_callWith (i := initId) (x := a) (by rw [hst]; rfl) ?_
  rw [hst]
  refine PySem.Calls.evalArgs_plain ?_
  refine PySem.Calls.spliced_cons (thn (PX.run [(h2.objs.size, PySem.W.kxs_mw initId a)] _ _ _ _ I4 hg) fun z s4 ⟨v4, H4, I5, rv4, e4⟩ => ?_)
  subst e4
  obtain ⟨h4, g4, d4, t4, o4⟩ := s4
  have KX4 : K.In h4 := I5.kIn
  obtain ⟨n0, n1, n2, n3, n4, n5, n6, n7, n8, n9, n10, n11, n12, n13, n14, n15, hC, _⟩ := PySem.W.excInit_of KX4 T.own
  obtain ⟨t2, ho4⟩ := exo_at I5.hok ha
  have hu4 := (I5.pin (h2.objs.size, PySem.W.kxs_mw initId a) (by simp)).1
  refine PySem.Calls.spliced_nil ⟨hu4, ?_⟩
  refine mw_call FB hC ho4 hu4 (by show 1 ≤ _; decide) fun h5 k5 e5 => ?_
  have J := I5.write (t' := t4) (x := a) (e := a) (o := exo a C none) (by rw [ha]; exact True.intro) (.inl rfl) k5 ⟨_, e5⟩ (exo_ok e5)
  have eu : upd H4 a (exo a C none) = H4 := by
    funext b
    rcases Decidable.em (b = a) with hb | hb
    · rw [hb, upd_same, ha]
    · rw [upd_ne hb]
  rw [eu] at J
  have J := J.unpinned (pins := [])
  refine PySem.ks_wpAt_execs_cons (PySem.wpAt_of_wpAny ?_)
  refine plainObj_wpAny_Assign_Attribute (thn ((pe_var (X := ncx (L2.CX P w) P w K mg base [sSelf, p, sCls] F fI A outer ⟨hp, g, dr, tk, os⟩ H4 E) (x := p) (i := 1) rfl (.inl (S.par _ (.tail _ (.head _)))) hp1 hp2).run [] _ _ H4 (fun v H1 => v = y ∧ H1 = H4) J ⟨_, rfl, rfl, rfl⟩) fun v s6 ⟨z1, H6, J6, r6, ez, eH⟩ => ?_) rfl
  subst ez eH
  refine thn ((pe_var (X := ncx (L2.CX P w) P w K mg base [sSelf, p, sCls] F fI A outer ⟨hp, g, dr, tk, os⟩ H6 E) (x := sSelf) (i := 0) rfl (.inl (S.par _ (.head _))) (by decide) (by decide)).run [] _ _ H6 (fun v H1 => v = .ref a ∧ H1 = H6) J6 ⟨_, rfl, rfl, rfl⟩) fun v7 s7 ⟨z2, H7, J7, r7, ez, eH⟩ => ?_
  subst ez eH
  obtain rfl : v7 = Value.ref a := r7
  refine x_set SF T J7 ha ht r6 fun dx s8 nd dne J8 => ?_
  refine PySem.wpAt_of_wpAny (wpAny_execs_nil ?_)
  exact ⟨.non, _, J8.os, J8.bare, J8.base, J8.hok, rfl, rfl, dx, nd, dne, rfl⟩
end
end G

set_option Elab.async false
set_option linter.all false
set_option maxRecDepth 100000
set_option maxHeartbeats 4000000
/-! .. made, to be raised. -/
namespace G
open PySem PySem.Spec PyProof.Rows L2
open NdefX
section
variable {X : Cx} {pins : List (Addr × Obj)} {σ : L2.St} {H : Hp} {s : Shared} {C fI cc : Addr} {F : NF} {B newId initId : String} {bmB : List Value} {p f x : Str} {k : Nat} {e : Expr} {te : TE} {pos np : Pos}
/-- all that is known of such a class and its __init__ -/
structure XK1 (P : Program) (w : World) (K : PySem.W.Frag) (mg : Str → Option Value) (base : Heap) (k : Nat) (C : Addr) (f : Str) (ok : V → Hp → Prop) : Prop where
  made : ∃ (newId : String) (B initId : String) (bmB : List Value), XC K C newId bmB ∧ ExcB B newId initId bmB
  run : ∃ fI, PySem.W.findIn K (.ref C) (Str.ofString "__init__") = some (some (.ref fI)) ∧ PySem.W.typeIn K (.ref fI) = some (.type "function") ∧
    ∀ (A : Around) (outer : List PySem.Env) (s : Shared) (H : Hp) (a : Addr) (y : V) (u : Value) (E : XK), Room (k + 1) A → A.guards = some [] → Env0 P w K mg base A outer s H → H a = some (exo a C none) → RelV y u → ok y H →
      codeAny (model P w) A (.call (.ref fI) ⟨[.ref a, u], []⟩) (CR (L2.CX P w) outer P w H s (fun v H2 => v = .non ∧ ∃ d, H d = none ∧ d ≠ a ∧ H2 = upd (upd H d (exd d [(f, y)])) a (exo a C (some d))) E) s
theorem type_guards (A : Around) (as : Args) (h : A.guards = some []) : (A.under (.builtin "type.__call__" as)).guards = some [] := by
  have e : (Code.builtin "type.__call__" as).isGuard = false := by kernel_rfl
  simp [Around.under, Code.guards, e, pushGuards, h]
theorem back_eq (H : Hp) {a d : Addr} {C : Addr} {f : Str} {y : V} (na : H a = none) (hne : d ≠ a) : upd (del (upd (upd (upd H a (exo a C none)) d (exd d [(f, y)])) a (exo a C (some d))) a) d (.xd [(f, y)]) = upd H d (.xd [(f, y)]) := by
  funext b
  rcases Decidable.em (b = d) with h | h
  · rw [h, upd_same, upd_same]
  rw [upd_ne h, upd_ne h]
  rcases Decidable.em (b = a) with h2 | h2
  · rw [h2, del_same, na]
  · rw [del_ne h2, upd_ne h2, upd_ne h, upd_ne h2]
theorem pmk_x {ok : V → Hp → Prop} (T : XK1 X.prog X.w X.K X.mg X.base k C f ok) (hr : Room (k + 2) X.A) (hgd : X.A.guards = some []) (hg : Gl X x) (hm : X.mg x = some (.ref C)) (he : PE X e te)
    (hdb : (x == ("__debug__" : Str)) = false := by decide) (hst : starEach [e] X.env = [(false, eval e X.env)] := by rfl) :
    PMk X (.Call (.Name x np) [e] [] pos) (fun σ H Q => te σ H fun y H1 => (∀ a, H1 a = none → ok y (upd H1 a (exo a C none))) ∧ ∀ d, H1 d = none → Q (.ref C) (some d) (upd H1 d (.xd [(f, y)]))) := by
  intro pins s σ H Q I h
  obtain ⟨newId, B, initId, bmB, TC, FB⟩ := T.made
  obtain ⟨fI, hi, hf, run⟩ := T.run
  refine wpAny_Call_Name_kw (ld_glob I hg hm ?_ hdb)
  have hst2 : starEach [e] X.env = (false, eval e X.env) :: starEach [] X.env := hst
  refine PySem.W.callWith_K (h₀ := X.base) I.ok.mod.kin TC.kC ?_ hst2 rfl
  rw [hst2]
  refine PySem.Calls.spliced_cons (thn (he.run pins s σ H _ I h) fun z s1 ⟨y, H1, I1, ry, q1, q2⟩ => ?_)
  refine PySem.Calls.spliced_nil ⟨I1.kIn, ?_⟩
  show wpAny _ _ (call (.ref C) [z]) _ _ _
  obtain ⟨hp, g, dr, tk, os⟩ := s1
  obtain ⟨nm, N, qn, bs, bm, hdct, sn, sub, ab, col, dd, k0, k1, k2, k3, k5, hC, hT⟩ := PySem.W.excInit_of I1.kIn TC.own
  have hsz : hp.objs.size ≤ hp.objs.size + 1 := Nat.le_succ _
  have na : H1 (hp.objs.size + 1) = none := I1.hok.fresh hsz
  have kk : ∀ b o, hp.get? b = some o → ((hp.push (PySem.W.kdv_tup [z])).push (PySem.HandSPX.excO C hp.objs.size)).get? b = some o := fun b o e => Heap.get?_push_of_some _ (Heap.get?_push_of_some _ e)
  have hget : ((hp.push (PySem.W.kdv_tup [z])).push (PySem.HandSPX.excO C hp.objs.size)).get? (hp.objs.size + 1) = some (PySem.HandSPX.excO C hp.objs.size) := by heap_get
  have I2 : Inv X pins σ (upd H1 (hp.objs.size + 1) (exo (hp.objs.size + 1) C none)) ⟨(hp.push (PySem.W.kdv_tup [z])).push (PySem.HandSPX.excO C hp.objs.size), g, dr, tk, os⟩ :=
    I1.laid (t' := tk) (a := hp.objs.size + 1) (o := exo (hp.objs.size + 1) C none) (h' := (hp.push (PySem.W.kdv_tup [z])).push (PySem.HandSPX.excO C hp.objs.size)) kk hsz (exo_ok hget)
  refine wpAny_call (callB_own FB hT hC (PySem.W.looks_findIn I1.kIn hi) (fun self => PySem.W.bind_fn I1.kIn self hf) (by show 1 ≤ _; decide) (codeAny_mono (run _ X.stack _ _ (hp.objs.size + 1) y z (fun _ _ _ => False) (hr.make C [z] []) (type_guards _ _ hgd) (I2.env0.make C [z] []) upd_same ry (q1 _ na)) fun r s2 hq => ?_))
  cases r with
  | error er => exact False.elim (by obtain ⟨_, _, _, _, _, _, _, _, _, _, _, _, z⟩ := hq; exact z)
  | ok fl =>
    cases fl with
    | ret u =>
      obtain ⟨v, H2, os2, bare2, un2, hok2, rv, rfl, d, nd, dne, rfl⟩ := hq
      obtain ⟨h2, g2, d2, t2, os'⟩ := s2
      have nd1 : H1 d = none := by rwa [upd_ne dne] at nd
      refine ⟨rv, mk_end (raises_own TC.exC TC.tyC) I1 hsz kk un2 hok2 os2 bare2 upd_same (d := d) (fs := [(f, y)]) ?_ nd1 ?_⟩
      · rw [upd_ne dne, upd_same]
      · rw [back_eq H1 na dne]
        exact q2 d nd1
    | next => exact False.elim hq
    | brk => exact False.elim hq
    | cont => exact False.elim hq
end
end G

set_option Elab.async false
set_option linter.all false
set_option maxRecDepth 100000
set_option maxHeartbeats 4000000
/-! The texts of such exceptions; raising over the mirrors. -/
namespace G
open PySem PySem.Spec PyProof.Rows L2
open NdefX
/-- a value whose repr is told -/
def ReprOk (K : PySem.W.Frag) (y : V) (H : Hp) : Prop := ∃ d, Da K H y d ∧ d.depth ≤ 60 ∧ d.showable = true ∧ d.shown.length ≤ 16000000
section
variable {X : Cx} {e : Expr} {te : TE} {pos : Pos}
theorem pe_fmtRD (hg : X.A.guards = some []) (hu : X.A.units + 64 < cLine) (he : PE X e te) : PE X (.FormattedValue e 114 none pos) (fun σ H Q => te σ H fun y H1 => ReprOk X.K y H1 ∧ ∀ z : Str, z.length ≤ 16000000 → Q (.str z) H1) := by
  refine ⟨fun pins s σ H Q I h => ?_⟩
  refine wpAny_FormattedValue_repr (thn (he.run pins s σ H _ I h) fun v s1 ⟨y, H1, I1, r1, ⟨d, hd, hp, hs, hz⟩, q⟩ => ?_)
  have sz : (16000000 : Nat) ≤ sizeLine := by rw [sizeLine_eq]; decide
  have fin : ∀ (z : Str) (t : Tok) (s2 : Shared), Inv X pins σ H1 s2 → z.length ≤ 16000000 → wpAny (model X.prog X.w) X.A (formatField (.str z t) Str.empty) (EP X pins σ Q) X.xe s2 := fun z t s2 I2 hz2 =>
    wpAny_formatField_str ⟨.str z, H1, I2, ⟨t, rfl⟩, q z hz2⟩ ⟨.str z, H1, I2.tok _, ⟨_, rfl⟩, q z hz2⟩ (Nat.le_trans hz2 sz)
  have big : ∀ {a : Addr}, v = .ref a → wpAny (model X.prog X.w) X.A (pyReprObj v) (fun r s2 => wpAny (model X.prog X.w) X.A (formatField r Str.empty) (EP X pins σ Q) X.xe s2) X.xe s1 := fun {a} ev => by
    subst ev
    obtain ⟨as, rd, hm⟩ := Da.reads I1 hd r1
    exact pyReprObj_of_reads rd hs hm hg (by omega) (fun _ _ z => z) (fun h' t tk kp => fin _ _ _ (I1.kept (t' := tk) kp) hz) (Nat.le_trans hz sz)
  cases hd with
  | dic _ _ => exact big r1
  | dp hd hl =>
    cases hd with
    | non =>
      cases (show v = Value.none from r1)
      exact pyReprObj_none (fin _ _ _ (I1.tok _) (by decide))
    | bl b =>
      cases (show v = Value.bool b from r1)
      exact pyReprObj_bool (fin _ _ _ (I1.tok _) (by cases b <;> decide))
    | int i =>
      obtain ⟨t, ev⟩ := (show ∃ t, v = Value.int i t from r1)
      subst ev
      simp only [PyData.showable, decide_eq_true_eq] at hs
      simp only [PyData.shown] at hz
      exact pyReprObj_int hs (fin _ _ _ (I1.tok _) hz)
    | str x =>
      obtain ⟨t, ev⟩ := (show ∃ t, v = Value.str x t from r1)
      subst ev
      simp only [PyData.shown] at hz
      exact pyReprObj_str (fin _ _ _ (I1.tok _) hz) (Nat.le_trans hz sz)
    | lst _ _ => exact big r1
    | tup _ _ => exact big r1
end
/-- what a FormattedValue of a plain kind may be -/
def PlainOk (y : V) : Prop := y = .non ∨ (∃ x : Str, y = .str x ∧ x.length ≤ 16000000) ∨ ∃ i : Int, y = .int i ∧ i.natAbs.log2 < 1920
section
variable {P : Program} {w : World} {K : PySem.W.Frag} {mg : Str → Option Value} {base : Heap} {C fI cc : Addr} {F : NF} {B newId initId : String} {bmB : List Value} {p f : Str} {k : Nat}
/-- {p!r} and a text behind it, ahead of it; a text alone -/
inductive ArgKind where
  | behind (x : Str) (j : Nat) | ahead (x : Str) (j : Nat) | text (x : Str) (j : Nat) | plain (x : Str) (j : Nat)
end
end G

set_option Elab.async false
set_option linter.all false
set_option maxRecDepth 100000
set_option maxHeartbeats 4000000
/-! What a head tells of such classes; the head's own Hook. -/
namespace G
open PySem PySem.Spec PyProof.Rows L2
open NdefX
section
open PySem.W
def xcB (K : Frag) (x : Str) (newId : String) (bmB : List Value) : Bool :=
  excInitIn K (He.ga K x) bmB newId && (excOver K (He.ga K x) bmB && (hasDictIn K (He.ga K x) && (decide (findIn K (.ref (He.ga K x)) "__setattr__" = some (some (.builtin "object.__setattr__"))) &&
    (decide (subIn K (.ref (He.ga K x)) (.type "BaseException") = some true) && (decide (typeIn K (.ref (He.ga K x)) = some (.type "type")) && keepIn K (.ref (He.ga K x)))))))
theorem xc_ok {K : Frag} {x : Str} {newId : String} {bmB : List Value} (h : xcB K x newId bmB = true) : XC K (He.ga K x) newId bmB := by
  unfold xcB at h
  simp only [Bool.and_eq_true, decide_eq_true_eq] at h
  obtain ⟨h1, h2, h3, h4, h5, h6, h7⟩ := h
  exact ⟨h1, h2, h3, h4, h5, h6, h7⟩
abbrev FnS : Type := Option (Str × Str × Arguments × FuncBody × Scope × Addr × List Str × Addr)
def fnS (K : Frag) (x : Str) : FnS := match K.lookup (He.ma K (He.ga K x) (Str.ofString "__init__")) with
  | some ⟨_, _, .func fd, _⟩ => some (fd.name, fd.qualname, fd.params, fd.body, fd.scope, fd.globals, fd.closure.map (·.1), fd.builtins)
  | _ => none
def fileB (K : Frag) (c : Value) (file : Str) : Bool := match c with
  | .ref a => (match K.lookup a with
    | some ⟨_, _, .fields vs, _⟩ => (match (vs[2]? : Option Value) with
      | some (Value.str x _) => file == x
      | _ => false)
    | _ => false)
  | _ => false
def cellB (K : Frag) (cl : List (Str × Addr)) (C : Addr) : Bool := match cl with
  | [(_, cc)] => (match K.lookup cc with
    | some ⟨_, _, .cell (some (.ref D)), _⟩ => decide (D = C)
    | _ => false)
  | _ => false
def noneB (v : Value) : Bool := match v with
  | .none => true
  | _ => false
def xmB (K : Frag) (file : Str) (x fld : Str) (B initId : String) : Bool := match K.lookup (He.ma K (He.ga K x) (Str.ofString "__init__")) with
  | some ⟨.type "function", _, .func fd, _⟩ => noneB fd.defaults && (noneB fd.kwdefaults && (fd.annotations.isNone && (codeIn K fd.code fd.qualname && (fileB K fd.code file && (cellB K fd.closure (He.ga K x) &&
    (decide (findIn K (.ref (He.ga K x)) (Str.ofString "__init__") = some (some (.ref (He.ma K (He.ga K x) (Str.ofString "__init__"))))) && (decide (nsIn K cStatics "thirdparty.any" = some none) &&
      (decide (ks_superIn K (He.ga K x) (He.ga K x) (Str.ofString "__init__") = some (some (.builtin initId))) && (decide (subIn K (.ref (He.ga K x)) (.type B) = some true) && ((clsIn K (He.ga K x)).isSome && (decide (mroIn K (He.ga K x) (.ref (He.ga K x)) = some true) &&
        decide (takerIn K (He.ga K x) fld = some none))))))))))))
  | _ => false
theorem noneB_ok {v : Value} (h : noneB v = true) : v = .none := by cases v <;> first | rfl | cases h
theorem xm_ok {P : Program} {K : Frag} {x fld qual : Str} {B initId : String} {params : Arguments} {body : List Stmt} {scope : Scope} (h : xmB K P.main.file x fld B initId = true)
    (e : fnS K x = some (Str.ofString "__init__", qual, params, .stmts body, scope, mainGlobals, [Str.ofString "__class__"], builtinsNs)) (nosup : (P.main.scope.names.lookup (Str.ofString "super")).isSome = false) :
    takerIn K (He.ga K x) fld = some none ∧ ∃ (cc : Addr) (F : NF), F.params = params ∧ F.body = body ∧ F.scope = scope ∧ XM P K (He.ga K x) (He.ma K (He.ga K x) (Str.ofString "__init__")) cc F B initId := by
  unfold xmB at h
  unfold fnS at e
  split at h
  · rename_i od fd osl lk
    rw [lk] at e
    simp only [Bool.and_eq_true, decide_eq_true_eq, Option.isNone_iff_eq_none] at h
    obtain ⟨h1, h2, h3, h4, h5, h6, h7, h8, h9, h10, h11, h12, h13⟩ := h
    obtain ⟨name, qn, pars, bdy, sc, glb, clo, dfl, kwd, doc, pm, an, cd, ct, blt⟩ := fd
    simp only [Option.some.injEq, Prod.mk.injEq] at e
    obtain ⟨rfl, rfl, rfl, rfl, rfl, rfl, ec, rfl⟩ := e
    dsimp only at h1 h2 h3 h4 h5 h6 h13
    obtain rfl := noneB_ok h1
    obtain rfl := noneB_ok h2
    subst h3
    obtain ⟨c, rfl⟩ := He.codeIn_ref h4
    obtain ⟨⟨n, cc⟩, rfl⟩ : ∃ q, clo = [q] := by
      match clo, ec with
      | [q], _ => exact ⟨q, rfl⟩
    simp only [List.map_cons, List.map_nil, List.cons.injEq, and_true] at ec
    subst ec
    refine ⟨h13, cc, ⟨_, qn, pars, body, sc, [(_, cc)], c⟩, rfl, rfl, rfl, ⟨_, od, osl, doc, pm, ct, lk⟩, ?_, rfl, h4, ?_, h7, ?_, h8, h9, h10, Option.isSome_iff_exists.1 h11, h12, nosup⟩
    · unfold cellB at h6
      dsimp only at h6
      split at h6
      · rename_i lkc
        have h6 := of_decide_eq_true h6
        subst h6
        exact ⟨_, _, _, lkc⟩
      · cases h6
    · unfold fileB at h5
      dsimp only at h5
      split at h5
      · rename_i lkc
        split at h5
        · rename_i ev
          exact ⟨_, _, _, _, _, _, lkc, ev, h5⟩
        · cases h5
      · cases h5
    · show (K.lookup _).map (·.cls) = some (.type "function")
      rw [lk]
      rfl
  · cases h
end
/-! ### the promises of their __init__ -/
section
variable {P : Program} {w : World} {K : PySem.W.Frag} {mg : Str → Option Value} {base : Heap} {C fI cc : Addr} {F : NF} {B newId initId : String} {bmB : List Value} {p f : Str} {k : Nat}
/-- the text's form: {p!r} and words; words and {p!r}; words; words and {p} -/
inductive ArgF (p : Str) : Expr → (V → Hp → PySem.W.Frag → Prop) → Prop where
  | behind (x : Str) (q1 q2 q3 q4 : Pos) (j : Nat) (hx : x.length ≤ 1000) : ArgF p (.JoinedStr [.FormattedValue (.Name p q1) 114 none q2, .Constant (.str x) j q3] q4) (fun y H K => ReprOk K y H)
  | ahead (x : Str) (q1 q2 q3 q4 : Pos) (j : Nat) (hx : x.length ≤ 1000) : ArgF p (.JoinedStr [.Constant (.str x) j q3, .FormattedValue (.Name p q1) 114 none q2] q4) (fun y H K => ReprOk K y H)
  | words (x : Str) (q1 : Pos) (j : Nat) : ArgF p (.Constant (.str x) j q1) (fun _ _ _ => True)
theorem len_app (a b : Str) : (a ++ b).length = a.length + b.length := by
  show (a.cps ++ b.cps).size = a.cps.size + b.cps.size
  exact Array.size_append
theorem len_empty : Str.empty.length = 0 := rfl
theorem argF_ok {X : Cx} {arg : Expr} {ok : V → Hp → PySem.W.Frag → Prop} {i : Nat} (A : ArgF p arg ok) (hgd : X.A.guards = some []) (hu : X.A.units + 64 < cLine) (hN : X.N[i]? = some p) (hv : Vis X.env.scope p) (hp1 : (p == ("__debug__" : Str)) = false) (hp2 : (p == ("__classdict__" : Str)) = false) :
    ∃ tg, PE X arg tg ∧ ∀ (σ : L2.St) (H : Hp) (y : V), σ[i]? = some (some y) → ok y H X.K → tg σ H fun _ H1 => H1 = H := by
  have sz : (16001000 : Nat) ≤ sizeLine := by rw [sizeLine_eq]; decide
  cases A with
  | behind x q1 q2 q3 q4 j hx =>
    refine ⟨_, pe_joined (.cons (pe_fmtRD hgd hu (pe_var hN hv hp1 hp2)) (.cons pe_str .nil)), fun σ H y e h => ⟨y, e, h, fun z hz => ⟨z, rfl, ?_, x, rfl, ?_, rfl⟩⟩⟩
    · rw [len_app, len_empty]
      omega
    · rw [len_app, len_app, len_empty]
      omega
  | ahead x q1 q2 q3 q4 j hx =>
    refine ⟨_, pe_joined (.cons pe_str (.cons (pe_fmtRD hgd hu (pe_var hN hv hp1 hp2)) .nil)), fun σ H y e h => ⟨x, rfl, ?_, y, e, h, fun z hz => ⟨z, rfl, ?_, rfl⟩⟩⟩
    · rw [len_app, len_empty]
      omega
    · rw [len_app, len_app, len_empty]
      omega
  | words x q1 j => exact ⟨_, pe_str, fun σ H y e h => rfl⟩
/-- such a class by what is told of it -/
theorem xk_of {arg : Expr} {ok : V → Hp → PySem.W.Frag → Prop} {p0 p1 p2 p3 p4 q0 q1 q2 q3 : Pos} {ar : Arg} (FB : ExcB B newId initId bmB) (SF : PySem.StoreFacts B bmB "object.__setattr__" "object") (KF : PySem.W.KxsFacts B initId) (T : XC K C newId bmB) (M : XM P K C fI cc F B initId) (AF : ArgF p arg ok)
    (S : NScope [sSelf, p, sCls] [sSelf, p] [sCls] F.scope) (hpar : (F.params.posonlyargs ++ F.params.args).head? = some ar) (har : ar.arg = sSelf)
    (hbody : F.body = [.Expr (.Call (.Attribute (.Call (.Name (Str.ofString "super") p0) [] [] p1) (Str.ofString "__init__") p2) [arg] [] p3) p4, .Assign [.Attribute (.Name sSelf q0) f q1] (.Name p q2) q3])
    (hbind : ∀ (doc pm ct : Value) (us : List Value), us.length = 2 → bindArgs (F.fd doc pm ct) ⟨us, []⟩ = pure ([sSelf, p].zip us)) (hks : F.scope.names.lookup (Str.ofString "super") = some .globalImplicit) (hfree : mg (Str.ofString "super") = none)
    (ht : PySem.W.takerIn K C f = some none) (hint : ∀ L, interactive (envF F fI L) = false) (hsw : ∀ env : PySem.Env, swapsWith (.Call (.Attribute (.Call (.Name (Str.ofString "super") p0) [] [] p1) (Str.ofString "__init__") p2) [arg] [] p3) none p4.line env = pure false)
    (hst : ∀ env : PySem.Env, starEach [arg] env = [(false, eval arg env)])
    (hev : ∀ env : PySem.Env, ∃ pl : Sem Bool, eval (.Call (.Attribute (.Call (.Name (Str.ofString "super") p0) [] [] p1) (Str.ofString "__init__") p2) [arg] [] p3) env = (do
      let ov ← attributeBase (.Call (.Name (Str.ofString "super") p0) [] [] p1) (Str.ofString "__init__") env (eval (.Call (.Name (Str.ofString "super") p0) [] [] p1) env)
      standAt p2.atName
      let (f, first) ← holding [ov] (getMethod ov (Str.ofString "__init__") pl)
      callWith p3 f first (backTo p3 (starEach [arg] env)) [])) (hp1 : (p == ("__debug__" : Str)) = false) (hp2 : (p == ("__classdict__" : Str)) = false) : XK1 P w K mg base k C f (fun y H => ok y H K) := by
  refine ⟨⟨newId, B, initId, bmB, T, FB⟩, fI, M.ini, M.fn, fun A outer s H a y u E hr hgd e0 ha ry hok => ?_⟩
  obtain ⟨tg, hpe, hq⟩ := argF_ok (X := ncx (L2.CX P w) P w K mg base [sSelf, p, sCls] F fI A outer s H E) (i := 1) AF hgd (hr.deeper _).units rfl (.inl (S.par _ (.tail _ (.head _)))) hp1 hp2
  exact xinit_run FB SF KF T M (tg := tg) S hpar har hbody hbind hks hfree ht hint hsw hst hev hp1 hp2 hpe hr hgd e0 ha ry (hq _ H y rfl hok)
end
end G

set_option Elab.async false
set_option linter.all false
set_option maxRecDepth 100000
set_option maxHeartbeats 4000000
/-! try with clauses of both kinds: except C, except C as n. -/
namespace G
open PySem PySem.Spec PyProof.Rows L2
/-- a clause: its class, its name's slot, what its suite reads as -/
structure Clause where
  cls : Value
  slot : Option Nat
  ts : Addr → Value → Option Addr → TS
/-- the ends of a suite whose name is gone behind it -/
abbrev endsBut (D : Ends) (i : Nat) : Ends := { nx := fun σ2 H2 => D.nx (σ2.set i none) H2, rt := D.rt, bk := fun σ2 H2 => D.bk (σ2.set i none) H2, ct := fun σ2 H2 => D.ct (σ2.set i none) H2 }
def wMix (K : PySem.W.Frag) (Wo : WX) (D : Ends) : List Clause → WX
  | [] => Wo
  | k :: r => fun cls d σ H => ∃ b, PySem.W.exmOne K cls k.cls = some b ∧
      (b = true → ∀ a, H a = none → match k.slot with
        | none => k.ts a cls d D σ H
        | some i => k.ts a cls d (endsBut D i) (σ.set i (some (.ref a))) H) ∧
      (b = false → wMix K Wo D r cls d σ H)
inductive Clauses (X : Cx) : List ExceptHandler → List Clause → Prop
  | nil : Clauses X [] []
  | plain {x : Str} {c : Value} {ts : Addr → Value → Option Addr → TS} {st0 : Stmt} {sts : List Stmt} {np hp : Pos} {hs : List ExceptHandler} {ks : List Clause} (hc : Names X x c)
      (hsu : ∀ (a : Addr) (oe : Obj) (cls : Value) (d : Option Addr) (pn : List (Addr × Obj)), Zc cls d oe → (∃ vs, oe.data = .fields vs) → PSs (X.suite a ((a, oe) :: pn)) (st0 :: sts) (ts a cls d)) (r : Clauses X hs ks) :
      Clauses X (.ExceptHandler (some (.Name x np)) none (st0 :: sts) hp :: hs) (⟨c, none, ts⟩ :: ks)
  | named {x n : Str} {i : Nat} {c : Value} {ts : Addr → Value → Option Addr → TS} {st0 : Stmt} {sts : List Stmt} {np hp : Pos} {hs : List ExceptHandler} {ks : List Clause} (hc : Names X x c) (hi : X.N[i]? = some n) (hl : X.env.kindOf n = some .local)
      (hsu : ∀ (a : Addr) (oe : Obj) (cls : Value) (d : Option Addr) (pn : List (Addr × Obj)), Zc cls d oe → (∃ vs, oe.data = .fields vs) → PSs (X.suite a ((a, oe) :: pn)) (st0 :: sts) (ts a cls d)) (r : Clauses X hs ks) :
      Clauses X (.ExceptHandler (some (.Name x np)) (some n) (st0 :: sts) hp :: hs) (⟨c, some i, ts⟩ :: ks)
section
variable {X : Cx} {body : List Stmt} {h1 : ExceptHandler} {hs : List ExceptHandler} {ks : List Clause} {pos : Pos} {tb : WX → TS} {Wo : WX}
theorem ps_try_mix (hst : X.stack = X.env :: X.outer) (hfr : X.env.frame = some X.env.locals) (hN : X.N.Nodup) (tk : Takes X Wo)
    (hb : ∀ (W : WX) (pn : List (Addr × Obj)) (xe : Value → Shared → Prop), Takes (X.tr pn xe) W → PassesOwn (model X.prog X.w) X.A X.env xe → PSs (X.tr pn xe) body (tb W)) (hk : Clauses X (h1 :: hs) ks) :
    PS X (.Try body (h1 :: hs) [] [] pos) (fun D σ H => tb (wMix X.K Wo D ks) D σ H) := by
  refine ⟨fun pins s σ H D I h => ?_⟩
  have okX := I.ok
  have frames : X.A.frames = some (X.env :: X.outer) := by rw [okX.frames, hst]
  refine wpAny_Try_except (wpAny_mono ((hb (wMix X.K Wo D ks) (X.pn ++ pins) (fun e sa => wpAny (model X.prog X.w) X.A (noteFrame e X.env) (fun _ sb => wpAny (model X.prog X.w) X.A (setFlight e none) (fun _ sc =>
    wpAny (model X.prog X.w) X.A (handleBy e X.env (h1 :: hs)) (SP X pins D) X.xe sc) X.xe sb) X.xe sa) (fun u s2 caught => ?_) PassesOwn.looking).run [] s σ H D (I.toTry _) h) (fun fl s2 done => ?_) (fun e s2 he => he))
  · obtain ⟨a, B, sI, pins2, σ2, H2, cls, d, rfl, JT, nb, up, sky, na, os, ag, wish⟩ := caught
    have J := JT.ofTry okX
    rw [hst] at sky
    refine Sky.land Zc.steady frames hfr sky fun h3 fl3 up3 => ?_
    have J3 : Inv X pins σ2 H2 { s2 with heap := h3 } := J.landed nb fl3.1 (up.trans up3) os ag
    obtain ⟨oe, vs, ge, zc, dat⟩ := fl3.there
    have off : a ∉ frs (X.env :: X.outer) := fun m => by
      obtain ⟨_, o2, g2, no⟩ := fl3.2.2.1.mem m
      rw [ge] at g2
      cases g2
      exact no _ dat
    have offL : a ≠ X.env.locals := fun z => off (List.mem_filterMap.mpr ⟨X.env, .head _, by rw [hfr, z]⟩)
    have offF : a ∉ X.fs := fun m => by
      obtain ⟨e, me, q⟩ := List.mem_filterMap.mp m
      exact off (List.mem_filterMap.mpr ⟨e, .tail _ me, q⟩)
    have S3 := J3.suite ge dat na offL offF
    have look : PySem.W.Looks (model X.prog X.w) h3 (typeOf (.ref a)) cls := fun A Q E s k q => wpAny_typeOf_ref (k _ _ ge) (by rw [zc.1]; exact q)
    have name : ∀ {x : Str} {c : Value} {np : Pos} {Q : Value → Shared → Prop} {E : Value → Shared → Prop}, Names X x c → Q c { s2 with heap := h3 } → wpAny (model X.prog X.w) (X.A.mark (some (.ref a))) (eval (.Name x np) X.env) Q E { s2 with heap := h3 } := fun {x c np Q E} nm q => by
      obtain ⟨g1, g2, g3 | ⟨g3, g4, g5⟩⟩ := nm
      · exact ld_glob (X := X.suite a ((a, oe) :: (X.pn ++ pins))) S3 g1 g3 q g2
      · exact ld_blt (X := X.suite a ((a, oe) :: (X.pn ++ pins))) S3 g1 g3 g4 q g5 g2
    have settle : ∀ {A' : Around} {E' : Value → Shared → Prop} {Q : Unit → Shared → Prop}, (∀ h4, (∃ oe4, h4.get? a = some oe4 ∧ Zc cls d oe4 ∧ ∃ ws, oe4.data = .fields ws) → (∀ oe4, h4.get? a = some oe4 → Zc cls d oe4 → (∃ ws, oe4.data = .fields ws) → Inv (X.suite a ((a, oe4) :: (X.pn ++ pins))) [] σ2 H2 { s2 with heap := h4 }) → Q () { s2 with heap := h4 }) →
        wpAny (model X.prog X.w) A' (setFlight (.ref a) none) Q E' { s2 with heap := h3 } := fun {A' E' Q} q => by
      refine HandSPX.lands_againZ fl3 fun h4 fl4 up4 => ?_
      have J4 : Inv X pins σ2 H2 { s2 with heap := h4 } := J.landed nb fl4.1 ((up.trans up3).trans up4) os ag
      obtain ⟨o4, v4, g4, z4, d4⟩ := fl4.there
      refine q h4 ⟨o4, g4, z4, v4, d4⟩ fun oe4 g z ⟨ws, dw⟩ => J4.suite g dw na offL offF
    have go : ∀ {hs2 : List ExceptHandler} {ks2 : List Clause}, Clauses X hs2 ks2 → wMix X.K Wo D ks2 cls d σ2 H2 → wpAny (model X.prog X.w) X.A (handleBy (.ref a) X.env hs2) (SP X pins D) X.xe { s2 with heap := h3 } := by
      intro hs2 ks2 all
      induction all with
      | nil =>
        intro wo
        refine wpAny_handleBy_nil ?_
        obtain ⟨_, _, _, o5, v5, T5, oT, t5, g5, z5, d5, r5, _⟩ := id fl3
        unfold PySem.passOn
        refine wpAny_bind (wpAny_field g5 d5 r5 ?_)
        rw [if_neg (show ¬ ((Value.ref T5 == Value.none) = true) from by simp)]
        have away : wpAny (model X.prog X.w) X.A (setFlight (.ref a) X.env.frame) (fun _ s6 => wpAny (model X.prog X.w) X.A (throw (.ref a) : Sem Flow) (SP X pins D) X.xe s6) X.xe { s2 with heap := h3 } := by
          rw [hfr]
          refine HandSPX.setFlight_upZ fl3 fun h6 held6 up6 => wpAny_throw (tk _ _ ⟨a, B, sI, pins, σ2, H2, cls, d, rfl, J, nb, (up.trans up3).trans up6, .inr (.inr (by rw [hst]; exact held6)), na, os, ag, wo⟩)
        first
          | exact wpAny_bind (wpAny_pure (wpAny_bind away))
          | exact wpAny_bind away
      | @plain x c ts st0 sts np hp hs3 ks3 hc hsu r ih =>
        intro wish
        obtain ⟨b, hb1, yes, no⟩ := wish
        refine wpAny_handleBy_cons (codeAny_handlers_test ?_) (by intro q; cases q)
        refine name hc ((PySem.W.exm_one (M := model X.prog X.w) J3.kIn look hb1).here ?_)
        cases b with
        | false => exact ih (no rfl)
        | true =>
          refine codeAny_handlers_suite ?_
          refine settle fun h4 ⟨oe4, g4, z4, w4⟩ S4 => ?_
          refine wpAny_mono ((hsu a oe4 cls d (X.pn ++ pins) z4 w4).run [] _ _ H2 _ (S4 oe4 g4 z4 w4) (yes rfl a na)) (fun f7 s7 e7 => ?_) (fun _ _ z => False.elim z)
          cases f7 with
          | next => exact e7.elim fun _ e7 => e7.elim fun _ e7 => ⟨_, _, e7.1.unsuite okX, e7.2⟩
          | brk => exact e7.elim fun _ e7 => e7.elim fun _ e7 => ⟨_, _, e7.1.unsuite okX, e7.2⟩
          | cont => exact e7.elim fun _ e7 => e7.elim fun _ e7 => ⟨_, _, e7.1.unsuite okX, e7.2⟩
          | ret u => exact e7.elim fun _ e7 => e7.elim fun _ e7 => e7.elim fun _ e7 => ⟨_, _, _, e7.1.unsuite okX, e7.2⟩
      | @named x n i c ts st0 sts np hp hs3 ks3 hc hi hl hsu r ih =>
        intro wish
        obtain ⟨b, hb1, yes, no⟩ := wish
        refine wpAny_handleBy_cons (codeAny_handlers_test ?_) (by intro q; cases q)
        refine name hc ((PySem.W.exm_one (M := model X.prog X.w) J3.kIn look hb1).here ?_)
        cases b with
        | false => exact ih (no rfl)
        | true =>
          refine codeAny_handlers_suite_as ?_
          refine settle fun h4 ⟨oe4, g4, z4, w4⟩ S4 => ?_
          refine store_ok (X := X.suite a ((a, oe4) :: (X.pn ++ pins))) (v := .ref a) (S4 oe4 g4 z4 w4) hN hi (.inl hl) rfl (fun s5 S5 => ?_) (.inr hl)
          have gone : ∀ {σ7 : L2.St} {H7 : Hp} {s7 : Shared} {Q : Shared → Prop}, Inv (X.suite a ((a, oe4) :: (X.pn ++ pins))) [] σ7 H7 s7 → (∀ s8, Inv X pins (σ7.set i none) H7 s8 → Q s8) →
              wpAny (model X.prog X.w) X.A (do bindName X.env n .none; unbindBehindTheSuite X.env n hp) (fun _ s8 => Q s8) X.xe s7 := fun S7 q => gone_ok (S7.unsuite okX) hN hi hl q
          refine wpAny_mono ((hsu a oe4 cls d (X.pn ++ pins) z4 w4).run [] s5 _ H2 _ S5 (yes rfl a na)) (fun f7 s7 e7 => ?_) (fun _ _ z => False.elim z)
          cases f7 with
          | next => exact e7.elim fun _ e7 => e7.elim fun _ e7 => gone e7.1 fun s8 J8 => ⟨_, _, J8, e7.2⟩
          | brk => exact e7.elim fun _ e7 => e7.elim fun _ e7 => gone e7.1 fun s8 J8 => ⟨_, _, J8, e7.2⟩
          | cont => exact e7.elim fun _ e7 => e7.elim fun _ e7 => gone e7.1 fun s8 J8 => ⟨_, _, J8, e7.2⟩
          | ret u => exact e7.elim fun _ e7 => e7.elim fun _ e7 => e7.elim fun _ e7 => gone e7.1 fun s8 J8 => ⟨_, _, _, J8, e7.2⟩
    exact go hk wish
  · cases fl with
    | next => exact done.elim fun _ e => e.elim fun _ e => wpAny_execs_nil ⟨_, _, e.1.ofTry okX, e.2⟩
    | brk => exact done.elim fun _ e => e.elim fun _ e => ⟨_, _, e.1.ofTry okX, e.2⟩
    | cont => exact done.elim fun _ e => e.elim fun _ e => ⟨_, _, e.1.ofTry okX, e.2⟩
    | ret u => exact done.elim fun _ e => e.elim fun _ e => e.elim fun _ e => ⟨_, _, _, e.1.ofTry okX, e.2⟩
end
end G

set_option Elab.async false
set_option linter.all false
set_option maxRecDepth 100000
set_option maxHeartbeats 4000000
/-! Raising and catching over the mirrors. -/
namespace G
open PySem PySem.Spec PyProof.Rows L2
def okRepr (d : D) (st : Sto) : Bool := reprB (vw st d)
def okAny (_ : D) (_ : Sto) : Bool := true
/-- raise C(e), C's own __init__ keeping f -/
def sRaiseX (k : Nat) (f : Str) (okD : D → Sto → Bool) (fe : Ev) : EvS := fun ρ st => (fe ρ st).into ρ fun d st1 => if okD d st1 then .exc ⟨k, [(f, d)]⟩ ρ st1 else .bad
/-- raise C('..') -/
def sRaise (k : Nat) : EvS := fun ρ st => .exc ⟨k, []⟩ ρ st
def GivesOk (C : Cfg) (okD : D → Sto → Bool) (ok : V → Hp → Prop) : Prop := ∀ (η : List Addr) (st : Sto) (H : Hp) (d : D) (v : V), StOk C η st H → Rep C η H d v → okD d st = true → ok v H
theorem gives_repr {C : Cfg} : GivesOk C okRepr (fun y H => ReprOk C.K y H) := by
  intro η st H d v k r h
  unfold okRepr at h
  obtain ⟨l1, l2, l3, l4⟩ := vw_da k h r
  exact ⟨_, l1, l2, l3, Nat.le_trans l4 (by decide)⟩
theorem gives_any {C : Cfg} : GivesOk C okAny (fun _ _ => True) := fun _ _ _ _ _ _ _ _ => trivial
section
variable {X : Cx} {C : Cfg} {Ca : Addr} {k j : Nat} {f x : Str} {ok : V → Hp → Prop} {okD : D → Sto → Bool} {e : Expr} {fe : Ev} {np pos rp : Pos}
theorem SS.raiseX (T : XK1 X.prog X.w X.K X.mg X.base j Ca f ok) (hgl : C.gl k = some Ca) (hok : GivesOk C okD ok) (hc : X.calm = true) (hr : Room (j + 2) X.A) (hgd : X.A.guards = some []) (hm : X.mg x = some (.ref Ca)) (he : SE X C e fe) (hg : Gl X x := by rfl)
    (hdb : (x == ("__debug__" : Str)) = false := by decide) (hst : starEach [e] X.env = [(false, eval e X.env)] := by rfl) : SS X C (.Raise (some (.Call (.Name x np) [e] [] pos)) none rp) (sRaiseX k f okD fe) := ⟨fun W tk => PS_imp (ps_raise hc tk (pmk_x T hr hgd hg hm (he.run W tk) hdb hst)) fun D σ H ⟨η, ρ, st, ko, en, p⟩ =>
  ⟨η, ρ, st, ko, en, PostS.into (R := Rep C) (r := fe ρ st) p en fun d st1 v η1 H1 _ s1 k1 r1 p1 => by
    split at p1
    · rename_i h
      refine ⟨fun a na => hok η1 st1 _ d v (k1.new na) (r1.mono (Step.new na)) h, fun a na => ?_⟩
      have n1 : a ∉ η1 := fun z => by
        obtain ⟨u, e⟩ := k1.there z
        rw [na] at e
        cases e
      exact p1 (.ref Ca) (some a) σ η1 _ (Step.new na) (k1.new na) ((en.mono s1).mono (Step.new na)) ⟨⟨Ca, hgl, rfl⟩, .inr ⟨a, [(f, v)], rfl, n1, fun z => k1.cold z na, upd_same, rfl, RepL.one (r1.mono (Step.new na))⟩⟩
    · exact p1.elim⟩⟩
theorem SS.raiseT {m : Str} {i : Nat} {p2 : Pos} {B newId initId : String} {bmB : List Value} (F : PySem.ExcBaseFacts B newId initId bmB) (q : PySem.W.excIn X.K Ca bmB newId = true) (kC : PySem.W.keepIn X.K (.ref Ca) = true) (r : Raises X (.ref Ca)) (hgl : C.gl k = some Ca) (hc : X.calm = true)
    (hm : X.mg x = some (.ref Ca)) (hg : Gl X x := by rfl) (hdb : (x == ("__debug__" : Str)) = false := by decide) : SS X C (.Raise (some (.Call (.Name x np) [.Constant (.str m) i p2] [] pos)) none rp) (sRaise k) := ⟨fun W tk => PS_imp (ps_raise hc tk (pmk_own F q hm kC r hg hdb)) fun D σ H ⟨η, ρ, st, ko, en, p⟩ =>
  p (.ref Ca) none σ η H Step.refl ko en ⟨⟨Ca, hgl, rfl⟩, .inl ⟨rfl, rfl⟩⟩⟩
/-- raise C(e), C without an __init__ of its own -/
def sRaiseE (k : Nat) (fe : Ev) : EvS := fun ρ st => (fe ρ st).into ρ fun _ st1 => .exc ⟨k, []⟩ ρ st1
theorem SS.raiseE {B newId initId : String} {bmB : List Value} (F : PySem.ExcBaseFacts B newId initId bmB) (q : PySem.W.excIn X.K Ca bmB newId = true) (kC : PySem.W.keepIn X.K (.ref Ca) = true) (r : Raises X (.ref Ca)) (hgl : C.gl k = some Ca) (hc : X.calm = true)
    (hm : X.mg x = some (.ref Ca)) (he : SE X C e fe) (hg : Gl X x := by rfl) (hst : starEach [e] X.env = (false, eval e X.env) :: starEach [] X.env := by rfl) (hdb : (x == ("__debug__" : Str)) = false := by decide) : SS X C (.Raise (some (.Call (.Name x np) [e] [] pos)) none rp) (sRaiseE k fe) := ⟨fun W tk => PS_imp (ps_raise hc tk (SkE.pmk_own1 F q hm kC r hg (he.run W tk) hst hdb)) fun D σ H ⟨η, ρ, st, ko, en, p⟩ =>
  ⟨η, ρ, st, ko, en, PostS.into (R := Rep C) (r := fe ρ st) p en fun d st1 v η1 H1 _ s1 k1 r1 p1 => p1 (.ref Ca) none σ η1 H1 Step.refl k1 (en.mono s1) ⟨⟨Ca, hgl, rfl⟩, .inl ⟨rfl, rfl⟩⟩⟩⟩
/-! ### try, its clauses' suites of two forms -/
inductive Cz where
  | txt (k : Nat) (s : List Nat)
  | fld (k v : Nat) (s : List Nat) (f : Str)
def goCz (sub : Nat → Nat → Bool) (x : Exc) (ρ : Env) (st : Sto) : List Cz → RS
  | [] => .exc x ρ st
  | .txt k s :: r => if sub x.cls k then .ok (.rt (.str s)) st else goCz sub x ρ st r
  | .fld k v s f :: r => if sub x.cls k then (match x.fs.lookup f with
      | some d => if okRepr d st && (big s.length && Nat.blt v ρ.length) then .ok (.rt (.str (s ++ shown (vw st d)))) st else .bad
      | none => .bad) else goCz sub x ρ st r
def sTry (sub : Nat → Nat → Bool) (body : EvS) (cz : List Cz) : EvS := fun ρ st => match body ρ st with
  | .exc x ρ1 st1 => goCz sub x ρ1 st1 cz
  | r => r
/-- the clauses' classes are these, their subclasses as told -/
def Cz.no : Cz → Nat
  | .txt k _ => k
  | .fld k _ _ _ => k
def SubOk (K : PySem.W.Frag) (gl : Nat → Option Addr) (sub : Nat → Nat → Bool) : Prop := ∀ i j a c, gl i = some a → gl j = some c → sub j j = true → PySem.W.exmOne K (.ref a) (.ref c) = some (sub i j)
inductive SC (X : Cx) (C : Cfg) : List ExceptHandler → List Cz → Prop
  | nil : SC X C [] []
  | txt {k : Nat} {x : Str} {s : List Nat} {a : Addr} {i : Nat} {p1 p2 p3 p4 : Pos} {hs : List ExceptHandler} {cz : List Cz} (hgl : C.gl k = some a) (hm : X.mg x = some (.ref a)) (hg : Gl X x) (hdb : (x == ("__debug__" : Str)) = false) (r : SC X C hs cz) :
      SC X C (.ExceptHandler (some (.Name x p1)) none [.Return (some (.Constant (.str ⟨s.toArray⟩) i p2)) p3] p4 :: hs) (.txt k s :: cz)
  | fld {k : Nat} {x n f : Str} {s : List Nat} {a : Addr} {i v : Nat} {p1 p2 p3 p4 p5 p6 p7 p8 p9 : Pos} {hs : List ExceptHandler} {cz : List Cz} (hgl : C.gl k = some a) (hm : X.mg x = some (.ref a)) (hg : Gl X x) (hdb : (x == ("__debug__" : Str)) = false) (hv : X.N[v]? = some n) (hl : X.env.kindOf n = some .local) (hd1 : (n == ("__debug__" : Str)) = false) (hd2 : (n == ("__classdict__" : Str)) = false)
      (T : XfC X.K a) (hno : PySem.W.findIn X.K (.ref a) f = some none) (leaf : ∀ j b, C.gl j = some b → PySem.W.exmOne X.K (.ref b) (.ref a) = some true → b = a) (r : SC X C hs cz) :
      SC X C (.ExceptHandler (some (.Name x p1)) (some n) [.Return (some (.BinOp (.Constant (.str ⟨s.toArray⟩) i p2) .Add (.Call (.Name (Str.ofString "repr") p3) [.Attribute (.Name n p4) f p5] [] p6) p7)) p8] p9 :: hs) (.fld k v s f :: cz)
theorem lookup_rep {C : Cfg} {η : List Addr} {H : Hp} {f : Str} {d : D} : ∀ {fs : List (Str × D)} {us : List (Str × V)}, us.map (·.1) = fs.map (·.1) → RepL C η H (fs.map (·.2)) (us.map (·.2)) → fs.lookup f = some d → ∃ v, us.lookup f = some v ∧ Rep C η H d v
  | [], _, _, _, h => by cases h
  | (g, e) :: fs, [], h1, _, _ => by cases h1
  | (g, e) :: fs, (g2, u) :: us, h1, h2, h3 => by
    simp only [List.map_cons, List.cons.injEq] at h1
    obtain ⟨rfl, h1⟩ := h1
    rw [List.map_cons, List.map_cons, RepL] at h2
    obtain ⟨v, r, e1, e2, e3⟩ := h2
    cases e1
    rw [List.lookup_cons] at h3 ⊢
    split at h3
    · cases h3
      exact ⟨_, rfl, e2⟩
    · exact lookup_rep h1 e3 h3
theorem clauses_of {hs : List ExceptHandler} {cz : List Cz} {sub : Nat → Nat → Bool} (hK : X.K = C.K) (hgd : X.A.guards = some []) (hu : X.A.units + 64 < cLine) (hrep : X.mg (Str.ofString "repr") = none) (grep : X.env.scope.names.lookup (Str.ofString "repr") = some .globalImplicit ∨ ∀ k v s f, Cz.fld k v s f ∉ cz) (hsub : SubOk X.K C.gl sub) (hc : SC X C hs cz) (hcz : (cz.all fun z => sub z.no z.no) = true) :
    ∃ ks, Clauses X hs ks ∧ ∀ (W : WX) (D : Ends) (x : Exc) (ρ : Env) (st : Sto) (η : List Addr) (H : Hp) (c : Value) (d : Option Addr) (σ : L2.St), PostS C W η H (goCz sub x ρ st cz) D → StOk C η st H → EnvOk C η H ρ σ → RepX C η H x c d → wMix X.K W D ks c d σ H := by
  induction hc with
  | nil => exact ⟨[], .nil, fun W D x ρ st η H c d σ p k en rx => p c d σ η H Step.refl k en rx⟩
  | @txt kk x s a i p1 p2 p3 p4 hs cz hgl hm hg hdb r ih =>
    rw [List.all_cons, Bool.and_eq_true] at hcz
    obtain ⟨hself, hcz⟩ := hcz
    have hself : sub kk kk = true := hself
    obtain ⟨ks, h1, h2⟩ := ih (grep.imp id fun h k v s f z => h k v s f (.tail _ z)) hcz
    refine ⟨_, .plain (ts := fun _ _ _ => tRet (tC (.str ⟨s.toArray⟩))) ⟨hg, hdb, .inl hm⟩ (fun a oe cls d pn _ _ => pss_one (ps_ret pe_str)) h1, fun W D x ρ st η H c d σ p k en rx => ?_⟩
    obtain ⟨b, hb, rfl⟩ := rx.1
    refine ⟨_, hsub _ _ _ _ hb hgl hself, fun ht a na => ?_, fun hf => h2 W D x ρ st η H _ d σ ?_ k en rx⟩
    · rw [goCz, if_pos ht] at p
      exact p (.str ⟨s.toArray⟩) η H Step.refl k (by rw [Rep])
    · rw [goCz, hf] at p
      exact p
  | @fld kk x n f s a i v p1 p2 p3 p4 p5 p6 p7 p8 p9 hs cz hgl hm hg hdb hv hl hd1 hd2 T hno leaf r ih =>
    have grp : X.env.scope.names.lookup (Str.ofString "repr") = some .globalImplicit := grep.elim id fun h => (h kk v s f (.head _)).elim
    rw [List.all_cons, Bool.and_eq_true] at hcz
    obtain ⟨hself, hcz⟩ := hcz
    have hself : sub kk kk = true := hself
    obtain ⟨ks, h1, h2⟩ := ih (.inl grp) hcz
    refine ⟨_, .named (i := v) (ts := fun a2 cls d => tRet (tOp (rAddAll X.K) (tC (.str ⟨s.toArray⟩)) (tCB (rRepr X.K) (tCons (tXf a2 cls d a f (tVar v)) tNil)))) ⟨hg, hdb, .inl hm⟩ hv hl (fun a2 oe cls d pn hz hf => pss_one (ps_ret (pe_op (X := X.suite a2 ((a2, oe) :: pn)) (op_addAll (X := X.suite a2 ((a2, oe) :: pn))) pe_str (pe_callB (call_reprD (X := X.suite a2 ((a2, oe) :: pn)) hgd hu) grp hrep bb_repr (pa_cons (pe_xf (X := X) T hno hz hf (pe_var (X := X.suite a2 ((a2, oe) :: pn)) hv (.inl hl) hd1 hd2)) pa_nil))))) h1, fun W D x ρ st η H c d σ p k en rx => ?_⟩
    obtain ⟨b, hb, rfl⟩ := rx.1
    refine ⟨_, hsub _ _ _ _ hb hgl hself, fun ht a na => ?_, fun hf => h2 W D x ρ st η H _ d σ ?_ k en rx⟩
    · rw [goCz, if_pos ht] at p
      have hba : b = _ := leaf _ _ hb (by rw [hsub _ _ _ _ hb hgl hself, ht])
      subst hba
      cases q : x.fs.lookup f with
      | none =>
        rw [q] at p
        exact p.elim
      | some e =>
        rw [q] at p
        dsimp only at p
        split at p
        · rename_i hok
          rw [Bool.and_eq_true] at hok
          obtain ⟨hok, hbig⟩ := hok
          rw [Bool.and_eq_true] at hbig
          obtain ⟨hbig, hlt⟩ := hbig
          unfold okRepr at hok
          rcases rx.2 with ⟨z, _⟩ | ⟨da, us, rfl, n1, n2, hd, e1, e2⟩
          · rw [z] at q
            cases q
          obtain ⟨y, ly, ry⟩ := lookup_rep e1 e2 q
          have iv : v < σ.length := by
            rw [← en.len]
            exact Nat.le_of_ble_eq_true hlt
          have sz : (100000 : Nat) + 1000000 ≤ sizeLine := by rw [sizeLine_eq]; decide
          have hs1 : s.length ≤ 100000 := Nat.le_of_ble_eq_true hbig
          obtain ⟨l1, l2, l3, shl⟩ := vw_da k hok ry
          refine ⟨.ref a, by rw [List.getElem?_set_self iv], rfl, rfl, da, us, y, rfl, hd, ly, ⟨y, _, rfl, ?_, l2, l3, by omega, .inr (.inl ⟨_, _, rfl, rfl, ?_, p (.str _) η H Step.refl k ?_⟩)⟩⟩
          · rw [hK]
            exact l1
          · have : (⟨s.toArray⟩ : Str).length = s.length := by simp [Str.length]
            omega
          · rw [Rep, ← str_app]
            unfold shown
            simp
        · exact p.elim
    · rw [goCz, hf] at p
      exact p
theorem SS.try_ {body : List Stmt} {g : EvS} {h1 : ExceptHandler} {hs : List ExceptHandler} {cz : List Cz} {sub : Nat → Nat → Bool} (hst : X.stack = X.env :: X.outer) (hfr : X.env.frame = some X.env.locals) (hN : X.N.Nodup) (hK : X.K = C.K) (hgd : X.A.guards = some []) (hu : X.A.units + 64 < cLine) (hrep : X.mg (Str.ofString "repr") = none)
    (grep : X.env.scope.names.lookup (Str.ofString "repr") = some .globalImplicit ∨ ∀ k v s f, Cz.fld k v s f ∉ cz) (hsub : SubOk X.K C.gl sub) (hcz : (cz.all fun z => sub z.no z.no) = true) (hc : SC X C (h1 :: hs) cz)
    (hb : ∀ (pn : List (Addr × Obj)) (xe : Value → Shared → Prop), PassesOwn (model X.prog X.w) X.A X.env xe → SB (X.tr pn xe) C body g) : SS X C (.Try body (h1 :: hs) [] [] pos) (sTry sub g cz) := ⟨fun W tk => by
  obtain ⟨ks, hk, hw⟩ := clauses_of hK hgd hu hrep grep hsub hc hcz
  refine PS_imp (ps_try_mix hst hfr hN tk (fun W2 pn xe tk2 pass => (hb pn xe pass).run W2 tk2) hk) fun D σ H ⟨η, ρ, st, k, en, p⟩ => ⟨η, ρ, st, k, en, ?_⟩
  unfold sTry at p
  cases q : g ρ st with
  | ok o st1 =>
    rw [q] at p
    cases o <;> exact p
  | bad =>
    rw [q] at p
    exact p.elim
  | exc x ρ1 st1 =>
    rw [q] at p
    intro c d σ1 η1 H1 s1 k1 en1 rx
    exact hw W D x ρ1 st1 η1 H1 c d σ1 (p.step s1) k1 en1 rx⟩
end
end G

set_option Elab.async false
set_option linter.all false
set_option maxRecDepth 100000
set_option maxHeartbeats 4000000
/-! Lambdas: made, told as values. -/
namespace G
open PySem PySem.Spec PyProof.Rows L2
open LamX
theorem lamO_ok {P : Program} {w : World} {H : Hp} {h : Heap} {a c : Addr} {t : LamT} {pm ct : Value} (e : h.get? a = some (PySem.W.kla_obj "<lambda>" t.qual t.params t.body t.scope t.cells pm c ct)) : ObjOk P w H h a (LamO a c t) :=
  ⟨⟨pm, ct, e⟩, ⟨_, e⟩, fun h1 h2 z k => by
    obtain ⟨p, q, r⟩ := z
    exact ⟨p, q, k _ r⟩⟩
section
variable {X : Cx} {pins : List (Addr × Obj)} {σ : L2.St} {H : Hp} {s : Shared} {T : List (Addr × Str)} {c P : Addr} {params : Arguments} {body : Expr} {scope : Scope} {pos : Pos} {E : Value → Shared → Prop} {Q : Value → Shared → Prop}
theorem lam_new (I : Inv X pins σ H s) (TB : TabB X.base X.mg c P) (hcode : X.env.code = .ref c) (hm : (P, X.env.qual ++ "<lambda>") ∈ T) (hu : ∀ p ∈ T, p.1 = P → p.2 = X.env.qual ++ "<lambda>") (hT : Tabs T H) (hdef : defaultsOf params X.env = ([], []))
    (hfree : ∀ y ∈ scope.names, y.2 = .free → ∃ c, X.env.cells.lookup y.1 = some c)
    (h : ∀ (f c' : Addr) (H1 : Hp) (s' : Shared), Inv X pins σ H1 s' → ExtN H H1 → Tabs T H1 → (∀ b, H1 b = none → H b = none) → H f = none → H1 f = some (LamO f c' ⟨X.env.qual ++ "<lambda>", params, body, scope, cloFrom X.env.cells scope.names []⟩) → H1 c' = some (CodeO c' (X.env.qual ++ "<lambda>")) → (∀ b o, H b = some o → (∀ ps, o ≠ .tbl ps) → b ≠ f) → Q (.ref f) s') :
    wpAny (model X.prog X.w) X.A (eval (.Lambda params body scope pos) X.env) Q E s := by
  obtain ⟨ps, hP, ht, ha⟩ := hT _ hm
  refine PySem.W.kla_eval hdef ?_
  have bP : s.heap.BuiltinsAt X.mg P := TB.bm.keeps I.bk
  have hP' : s.heap.get? P = some { cls := .none, data := .fields ps } := I.hok P _ hP
  have last : ∀ (H2 : Hp) (h2 : Heap) (tk : Nat) (c' : Addr) (pm ctv : Value), Inv X pins σ H2 { s with heap := h2, toks := tk } → s.heap.objs.size ≤ h2.objs.size → ExtN H H2 → Tabs T H2 → (∀ b, H2 b = none → H b = none) → H2 c' = some (CodeO c' (X.env.qual ++ "<lambda>")) →
      Q (.ref h2.objs.size) { s with heap := h2.push (PySem.W.kla_obj "<lambda>" (X.env.qual ++ "<lambda>") params body scope (cloFrom X.env.cells scope.names []) pm c' ctv), toks := tk } := by
    intro H2 h2 tk c' pm ctv I2 sz ex T2 dom co
    have nf : H2 h2.objs.size = none := I2.hok.fresh (Nat.le_refl _)
    have nfH : H h2.objs.size = none := I.hok.fresh sz
    have I3 := I2.laid (t' := tk) (a := h2.objs.size) (o := LamO h2.objs.size c' ⟨X.env.qual ++ "<lambda>", params, body, scope, cloFrom X.env.cells scope.names []⟩)
      (h' := h2.push (PySem.W.kla_obj "<lambda>" (X.env.qual ++ "<lambda>") params body scope (cloFrom X.env.cells scope.names []) pm c' ctv)) (fun b o e => Heap.get?_push_of_some _ e) (Nat.le_refl _) (lamO_ok (Heap.get?_push_size _ rfl))
    have keep : ∀ b o, H2 b = some o → upd H2 h2.objs.size (LamO h2.objs.size c' ⟨X.env.qual ++ "<lambda>", params, body, scope, cloFrom X.env.cells scope.names []⟩) b = some o := fun b o e => by
      rw [upd_ne (ne_of_none e nf)]
      exact e
    refine h h2.objs.size c' _ _ I3 (ex.trans (ExtN.of keep)) (T2.ext keep) (fun b e => dom b ?_) nfH upd_same (keep _ _ co) fun b o e n => ne_of_none (ex b o e n) nf
    rcases Decidable.em (b = h2.objs.size) with hb | hb
    · rw [hb, upd_same] at e
      cases e
    · rw [upd_ne hb] at e
      exact e
  cases hc : codeAmong pos ps.toList with
  | none =>
    refine PySem.W.kla_makeFunction (mg := X.mg) (c := c) (P := P) (ps := ps) (closure_ok hfree) I.ok.glob (I.mod.glob.keeps I.bk) hcode (TB.code.keeps I.bk) hP' ht hc TB.gP bP fun c' ctv h2 tk hx hge hlt hrec htb => ?_
    obtain ⟨c2, oc, vs, t, e2, hoc, hd, hv⟩ := hrec
    cases e2
    have nC : H c' = none := I.hok.fresh hge
    have I1 := inv_table (t' := tk) (more := #[rawInt pos.line, rawInt pos.col, .ref c']) (h' := h2) I hP hx htb hge ⟨oc, vs, t, hoc, hd, hv⟩
    have ex : ExtN H (upd (upd H P (.tbl (ps ++ #[rawInt pos.line, rawInt pos.col, .ref c']))) c' (CodeO c' (X.env.qual ++ "<lambda>"))) := fun b o e n => by
      rw [upd_ne (ne_of_none e nC), upd_ne (fun z => n ps (Option.some.inj (e.symm.trans (by rw [z]; exact hP))))]
      exact e
    have el : (ps ++ #[rawInt pos.line, rawInt pos.col, .ref c']).toList = ps.toList ++ [rawInt pos.line, rawInt pos.col, .ref c'] := by simp
    refine last _ h2 tk c' _ ctv I1 (Nat.le_trans hge (Nat.le_of_lt hlt)) ex (fun p hp => ?_) (fun b e => ?_) upd_same
    · rcases Decidable.em (p.1 = P) with hb | hb
      · rw [hu p hp hb, hb]
        refine ⟨_, by rw [upd_ne (ne_of_none hP nC), upd_same], by rw [el]; exact PySem.TriplesOk_snoc _ _ _ _ ht, fun p' cv hcv => ?_⟩
        rw [el] at hcv
        rcases among_app _ ht hcv with z | z
        · obtain ⟨c0, e1, e2⟩ := ha p' cv z
          exact ⟨c0, e1, ex _ _ e2 codeO_ne⟩
        · exact ⟨c', z, upd_same⟩
      · obtain ⟨ps', a1, a2, a3⟩ := hT p hp
        refine ⟨ps', by rw [upd_ne (ne_of_none a1 nC), upd_ne hb]; exact a1, a2, fun p' cv hcv => ?_⟩
        obtain ⟨c0, e1, e2⟩ := a3 p' cv hcv
        exact ⟨c0, e1, ex _ _ e2 codeO_ne⟩
    · rcases Decidable.em (b = c') with hb | hb
      · rw [hb, upd_same] at e
        cases e
      · rw [upd_ne hb] at e
        rcases Decidable.em (b = P) with hb2 | hb2
        · rw [hb2, upd_same] at e
          cases e
        · rw [upd_ne hb2] at e
          exact e
  | some cv =>
    obtain ⟨c', e, hco⟩ := ha pos cv hc
    subst e
    refine PySem.W.kla_makeFunctionHit (mg := X.mg) (c := c) (P := P) (ps := ps) (closure_ok hfree) I.ok.glob (I.mod.glob.keeps I.bk) hcode (TB.code.keeps I.bk) hP' ht hc bP fun ctv h2 tk hx hsz => ?_
    exact last H h2 tk c' _ ctv (I.kept hx) hsz (ExtN.refl H) hT (fun _ e => e) hco
end
/-- the lambda k of the running def -/
theorem SE.lam {X : Cx} {C : Cfg} {c P : Addr} {params : Arguments} {body : Expr} {scope : Scope} {pos : Pos} (k : Nat) (TB : TabB X.base X.mg c P) (hcode : X.env.code = .ref c) (hm : (P, X.env.qual ++ "<lambda>") ∈ C.tabs) (hu : ∀ p ∈ C.tabs, p.1 = P → p.2 = X.env.qual ++ "<lambda>")
    (hl : C.lam k = some (⟨X.env.qual ++ "<lambda>", params, body, scope, cloFrom X.env.cells scope.names []⟩, [])) (hfree : X.Ok → ∀ y ∈ scope.names, y.2 = .free → ∃ c, X.env.cells.lookup y.1 = some c) (hdef : defaultsOf params X.env = ([], []) := by rfl) :
    SE X C (.Lambda params body scope pos) (cC (.clo k [])) := ⟨fun W tk => ⟨fun pins s σ H Q I h => by
  obtain ⟨η, ρ, st, ko, en, p⟩ := h
  refine lam_new I TB hcode hm hu ko.tab hdef (hfree I.ok) fun f c' H1 s' I1 ex T1 dom nf hf hc new => ?_
  have step : Step η H η H1 := ⟨⟨[], by simp, by simp⟩, fun b o e _ n => ex b o e n, dom⟩
  have same : ∀ b ∈ η, H1 b = H b := fun b hb => by
    obtain ⟨i, hi⟩ := List.mem_iff_getElem?.mp hb
    obtain ⟨o, e, mu⟩ := ko.mut hi
    rw [e]
    exact ex b _ e mu.noTab
  have nlst : ∀ b o, H b = some o → Mut o → b ≠ f ∧ b ≠ c' := fun b o e mu => by
    refine ⟨new b _ e mu.noTab, fun z => ?_⟩
    have e2 := ex b _ e mu.noTab
    rw [z, hc] at e2
    have e3 := Option.some.inj e2
    unfold CodeO at e3
    subst e3
    exact mu
  refine ⟨.ref f, H1, I1, rfl, p (.ref f) η H1 step (ko.stay step T1 same) ?_⟩
  rw [Rep]
  refine ⟨f, _, _, rfl, hl, ⟨c', fun m => ?_, fun m => ?_, fun m => ?_, fun m => ?_, hf, hc⟩, RepL.nil⟩
  · obtain ⟨i, hi⟩ := List.mem_iff_getElem?.mp m
    obtain ⟨o, e, mu⟩ := ko.mut hi
    exact (nlst _ _ e mu).1 rfl
  · obtain ⟨_, o, e, mu⟩ := ko.hot _ m
    exact (nlst _ _ e mu).1 rfl
  · obtain ⟨i, hi⟩ := List.mem_iff_getElem?.mp m
    obtain ⟨o, e, mu⟩ := ko.mut hi
    exact (nlst _ _ e mu).2 rfl
  · obtain ⟨_, o, e, mu⟩ := ko.hot _ m
    exact (nlst _ _ e mu).2 rfl⟩⟩
end G

set_option Elab.async false
set_option linter.all false
set_option maxRecDepth 100000
set_option maxHeartbeats 4000000
/-! Lambdas called: by defs that got them. -/
namespace G
open PySem PySem.Spec PyProof.Rows L2
open LamX NdefX
abbrev lamF (q : Str) (params : Arguments) (scope : Scope) (cells : List (Str × Addr)) (c : Addr) : NF := ⟨"<lambda>", q, params, [], scope, cells, c⟩
section
variable {P : Program} {w : World} {K : PySem.W.Frag} {mg : Str → Option Value} {base : Heap} {gl : Nat → Option Addr} {tb : List (Addr × Str)} {hot : List Addr} {lam : Nat → Option (LamT × List V)} {A : Around} {outer : List PySem.Env} {s : Shared} {H : Hp} {a : Addr} {N : List Str} {q : Str} {params : Arguments} {body : Expr} {scope : Scope} {cells : List (Str × Addr)} {η : List Addr} {st : Sto} {ws : List (Option V)} {ρ : Env} {g : Ev} {k : Nat} {Q : VK} {E : XK}
theorem code_at {c : Addr} (hok : HOk P w H s.heap) (e : H c = some (CodeO c q)) : s.heap.CodeRec (.ref c) q := codeO_at hok e
/-- the call of a lambda, its captured cells as told -/
theorem lam_call (S : NScope N [] N scope) (hbind : ∀ (cl : List (Str × Addr)) (pm cv ct : Value), bindArgs (PySem.W.kla_fn "<lambda>" q params body scope cl pm cv ct) ⟨[], []⟩ = pure [])
    (hb : ∀ c, Room k (A.deeper (envF (lamF q params scope cells c) a s.heap.objs.size)) → (A.deeper (envF (lamF q params scope cells c) a s.heap.objs.size)).guards = some [] → SE (ncx (L2.CX P w) P w K mg base N (lamF q params scope cells c) a A outer s H E) ⟨K, gl, hot, lam, tb⟩ body g)
    (hr : Room (k + 1) A) (hgd : A.guards = some []) (e0 : Env0 P w K mg base A outer s H) (ca : CloAt η hot H ⟨q, params, body, scope, cells⟩ a) (Cl : CellsAt cells N ws s.heap H) (k1 : StOk ⟨K, gl, hot, lam, tb⟩ η st H) (en : EnvOk ⟨K, gl, hot, lam, tb⟩ η H ρ (startF N [] ws))
    (post : Post ⟨K, gl, hot, lam, tb⟩ (fun c d _ H' => E c d H') [] (Rep ⟨K, gl, hot, lam, tb⟩) η H (g ρ st) Q) : codeAny (model P w) A (.call (.ref a) ⟨[], []⟩) (CR (L2.CX P w) outer P w H s Q E) s := by
  obtain ⟨c, n1, n2, n3, n4, ea, ec⟩ := ca
  obtain ⟨⟨pm, ct, ho⟩, _, _⟩ := e0.hok a _ ea
  refine PySem.W.kla_callFunE hr.depth ho rfl S.co S.gen rfl (code_at e0.hok ec) ?_
  rw [hbind]
  refine wpAny_pure (wpAny_newFunctionEnv S.nocell (fun y hy => absurd hy (by simp)) (fun h₁ hns hsb => ⟨(e0.mod.nolimit.keeps fun b o e => (e0.bs b o e).1).fresh _ hsb, ?_⟩) S.kind)
  show codeAny _ _ (.expr body (envF (lamF q params scope cells c) a s.heap.objs.size)) _ _
  have kp : ∀ b o, s.heap.get? b = some o → h₁.get? b = some o := fun b o e => hsb.extBut b o (Nat.ne_of_lt (Heap.lt_size e)) (Heap.get?_push_of_some _ e)
  have J : Inv (ncx (L2.CX P w) P w K mg base N (lamF q params scope cells c) a A outer s H E) [] (startF N [] ws) H { s with heap := h₁, toks := s.toks + ([] : List (Str × Value)).length } := inv_startN (ps := []) (us := []) (vs := []) S hr.hd e0 rfl .nil Cl hns kp
  refine PySem.W.kla_codeExpr (wpAny_mono (((hb c (hr.deeper _) hgd).run (fun c d _ H' => E c d H') (takes_of rfl rfl rfl rfl)).run [] _ _ H Q J ⟨η, ρ, st, k1, en, ?_⟩) (fun v s' hq => ?_) fun e s' hq => hq)
  · cases e : g ρ st with
    | ok d st' => rw [e] at post; exact post
    | exc x st' => rw [e] at post; exact post
    | bad => rw [e] at post; exact post.elim
  · obtain ⟨v', H', J', rv, z⟩ := hq
    exact ⟨v', H', J'.os, J'.bare, J'.base, J'.hok, rv, z⟩
/-- what the lambdas in hand do, at any later state -/
def Orac (P : Program) (w : World) (K : PySem.W.Frag) (mg : Str → Option Value) (base : Heap) (gl : Nat → Option Addr) (tb : List (Addr × Str)) (lam : Nat → Option (LamT × List V)) (cl : Nat → List D → Sto → Res D) (kc : Nat) (fs : List Addr) (H : Hp) (h : Heap) : Prop :=
  ∀ (A2 : Around) (outer2 : List PySem.Env) (s2 : Shared) (H2 : Hp) (j : Nat) (a : Addr) (t : LamT) (ws : List V) (caps : List D) (Q : VK) (E : XK) (hot : List Addr) (η : List Addr) (st : Sto), Room kc A2 → A2.guards = some [] → Env0 P w K mg base A2 outer2 s2 H2 → Un fs [] H H2 h s2.heap → lam j = some (t, ws) → CloAt η hot H2 t a → RepL ⟨K, gl, hot, lam, tb⟩ η H2 caps ws →
    StOk ⟨K, gl, hot, lam, tb⟩ η st H2 → Post ⟨K, gl, hot, lam, tb⟩ (fun c d _ H' => E c d H') [] (Rep ⟨K, gl, hot, lam, tb⟩) η H2 (cl j caps st) Q → codeAny (model P w) A2 (.call (.ref a) ⟨[], []⟩) (CR (L2.CX P w) outer2 P w H2 s2 Q E) s2
/-- a def that calls lambdas that it gets -/
structure FnC (P : Program) (w : World) (K : PySem.W.Frag) (mg : Str → Option Value) (base : Heap) (gl : Nat → Option Addr) (tb : List (Addr × Str)) (kc k : Nat) (f : Addr) (fd : FuncData) (ps : List Str) (g : (Nat → List D → Sto → Res D) → Fn) : Prop where
  run : ∀ (A : Around) (outer : List PySem.Env) (s : Shared) (H : Hp) (args : Args) (us : List Value) (vs : List V) (Q : VK) (E : XK) (hot : List Addr) (lam : Nat → Option (LamT × List V)) (cl : Nat → List D → Sto → Res D) (η : List Addr) (st : Sto) (ds : List D), Room (kc + k) A → A.guards = some [] → Env0 P w K mg base A outer s H → BindsTo s fd args (ps.zip us) → Vals vs us →
    Orac P w K mg base gl tb lam cl kc (frs outer) H s.heap → StOk ⟨K, gl, hot, lam, tb⟩ η st H → RepL ⟨K, gl, hot, lam, tb⟩ η H ds vs → vs.length = ps.length → Post ⟨K, gl, hot, lam, tb⟩ (fun c d _ H' => E c d H') [] (Rep ⟨K, gl, hot, lam, tb⟩) η H (g cl ds st) Q →
    codeAny (model P w) A (.call (.ref f) args) (CR (L2.CX P w) outer P w H s Q E) s
end
/-- x(), x a lambda in hand -/
def cClo (cl : Nat → List D → Sto → Res D) (i : Nat) : Ev := fun ρ st => match ρ[i]? with
  | some (some (.clo j caps)) => cl j caps st
  | _ => .bad
theorem SE.callClo {X : Cx} {C : Cfg} {cl : Nat → List D → Sto → Res D} {kc i : Nat} {x : Str} {p1 p2 : Pos} (O : Orac X.prog X.w X.K X.mg X.base C.gl C.tabs C.lam cl kc X.fs X.H_0 X.s_0.heap) (hex : X.ex = []) (hK : X.K = C.K) (hr : Room kc X.A) (hgd : X.A.guards = some []) (hN : X.N[i]? = some x := by rfl) (hv : Vis X.env.scope x := by first | exact Or.inl rfl | exact Or.inr (Or.inl rfl) | exact Or.inr (Or.inr rfl))
    (hd : (x == ("__debug__" : Str)) = false := by decide) (hcd : (x == ("__classdict__" : Str)) = false := by decide) : SE X C (.Call (.Name x p1) [] [] p2) (cClo cl i) := ⟨fun W tk => ⟨fun pins s σ H Q I h => by
  obtain ⟨η, ρ, st, k0, en, post⟩ := h
  unfold cClo at post
  cases e : ρ[i]? with
  | none => rw [e] at post; exact post.elim
  | some o =>
    rw [e] at post
    match o, e, post with
    | some (.clo j caps), e, post =>
      dsimp only at post
      obtain ⟨v, es, rv⟩ := en.ok i _ e
      rw [Rep] at rv
      obtain ⟨a, t, ws, rfl, lt, ca, rc⟩ := rv
      refine wpAny_Call_Name_kw (thn ((pe_var (pos := p1) (i := i) hN hv hd hcd).run pins s σ H (fun v H1 => v = .ref a ∧ H1 = H) I ⟨.ref a, es, rfl, rfl⟩) fun u s1 ⟨v, H1, I1, r1, ev, eH⟩ => ?_)
      subst ev eH
      obtain rfl : u = Value.ref a := r1
      have ca2 := ca
      obtain ⟨c, n1, n2, n3, n4, ea, ec⟩ := ca2
      obtain ⟨⟨pm, ct, ho⟩, _, _⟩ := I1.hok a _ ea
      refine PySem.W.callWith_F0 ⟨_, _, _, _, ho⟩ ?_
      obtain ⟨K, gl, hot, lam, tb⟩ := C
      dsimp only at hK
      subst hK
      have un : Un X.fs [] X.H_0 H1 X.s_0.heap s1.heap := hex ▸ I1.base
      refine wpAny_call (codeAny_mono (O X.A X.stack s1 H1 j a t ws caps Q (fun c d H' => W c d σ H') hot η st hr hgd I1.env0 un lt ca rc k0 ?_) fun res s' hq => ?_)
      · cases q : cl j caps st with
        | ok d st' => rw [q] at post; exact post
        | exc x st' => rw [q] at post; exact post
        | bad => rw [q] at post; exact post.elim
      · cases res with
        | error e => exact tk e s' (XE.of_call I1 (fun _ _ _ z => z) hq)
        | ok fl =>
          cases fl with
          | ret u => exact I1.after hq
          | next => exact hq.elim
          | brk => exact hq.elim
          | cont => exact hq.elim⟩⟩
end G

set_option Elab.async false
set_option linter.all false
set_option maxRecDepth 100000
set_option maxHeartbeats 4000000
/-! Defs that get lambdas; what a waiting maker promises of its lambdas. -/
namespace G
open PySem PySem.Spec PyProof.Rows L2
open LamX NdefX
section
variable {P : Program} {w : World} {K : PySem.W.Frag} {mg : Str → Option Value} {base : Heap} {gl : Nat → Option Addr} {tb : List (Addr × Str)}
theorem FnC.of {x qual : Str} {params : Arguments} {body : List Stmt} {scope : Scope} {dvs : List V} {kws : List (Str × V)} {f : Addr} {fd : FuncData} {N ps : List Str} {kc k : Nat} {g : (Nat → List D → Sto → Res D) → EvS} (F : FunD K x qual params body scope dvs kws f fd) (S : FnScope N ps scope)
    (h : ∀ (cdv : Value) (A : Around) (outer : List PySem.Env) (s : Shared) (H : Hp) (E : XK) (hot : List Addr) (lam : Nat → Option (LamT × List V)) (cl : Nat → List D → Sto → Res D), Room (kc + k) (A.deeper (envOfC qual scope s.heap.objs.size f cdv)) → (A.deeper (envOfC qual scope s.heap.objs.size f cdv)).guards = some [] →
      Orac P w K mg base gl tb lam cl kc (frs outer) H s.heap → SB (cxOf (L2.CX P w) P w K mg base N qual scope f cdv A outer s H E) ⟨K, gl, hot, lam, tb⟩ body (g cl)) : FnC P w K mg base gl tb kc (k + 1) f fd ps (fun cl => fnD N.length (g cl)) := by
  obtain ⟨oc, od, dV, kV, doc, pm, an, cdv, ct, osl, rfl, lk, hcd, _, _⟩ := F.ex
  refine ⟨fun A outer s H args us vs Q E hot lam cl η st ds hr hgd e0 hb r O kst rds hl post => ?_⟩
  have old : ∀ b o, base.get? b = some o → s.heap.get? b = some o := fun b o e => (e0.bs b o e).1
  have KX : K.In s.heap := e0.mod.kin.keeps old
  have par : ∀ y ∈ ps.zip us, scope.names.lookup y.1 = some .local ∨ (scope.names.lookup y.1 = some .cell ∧ ((cellsFrom (s.heap.objs.size + 1) scope.names []).lookup y.1).isSome = true) := by
    intro y hy
    obtain ⟨n, v⟩ := y
    exact (S.par n (List.of_mem_zip hy).1).imp id fun q => ⟨q, PySem.W.cellsFrom_some _ _ _ (.inl q)⟩
  refine codeAny_call_function hr.depth (KX _ _ lk) rfl S.co S.gen rfl (PySem.W.codeRec_of KX hcd) (hb _ _ _ _ ?_)
  refine wpAny_newFunctionEnv_cells S.kind par fun env he s1 x => ?_
  subst he
  refine ⟨(e0.mod.nolimit.keeps old).keeps x.toInCall.keep, codeAny_func ?_⟩
  have I : Inv (cxOf (L2.CX P w) P w K mg base N qual scope f cdv A outer s H E) [] (L2.start N vs) H s1 := inv_start S hr.hd e0 hl r x
  have body' := (h cdv A outer s H E hot lam cl (Room.deeper (k := kc + k) hr _) hgd O).run (fun c d _ H' => E c d H') (takes_of rfl rfl rfl rfl)
  refine wpAny_mono (body'.run [] s1 (L2.start N vs) H { nx := fun _ H' => Q .non H', rt := Q } I ⟨η, _, st, kst, env_start rds, ?_⟩) (fun fl s' hs => ?_) fun e s' hs => hs
  · unfold fnD at post
    cases e : g cl (ds.map some ++ List.replicate (N.length - ds.length) none) st with
    | ok o st' =>
      rw [e] at post
      cases o with
      | nx ρ => exact fun σ' η' H' s k _ => post .non η' H' s k (by rw [Rep])
      | rt d => exact post
      | bk ρ => exact post.elim
      | ct ρ => exact post.elim
    | exc x ρ st' =>
      rw [e] at post
      exact fun c d σ' η' H' s k _ rx => post c d η' H' s k rx
    | bad => rw [e] at post; exact post.elim
  · have fin : ∀ {σ' : L2.St} {H' : Hp} {v : V} {u : Value}, Inv (cxOf (L2.CX P w) P w K mg base N qual scope f cdv A outer s H E) [] σ' H' s' → L2.RelV v u → Q v H' → CE outer P w H s Q u s' :=
      fun {σ' H' v u} J rv q => ⟨v, H', J.os, J.bare, J.base, J.hok, rv, q⟩
    cases fl with
    | ret u =>
      obtain ⟨v, σ', H', J, rv, q⟩ := hs
      exact fin J rv q
    | next =>
      obtain ⟨σ', H', J, q⟩ := hs
      exact fin (v := V.non) (u := Value.none) J rfl q
    | brk => exact hs.elim fun _ z => z.elim fun _ z => z.2.elim
    | cont => exact hs.elim fun _ z => z.elim fun _ z => z.2.elim
/-- captured cells stay as they are -/
theorem cells_un {cl : List (Str × Addr)} {fr : List Str} {ws : List (Option V)} {fs : List Addr} {H H2 : Hp} {h h2 : Heap} (C : CellsAt cl fr ws h H) (u : Un fs [] H H2 h h2) : CellsAt cl fr ws h2 H2 := by
  have mv : ∀ {c : Addr} {v : Option Value}, H c = none → h.IsCell c v → h2.IsCell c v := fun n ⟨o, ho, hd⟩ => by
    obtain ⟨sl, q⟩ := u.any ho n (by simp)
    exact ⟨_, q, hd⟩
  refine ⟨C.len, fun y c e => ?_, C.inj, fun i y e => ?_⟩
  · obtain ⟨n, v, hv⟩ := C.all y c e
    exact ⟨hv.elim fun o z => u.free c o z.1 n (by simp), v, mv n hv⟩
  · obtain ⟨c, e1, e2⟩ := C.has i y e
    exact ⟨c, e1, fun v hv => (e2 v hv).imp fun u z => ⟨z.1, mv (C.all y c e1).1 z.2⟩⟩
/-- what one lambda's text is worth -/
structure LamOk (P : Program) (w : World) (K : PySem.W.Frag) (mg : Str → Option Value) (base : Heap) (gl : Nat → Option Addr) (tb : List (Addr × Str)) (k : Nat) (q : Str) (params : Arguments) (body : Expr) (scope : Scope) (N : List Str) (g : Ev) : Prop where
  sc : NScope N [] N scope
  bind : ∀ (cl : List (Str × Addr)) (pm cv ct : Value), bindArgs (PySem.W.kla_fn "<lambda>" q params body scope cl pm cv ct) ⟨[], []⟩ = pure []
  body : ∀ (cells : List (Str × Addr)) (c a : Addr) (A : Around) (outer : List PySem.Env) (s : Shared) (H : Hp) (E : XK) (hot : List Addr) (lam : Nat → Option (LamT × List V)), Room k (A.deeper (envF (lamF q params scope cells c) a s.heap.objs.size)) → (A.deeper (envF (lamF q params scope cells c) a s.heap.objs.size)).guards = some [] →
    SE (ncx (L2.CX P w) P w K mg base N (lamF q params scope cells c) a A outer s H E) ⟨K, gl, hot, lam, tb⟩ body g
theorem orac_one {k j0 : Nat} {q : Str} {params : Arguments} {body : Expr} {scope : Scope} {cells : List (Str × Addr)} {N : List Str} {g : Ev} {ws : List V} {fs : List Addr} {H : Hp} {h : Heap} {cl : Nat → List D → Sto → Res D} (L : LamOk P w K mg base gl tb k q params body scope N g) (C : CellsAt cells N (ws.map some) h H)
    (hcl : ∀ caps st, cl j0 caps st = g (caps.map some) st) : Orac P w K mg base gl tb (fun j => if j = j0 then some (⟨q, params, body, scope, cells⟩, ws) else none) cl (k + 1) fs H h := by
  intro A2 outer2 s2 H2 j a t ws2 caps Q E hot η st hr hgd e0 un hl ca rc k1 post
  dsimp only at hl
  split at hl
  · rename_i hj
    subst hj
    cases hl
    have C2 := cells_un C un
    refine lam_call (ws := ws.map some) (ρ := caps.map some) (g := g) L.sc L.bind (fun c hr2 hg2 => L.body cells c a A2 outer2 s2 H2 E hot _ hr2 hg2) hr hgd e0 ca C2 k1 ⟨?_, fun i d h => ?_⟩ (by rw [← hcl]; exact post)
    · have l1 := C2.len
      have l2 := rc.length
      unfold startF
      rw [List.length_map] at l1
      simp [l1, l2]
    · rw [List.getElem?_map] at h
      cases e : caps[i]? with
      | none => rw [e] at h; cases h
      | some d2 =>
        rw [e] at h
        cases h
        obtain ⟨v, e2, rv⟩ := rc.get e
        refine ⟨v, ?_, rv⟩
        unfold startF
        have hi : i < ws.length := by
          rcases Nat.lt_or_ge i ws.length with z | z
          · exact z
          · rw [List.getElem?_eq_none z] at e2
            cases e2
        rw [List.map_nil, List.nil_append, List.getElem?_append_left (by rw [List.length_map]; exact hi), List.getElem?_map, e2]
        rfl
  · cases hl
end
/-! ### values without lambdas -/
mutual
def nc : D → Bool
  | .tup ds => ncs ds
  | .lst ds => ncs ds
  | .clo _ _ => false
  | .dic _ ds => ncs ds
  | .ins _ _ ds => ncs ds
  | _ => true
def ncs : List D → Bool
  | [] => true
  | d :: ds => nc d && ncs ds
end
def ncO : SO → Bool
  | .lst ds => ncs ds
  | .dic _ ds => ncs ds
  | .ins _ _ ds => ncs ds
section
variable {C : Cfg} {η : List Addr} {H : Hp} {lam : Nat → Option (LamT × List V)}
mutual
theorem Rep.nc : ∀ {d : D} {v : V}, G.nc d = true → Rep C η H d v → Rep ⟨C.K, C.gl, C.hot, lam, C.tabs⟩ η H d v
  | .non, _, _, h => h
  | .bl _, _, _, h => h
  | .int _, _, _, h => h
  | .str _, _, _, h => h
  | .ty _, _, _, h => h
  | .glo _, _, _, h => h
  | .ref _, _, _, h => h
  | .tup ds, _, q, h => by
    rw [Rep] at h ⊢
    obtain ⟨a, vs, e, t, r⟩ := h
    exact ⟨a, vs, e, t, RepL.nc (by rw [G.nc] at q; exact q) r⟩
  | .lst ds, _, q, h => by
    rw [Rep] at h ⊢
    obtain ⟨a, vs, e, t, r⟩ := h
    exact ⟨a, vs, e, t, RepL.nc (by rw [G.nc] at q; exact q) r⟩
  | .clo _ _, _, q, _ => by simp [G.nc] at q
  | .dic _ ds, _, q, h => by
    rw [Rep] at h ⊢
    obtain ⟨a, kvs, e, t, n, r⟩ := h
    exact ⟨a, kvs, e, t, n, RepL.nc (by rw [G.nc] at q; exact q) r⟩
  | .ins _ _ ds, _, q, h => by
    rw [Rep] at h ⊢
    obtain ⟨a, c, dx, fs, e, t, g, n, r⟩ := h
    exact ⟨a, c, dx, fs, e, t, g, n, RepL.nc (by rw [G.nc] at q; exact q) r⟩
theorem RepL.nc : ∀ {ds : List D} {vs : List V}, ncs ds = true → RepL C η H ds vs → RepL ⟨C.K, C.gl, C.hot, lam, C.tabs⟩ η H ds vs
  | [], _, _, h => h
  | d :: ds, _, q, h => by
    rw [ncs, Bool.and_eq_true] at q
    rw [RepL] at h ⊢
    obtain ⟨v, r, e, h1, h2⟩ := h
    exact ⟨v, r, e, Rep.nc q.1 h1, RepL.nc q.2 h2⟩
end
theorem StOk.nc {st : Sto} (q : st.all ncO = true) (k : StOk C η st H) : StOk ⟨C.K, C.gl, C.hot, lam, C.tabs⟩ η st H := by
  refine ⟨k.len, k.nd, fun n a o h1 h2 => ?_, k.hot, k.tab⟩
  have := List.all_eq_true.mp q o (List.mem_of_getElem? h2)
  have z := k.ok n a o h1 h2
  cases o with
  | lst ds =>
    obtain ⟨vs, e, r⟩ := z
    exact ⟨vs, e, r.nc this⟩
  | dic ks ds =>
    obtain ⟨kvs, e, n, r⟩ := z
    exact ⟨kvs, e, n, r.nc this⟩
  | ins j ns ds =>
    obtain ⟨c, dx, fs, e, g, n, r⟩ := z
    exact ⟨c, dx, fs, e, g, n, r.nc this⟩
theorem RepX.nc {x : Exc} {c : Value} {d : Option Addr} (q : ncs (x.fs.map (·.2)) = true) (r : RepX C η H x c d) : RepX ⟨C.K, C.gl, C.hot, lam, C.tabs⟩ η H x c d := ⟨r.1, r.2.imp id fun ⟨a, us, z1, z2, z3, z4, z5, z6⟩ => ⟨a, us, z1, z2, z3, z4, z5, z6.nc q⟩⟩
end
/-- a result without lambdas -/
def Res.plain (r : Res D) : Res D := match r with
  | .ok d st => if nc d && st.all ncO then .ok d st else .bad
  | .exc x st => if ncs (x.fs.map (·.2)) && st.all ncO then .exc x st else .bad
  | .bad => .bad
theorem Post.plain {C : Cfg} {lam : Nat → Option (LamT × List V)} {W : WX} {σ : L2.St} {η : List Addr} {H : Hp} {r : Res D} {Q : VK} (h : Post ⟨C.K, C.gl, C.hot, lam, C.tabs⟩ W σ (Rep ⟨C.K, C.gl, C.hot, lam, C.tabs⟩) η H r.plain Q) : Post C W σ (Rep C) η H r Q := by
  cases r with
  | ok d st =>
    unfold Res.plain at h
    dsimp only at h
    split at h
    · rename_i q
      rw [Bool.and_eq_true] at q
      exact fun v η' H' s k r => h v η' H' s (k.nc q.2) (r.nc q.1)
    · exact h.elim
  | exc x st =>
    unfold Res.plain at h
    dsimp only at h
    split at h
    · rename_i q
      rw [Bool.and_eq_true] at q
      exact fun c d η' H' s k r => h c d η' H' s (k.nc q.2) (r.nc q.1)
    · exact h.elim
  | bad => exact h.elim
end G

set_option Elab.async false
set_option linter.all false
set_option maxRecDepth 100000
set_option maxHeartbeats 4000000
/-! Makers of lambdas: their calls, their promise. -/
namespace G
open PySem PySem.Spec PyProof.Rows L2
open LamX NdefX
/-- the values of the captured slots -/
def caps (ρ : Env) : List Nat → Option (List D)
  | [] => some []
  | j :: js => match ρ[j]? with
    | some (some d) => (match caps ρ js with
      | some ds => if nc d then some (d :: ds) else none
      | none => none)
    | _ => none
theorem caps_ok {C : Cfg} {η : List Addr} {H : Hp} {ρ : Env} {σ : L2.St} (en : EnvOk C η H ρ σ) : ∀ {js : List Nat} {ds : List D}, caps ρ js = some ds → ∃ ws, js.map (slotAt σ) = ws.map some ∧ ∀ lam : Nat → Option (LamT × List V), RepL ⟨C.K, C.gl, C.hot, lam, C.tabs⟩ η H ds ws
  | [], ds, h => by
    cases h
    exact ⟨[], rfl, fun _ => RepL.nil⟩
  | j :: js, ds, h => by
    unfold caps at h
    split at h
    · rename_i d e
      split at h
      · rename_i ds2 e2
        split at h
        · rename_i q
          cases h
          obtain ⟨ws, e3, r⟩ := caps_ok en e2
          obtain ⟨v, es, rv⟩ := en.ok j _ e
          exact ⟨v :: ws, by rw [List.map_cons, List.map_cons, e3, slotAt_of es], fun lam => RepL.cons (rv.nc q) (r lam)⟩
        · cases h
      · cases h
    · cases h
/-- the lambda in hand with what it captured -/
def capD (j : Nat) (cs : List D) : D → D
  | .clo k [] => if k = j then .clo j cs else .clo k []
  | d => d
def capOk (j : Nat) : D → Bool
  | .clo k [] => decide (k = j)
  | d => nc d
theorem cap_rep {C : Cfg} {lam : Nat → Option (LamT × List V)} {η : List Addr} {H : Hp} {j : Nat} {cs : List D} {t : LamT} {ws : List V} (e1 : C.lam j = some (t, [])) (e2 : lam j = some (t, ws)) (rc : RepL ⟨C.K, C.gl, C.hot, lam, C.tabs⟩ η H cs ws) {d : D} {v : V} (q : capOk j d = true) (r : Rep C η H d v) :
    Rep ⟨C.K, C.gl, C.hot, lam, C.tabs⟩ η H (capD j cs d) v := by
  unfold capOk at q
  split at q
  · rename_i k
    have e : k = j := of_decide_eq_true q
    subst e
    have ek : capD k cs (.clo k []) = .clo k cs := by simp [capD]
    rw [ek]
    rw [Rep] at r ⊢
    obtain ⟨a, t2, us, e, h1, h2, h3⟩ := r
    rw [e1] at h1
    cases h1
    exact ⟨a, t, ws, e, e2, h2, rc⟩
  · rename_i h
    have e : capD j cs d = d := by
      unfold capD
      split
      · rename_i k
        exact absurd rfl (h k)
      · rfl
    rw [e]
    exact r.nc q
theorem caps_rep {C : Cfg} {lam : Nat → Option (LamT × List V)} {η : List Addr} {H : Hp} {j : Nat} {cs : List D} {t : LamT} {ws : List V} (e1 : C.lam j = some (t, [])) (e2 : lam j = some (t, ws)) (rc : RepL ⟨C.K, C.gl, C.hot, lam, C.tabs⟩ η H cs ws) : ∀ {ds : List D} {vs : List V}, ds.all (capOk j) = true → RepL C η H ds vs →
    RepL ⟨C.K, C.gl, C.hot, lam, C.tabs⟩ η H (ds.map (capD j cs)) vs
  | [], _, _, r => by
    rw [RepL] at r
    subst r
    exact RepL.nil
  | d :: ds, _, q, r => by
    rw [List.all_cons, Bool.and_eq_true] at q
    rw [RepL] at r
    obtain ⟨v, us, rfl, r1, r2⟩ := r
    exact RepL.cons (cap_rep e1 e2 rc q.1 r1) (caps_rep e1 e2 rc q.2 r2)
/-- a call of a def that calls lambdas, by the lambdas' maker: lambda j, its captured slots js -/
def cCallC (gW : (Nat → List D → Sto → Res D) → Fn) (g : Ev) (j : Nat) (js : List Nat) (fs : EvA) : Ev := fun ρ st => (fs ρ st).bind fun ds st1 => match caps ρ js with
  | some cs => if ds.all (capOk j) && st1.all ncO then (gW (fun _ cs st => g (cs.map some) st) (ds.map (capD j cs)) st1).plain else .bad
  | none => .bad
section
variable {X : Cx} {C : Cfg} {e : Expr} {es : List Expr} {fs : EvA} {pos p : Pos} {x : Str} {kc kl k : Nat} {f : Addr} {fd : FuncData} {ps : List Str} {gW : (Nat → List D → Sto → Res D) → Fn} {g : Ev}
theorem SE.callC {q : Str} {params : Arguments} {body : Expr} {scope : Scope} {cells : List (Str × Addr)} {N : List Str} {j : Nat} {js : List Nat} (F : FnC X.prog X.w X.K X.mg X.base C.gl C.tabs (kl + 1) k f fd ps gW) (L : LamOk X.prog X.w X.K X.mg X.base C.gl C.tabs kl q params body scope N g)
    (lam : C.lam j = some (⟨q, params, body, scope, cells⟩, [])) (cp : X.Ok → Caps X cells N js) (hK : X.K = C.K) (hr : Room (kl + 1 + k) X.A) (hgd : X.A.guards = some []) (hg : Gl X x) (hm : X.mg x = some (.ref f)) (hk : PySem.W.keepIn X.K (.ref f) = true) (hb : Binds X.K fd ps [])
    (ha : SA X C (e :: es) fs) (hn : (e :: es).length = ps.length) (hlen : ∀ ρ st a st1, fs ρ st = .ok a st1 → a.length = (e :: es).length)
    (hdb : (x == ("__debug__" : Str)) = false := by decide) (he : starEach (e :: es) X.env = (false, eval e X.env) :: starEach es X.env := by rfl) (hpl : (backTo pos (starEach es X.env)).any (·.1) = false := by rfl) :
    SE X C (.Call (.Name x p) (e :: es) [] pos) (cCallC gW g j js fs) := ⟨fun W tk => ⟨fun pins s σ H Q I h => by
  obtain ⟨η, ρ, st, k0, en, post⟩ := h
  refine wpAny_Call_Name_kw (ld_glob I hg hm ?_ hdb)
  refine PySem.W.callWith_K (h₀ := X.base) I.ok.mod.kin hk ?_ he hpl
  refine thn ((ha.run W tk).run pos pins s σ H (fun vs H1 => ∃ η1 st1 as, StOk C η1 st1 H1 ∧ EnvOk C η1 H1 ρ σ ∧ RepL C η1 H1 as vs ∧ as.length = (e :: es).length ∧ Post C W σ (Rep C) η1 H1 (match caps ρ js with
    | some cs => if as.all (capOk j) && st1.all ncO then (gW (fun _ cs st => g (cs.map some) st) (as.map (capD j cs)) st1).plain else .bad
    | none => .bad) Q) I ⟨η, ρ, st, k0, en, ?_⟩) fun us s1 ⟨vs, H1, I1, r, η1, st1, as, k1, en1, ra, la, p1⟩ => ⟨I1.kIn, ?_⟩
  · exact Post.bind (R := RepL C) (r := fs ρ st) post fun as st1 vs η1 H1 hok s1 k1 ra p1 => ⟨η1, st1, as, k1, en.mono s1, ra, hlen _ _ _ _ hok, p1⟩
  · cases ec : caps ρ js with
    | none => rw [ec] at p1; exact p1.elim
    | some cs =>
      rw [ec] at p1
      dsimp only at p1
      split at p1
      · rename_i hq
        rw [Bool.and_eq_true] at hq
        obtain ⟨ws, e1, rc⟩ := caps_ok en1 ec
        have C1 := cells_of I1 (cp I1.ok)
        rw [e1] at C1
        have O := orac_one (fs := frs X.stack) (cl := fun _ cs st => g (cs.map some) st) (j0 := j) L C1 fun caps st => rfl
        have ra2 := caps_rep (lam := fun i => if i = j then some (⟨q, params, body, scope, cells⟩, ws) else none) lam (if_pos rfl) (rc _) hq.1 ra
        have k2 := k1.nc (lam := fun i => if i = j then some (⟨q, params, body, scope, cells⟩, ws) else none) hq.2
        obtain ⟨K, gl, hot, lm, tb⟩ := C
        dsimp only at hK
        subst hK
        have p2 := Post.plain (C := ⟨X.K, gl, hot, fun i => if i = j then some (⟨q, params, body, scope, cells⟩, ws) else none, tb⟩) (lam := lm) p1
        have r2 : Vals (vs ++ []) (us ++ []) := r.append .nil
        rw [List.append_nil, List.append_nil] at r2
        have hl : vs.length = ps.length := by rw [← ra.length, la]; exact hn
        have b2 : BindsTo s1 fd ⟨us, []⟩ (ps.zip us) := by
          have z := hb s1 us I1.kIn (by rw [List.append_nil, ← r.length]; exact hl)
          rw [List.append_nil] at z
          exact z
        refine wpAny_call (codeAny_mono (F.run X.A X.stack s1 H1 ⟨us, []⟩ us vs Q (fun c d H' => W c d σ H') hot _ _ η1 st1 _ hr hgd I1.env0 b2 r2 O k2 ra2 hl ?_) fun res s' hq => ?_)
        · cases eg : gW (fun _ cs st => g (cs.map some) st) (as.map (capD j cs)) st1 with
          | ok d st' => rw [eg] at p2; exact p2
          | exc x st' => rw [eg] at p2; exact p2
          | bad => rw [eg] at p2; exact p2.elim
        · cases res with
          | error e => exact tk e s' (XE.of_call I1 (fun _ _ _ z => z) hq)
          | ok fl =>
            cases fl with
            | ret u => exact I1.after hq
            | next => exact hq.elim
            | brk => exact hq.elim
            | cont => exact hq.elim
      · exact p1.elim⟩⟩
end
end G

set_option Elab.async false
set_option linter.all false
set_option maxRecDepth 100000
set_option maxHeartbeats 4000000
/-! A maker's promise; tables of code objects. -/
namespace G
open PySem PySem.Spec PyProof.Rows L2
open LamX NdefX
/-- the lambdas of a def -/
structure LT where
  params : Arguments
  body : Expr
  scope : Scope
def lamOf (env : PySem.Env) (ls : List LT) : Nat → Option (LamT × List V) := fun k => (ls[k]?).map fun l => (⟨env.qual ++ "<lambda>", l.params, l.body, l.scope, cloFrom env.cells l.scope.names []⟩, [])
def mkD (f : Fn) : Fn := fun ds st => if ncs ds && st.all ncO then (f ds st).plain else .bad
section
variable {P : Program} {w : World} {K : PySem.W.Frag} {mg : Str → Option Value} {base : Heap} {gl : Nat → Option Addr} {tb : List (Addr × Str)}
theorem FnG.maker {x qual : Str} {params : Arguments} {body : List Stmt} {scope : Scope} {dvs : List V} {kws : List (Str × V)} {f : Addr} {fd : FuncData} {N ps : List Str} {k : Nat} {g : EvS} (ls : List LT) (F : FunD K x qual params body scope dvs kws f fd) (S : FnScope N ps scope)
    (h : ∀ (cdv : Value) (A : Around) (outer : List PySem.Env) (s : Shared) (H : Hp) (E : XK) (hot : List Addr), fd.code = cdv → Room k (A.deeper (envOfC qual scope s.heap.objs.size f cdv)) → (A.deeper (envOfC qual scope s.heap.objs.size f cdv)).guards = some [] →
      SB (cxOf (L2.CX P w) P w K mg base N qual scope f cdv A outer s H E) ⟨K, gl, hot, lamOf (envOfC qual scope s.heap.objs.size f cdv) ls, tb⟩ body g) : FnG P w K mg base gl tb (k + 1) f fd ps (mkD (fnD N.length g)) := by
  obtain ⟨oc, od, dV, kV, doc, pm, an, cdv, ct, osl, rfl, lk, hcd, _, _⟩ := F.ex
  refine ⟨fun A outer s H args us vs Q E hr hgd e0 hb r hsp => ?_⟩
  obtain ⟨hot, lam, η, st, ds, kst0, rds0, hl, post0⟩ := hsp
  unfold mkD at post0
  split at post0
  case isFalse => exact post0.elim
  rename_i hq
  rw [Bool.and_eq_true] at hq
  have old : ∀ b o, base.get? b = some o → s.heap.get? b = some o := fun b o e => (e0.bs b o e).1
  have KX : K.In s.heap := e0.mod.kin.keeps old
  have par : ∀ y ∈ ps.zip us, scope.names.lookup y.1 = some .local ∨ (scope.names.lookup y.1 = some .cell ∧ ((cellsFrom (s.heap.objs.size + 1) scope.names []).lookup y.1).isSome = true) := by
    intro y hy
    obtain ⟨n, v⟩ := y
    exact (S.par n (List.of_mem_zip hy).1).imp id fun q => ⟨q, PySem.W.cellsFrom_some _ _ _ (.inl q)⟩
  refine codeAny_call_function hr.depth (KX _ _ lk) rfl S.co S.gen rfl (PySem.W.codeRec_of KX hcd) (hb _ _ _ _ ?_)
  refine wpAny_newFunctionEnv_cells S.kind par fun env he s1 x => ?_
  subst he
  refine ⟨(e0.mod.nolimit.keeps old).keeps x.toInCall.keep, codeAny_func ?_⟩
  have I : Inv (cxOf (L2.CX P w) P w K mg base N qual scope f cdv A outer s H E) [] (L2.start N vs) H s1 := inv_start S hr.hd e0 hl r x
  have body' := (h cdv A outer s H E hot rfl (hr.deeper _) hgd).run (fun c d _ H' => E c d H') (takes_of rfl rfl rfl rfl)
  have kst := kst0.nc (lam := lamOf (envOfC qual scope s.heap.objs.size f cdv) ls) hq.2
  have rds := rds0.nc (lam := lamOf (envOfC qual scope s.heap.objs.size f cdv) ls) hq.1
  have post := Post.plain (C := ⟨K, gl, hot, lamOf (envOfC qual scope s.heap.objs.size f cdv) ls, tb⟩) (lam := lam) post0
  refine wpAny_mono (body'.run [] s1 (L2.start N vs) H { nx := fun _ H' => Q .non H', rt := Q } I ⟨η, _, st, kst, env_start rds, ?_⟩) (fun fl s' hs => ?_) fun e s' hs => hs
  · unfold fnD at post
    cases e : g (ds.map some ++ List.replicate (N.length - ds.length) none) st with
    | ok o st' =>
      rw [e] at post
      cases o with
      | nx ρ => exact fun σ' η' H' s k _ => post .non η' H' s k (by rw [Rep])
      | rt d => exact post
      | bk ρ => exact post.elim
      | ct ρ => exact post.elim
    | exc x ρ st' =>
      rw [e] at post
      exact fun c d σ' η' H' s k _ rx => post c d η' H' s k rx
    | bad => rw [e] at post; exact post.elim
  · have fin : ∀ {σ' : L2.St} {H' : Hp} {v : V} {u : Value}, Inv (cxOf (L2.CX P w) P w K mg base N qual scope f cdv A outer s H E) [] σ' H' s' → L2.RelV v u → Q v H' → CE outer P w H s Q u s' :=
      fun {σ' H' v u} J rv q => ⟨v, H', J.os, J.bare, J.base, J.hok, rv, q⟩
    cases fl with
    | ret u =>
      obtain ⟨v, σ', H', J, rv, q⟩ := hs
      exact fin J rv q
    | next =>
      obtain ⟨σ', H', J, q⟩ := hs
      exact fin (v := V.non) (u := Value.none) J rfl q
    | brk => exact hs.elim fun _ z => z.elim fun _ z => z.2.elim
    | cont => exact hs.elim fun _ z => z.elim fun _ z => z.2.elim
/-! ### the tables of the defs that hold lambdas -/
def lq (x : Str) : Str := (x ++ ".<locals>.") ++ "<lambda>"
def tbOf (K : PySem.W.Frag) (tf : List Str) : List (Addr × Str) := tf.map fun x => ((He.cT K (x, none)).2, lq x)
def ndB : List Addr → Bool
  | [] => true
  | a :: r => !r.contains a && ndB r
theorem ndB_ok : ∀ {l : List Addr}, ndB l = true → l.Nodup
  | [], _ => List.nodup_nil
  | a :: r, h => by
    rw [ndB, Bool.and_eq_true] at h
    refine List.nodup_cons.mpr ⟨fun m => ?_, ndB_ok h.2⟩
    have := h.1
    simp [m] at this
/-- the tables are told apart -/
def tabNd (tf : List Str) (K : PySem.W.Frag) : Bool := ndB (tf.map fun x => (He.cT K (x, none)).2)
theorem tb_mem {K : PySem.W.Frag} {tf : List Str} {x : Str} (h : x ∈ tf) : ((He.cT K (x, none)).2, lq x) ∈ tbOf K tf := List.mem_map.mpr ⟨x, h, rfl⟩
theorem nd_inj {α β : Type} {f : α → β} : ∀ {l : List α}, (l.map f).Nodup → ∀ {x y : α}, x ∈ l → y ∈ l → f x = f y → x = y
  | [], _, _, _, h, _, _ => (List.not_mem_nil h).elim
  | a :: r, n, x, y, h1, h2, e => by
    rw [List.map_cons, List.nodup_cons] at n
    rcases List.mem_cons.mp h1 with z1 | z1
    · rcases List.mem_cons.mp h2 with z2 | z2
      · rw [z1, z2]
      · subst z1
        exact absurd (List.mem_map.mpr ⟨y, z2, e.symm⟩) n.1
    · rcases List.mem_cons.mp h2 with z2 | z2
      · subst z2
        exact absurd (List.mem_map.mpr ⟨x, z1, e⟩) n.1
      · exact nd_inj n.2 z1 z2 e
theorem tb_un {K : PySem.W.Frag} {tf : List Str} {x : Str} (n : tabNd tf K = true) (h : x ∈ tf) : ∀ p ∈ tbOf K tf, p.1 = (He.cT K (x, none)).2 → p.2 = lq x := by
  intro p hp e
  obtain ⟨y, hy, rfl⟩ := List.mem_map.mp hp
  rw [nd_inj (ndB_ok n) hy h e]
/-- what a maker's body knows of its def's table -/
structure TabK (K : PySem.W.Frag) (mg : Str → Option Value) (base : Heap) (tf : List Str) : Prop where
  ok : ∀ x ∈ tf, TabB base mg (He.cT K (x, none)).1 (He.cT K (x, none)).2
  nd : tabNd tf K = true
end
end G

set_option Elab.async false
set_option linter.all false
set_option maxRecDepth 100000
set_option maxHeartbeats 4000000
/-! A law's end where tables grow. -/
namespace G
open PySem PySem.Spec PyProof.Rows L2
open LamX NdefX
section
variable {P : Program} {w : World} {K : PySem.W.Frag} {mg mb : Str → Option Value} {gl : Nat → Option Addr} {k : Nat} {fa a : Addr} {fd : FuncData} {x : Str} {g : Fn} {s : Shared} {vs : List Value} {ns : List Int} {cs : List (Addr × Addr)} {tb : List (Addr × Str)}
abbrev Emp : Obj := { cls := .none, data := .fields #[] }
/-- the script, the tables: nothing else is known -/
def OnlyT (K : PySem.W.Frag) (cs : List (Addr × Addr)) (a : Addr) (H : Hp) : Prop := ∀ b u, H b = some u → (b = a ∧ K.lookup a = none ∧ ∃ o xs, u = .frz o (.lst xs)) ∨ (u = .tbl #[] ∧ ∃ p ∈ cs, p.2 = b)
theorem call_lawT (H : Hp) (KX : K.In s.heap) (hns : s.heap.Ns mainGlobals mg) (hb : s.heap.Ns builtinsNs mb) (hbb : ∀ x : Str, x ≠ "__name__" → mb x = bootBuiltins x) (hlim : s.heap.NoLimit) (hg : s.gens = #[])
    (hT : ∀ p ∈ cs, s.heap.get? p.2 = some Emp) (nT : ∀ p ∈ cs, K.lookup p.2 = none) (CH : ∀ p ∈ cs, PySem.W.CodeHd s.heap p.1 p.2)
    (hbm : ∃ (bm : Addr) (ob : Obj), mg "__builtins__" = some (.ref bm) ∧ bm ≠ builtinsNs ∧ s.heap.get? bm = some ob ∧ ob.cls = .type "module" ∧ ob.dict = some builtinsNs ∧ ob.data = .plain)
    (ha : s.heap.get? a = some { cls := .type "list", data := .seq vs.toArray }) (hr : Room k callerA) (F : ∀ base : Heap, K.In base → base.Ns mainGlobals mg → (∀ p ∈ cs, TabB base mg p.1 p.2) → FnG P w K mg base gl tb k fa fd [x] g)
    (hbind : ∀ (s : Shared) (u : Value), BindsTo s fd ⟨[u], []⟩ [(x, u)]) (res : ∃ st, g [.lst (ns.map D.int)] [] = .ok (.bl true) st) (htb : ∀ q ∈ tb, ∃ p ∈ cs, p.2 = q.1)
    (only : OnlyT K cs a H) (hH : ∀ p ∈ cs, H p.2 = some (.tbl #[])) (sq : SqL K H a (ns.map V.int)) (hok : HOk P w H s.heap) :
    codeAny (model P w) callerA (.call (.ref fa) ⟨[.ref a], []⟩) (fun r s' => r = .ok (.ret (.bool true)) ∧ OldK s.heap s'.heap ∧ s'.os = s.os ∧ AllBare s'.gens) s := by
  have free : ∀ {b : Addr} {o : Obj}, s.heap.get? b = some o → (∀ xs n, o.data ≠ .seq xs n) → o.data ≠ .fields #[] → H b = none := by
    intro b o e d d2
    cases q : H b with
    | none => rfl
    | some u =>
      rcases only b u q with ⟨z, _⟩ | ⟨_, p, hp, z⟩
      · rw [z, ha] at e
        cases e
        exact absurd rfl (d _ _)
      · rw [← z, hT p hp] at e
        cases e
        exact absurd rfl d2
  have ns_in : ∀ {b : Addr} {m : Str → Option Value}, s.heap.Ns b m → (hidT s.heap H).Ns b m := by
    intro b m ⟨o, es, ep, e, d, r⟩
    exact ⟨o, es, ep, hidT_get e (free e (fun xs n z => by rw [d] at z; cases z) fun z => by rw [d] at z; cases z), d, r⟩
  have kin : K.In (hidT s.heap H) := by
    intro b o e
    refine hidT_get (KX b o e) ?_
    cases q : H b with
    | none => rfl
    | some u =>
      rcases only b u q with ⟨z, z2, _⟩ | ⟨_, p, hp, z⟩
      · rw [z, z2] at e
        cases e
      · rw [← z, nT p hp] at e
        cases e
  have ns_emp : ∀ {b : Addr} {m : Str → Option Value} {p : Addr × Addr}, p ∈ cs → s.heap.Ns b m → b ≠ p.2 := by
    intro b m p hp ⟨o, es, ep, e, d, _⟩ z
    rw [z, hT p hp] at e
    cases e
    cases d
  obtain ⟨mc, l1, l2⟩ := hlim
  have md : Mod K mg (hidT s.heap H) := ⟨kin, ns_in hns, ⟨mb, ns_in hb, hbb⟩, ⟨mc, ns_in l1, l2⟩⟩
  have TB : ∀ p ∈ cs, TabB (hidT s.heap H) mg p.1 p.2 := by
    intro p hp
    refine ⟨?_, ?_, ns_emp hp hns⟩
    · obtain ⟨o, us, file, tf, flags, tg, inF, text, tt, e1, r1, r2, r3, rest⟩ := CH p hp
      refine ⟨o, us, file, tf, flags, tg, inF, text, tt, hidT_get e1 (free e1 (fun xs n z => ?_) fun z => ?_), r1, r2, r3, rest⟩
      · rw [r2] at z
        cases z
      · rw [r2] at z
        cases z
        simp at r3
    · obtain ⟨bm, ob, b1, b2, b3, b4, b5, b6⟩ := hbm
      refine ⟨bm, ob, b1, b2, fun z => ?_, fun z => ?_, hidT_get b3 (free b3 (fun xs n z => by rw [b6] at z; cases z) fun z => by rw [b6] at z; cases z), b4, b5, b6⟩
      · obtain ⟨o, es, ep, e, d, _⟩ := hns
        rw [z, e] at b3
        cases b3
        rw [d] at b6
        cases b6
      · rw [z, hT p hp] at b3
        cases b3
        cases b6
  have e0 : Env0 P w K mg (hidT s.heap H) callerA [] s H := ⟨rfl, md, fun b o e => of_hidT e, Nat.le_of_eq (hidT_size _ _), trivial, fun b hb => (List.not_mem_nil hb).elim, hok, .of_eq hg⟩
  have sp : spD K gl tb g 1 [.ref a] H (fun v _ => v = .bl true) (fun _ _ _ => False) := by
    obtain ⟨st, e⟩ := res
    refine ⟨[], fun _ => none, [], [], [.lst (ns.map D.int)], ⟨rfl, List.nodup_nil, fun n b o h1 _ => (by cases h1), fun b hb => (List.not_mem_nil hb).elim, fun q hq => ?_⟩, RepL.one ?_, rfl, ?_⟩
    · obtain ⟨p, hp, z⟩ := htb q hq
      rw [← z]
      exact ⟨#[], hH p hp, trivial, fun p' cv hcv => by cases hcv⟩
    · rw [Rep]
      refine ⟨a, _, rfl, ?_, rep_ints ns⟩
      rcases sq with q | q
      · exact .inl ⟨List.not_mem_nil, List.not_mem_nil, q⟩
      · exact .inr q
    · rw [e]
      intro v η' H' _ _ r
      rw [Rep] at r
      exact r
  refine codeAny_mono ((F _ kin (ns_in hns) TB).run callerA [] s H ⟨[.ref a], []⟩ [.ref a] [.ref a] _ _ hr rfl e0 (hbind s (.ref a)) (.cons rfl .nil) sp) fun r s' h => ?_
  cases r with
  | error e =>
    obtain ⟨_, _, _, _, _, _, _, _, _, _, _, _, z⟩ := h
    exact z.elim
  | ok fl =>
    cases fl with
    | next => exact h.elim
    | brk => exact h.elim
    | cont => exact h.elim
    | ret u =>
      obtain ⟨v, H', os, bare, un, hok', r', q⟩ := h
      cases (show v = .bl true from q)
      cases (show u = Value.bool true from r')
      have old : ∀ b o, s.heap.get? b = some o → (s'.heap.get? b = some o ∨ ∃ p ∈ cs, p.2 = b ∧ o = Emp ∧ ∃ more : Array Value, s'.heap.get? b = some { cls := .none, data := .fields more }) := by
        intro b o e
        cases q : H b with
        | none => exact .inl (un.keep b o e q (fun z => List.not_mem_nil z) (fun z => List.not_mem_nil z))
        | some u =>
          rcases only b u q with ⟨_, _, ob, xs, rfl⟩ | ⟨rfl, p, hp, z⟩
          · have e1 := (hok b _ q).1
            have e2 := (hok' b _ (un.frzs b ob _ q)).1
            rw [e] at e1
            cases e1
            exact .inl e2
          · have e1 := hT p hp
            rw [z, e] at e1
            obtain ⟨more, m⟩ := un.tbls b #[] q
            exact .inr ⟨p, hp, z, Option.some.inj e1, _, hok' b _ m⟩
      refine ⟨rfl, ⟨fun b o e => ?_, fun b o e => ?_⟩, os, bare⟩
      · rcases old b o e with z | ⟨p, hp, z, eo, more, m⟩
        · exact .inl z
        · subst z eo
          exact .inr (.inl ⟨((CH p hp).tab (hT p hp)).isCodeTable, rfl, #[], more, rfl, by rw [Array.empty_append]; exact m⟩)
      · rcases old b o e with z | ⟨p, hp, z, eo, more, m⟩
        · exact ⟨o, z⟩
        · exact ⟨_, m⟩
/-- from the heap as it is -/
theorem law_runT (KX : K.In s.heap) (hns : s.heap.Ns mainGlobals mg) (hb : s.heap.Ns builtinsNs mb) (hbb : ∀ x : Str, x ≠ "__name__" → mb x = bootBuiltins x) (hlim : s.heap.NoLimit) (hg : s.gens = #[])
    (hT : ∀ p ∈ cs, s.heap.get? p.2 = some Emp) (nT : ∀ p ∈ cs, K.lookup p.2 = none) (CH : ∀ p ∈ cs, PySem.W.CodeHd s.heap p.1 p.2)
    (hbm : ∃ (bm : Addr) (ob : Obj), mg "__builtins__" = some (.ref bm) ∧ bm ≠ builtinsNs ∧ s.heap.get? bm = some ob ∧ ob.cls = .type "module" ∧ ob.dict = some builtinsNs ∧ ob.data = .plain)
    (ha : s.heap.get? a = some { cls := .type "list", data := .seq vs.toArray }) (hi : IntsAre vs ns) (hl : ns.length ≤ sizeLine) (hr : Room k callerA) (F : ∀ base : Heap, K.In base → base.Ns mainGlobals mg → (∀ p ∈ cs, TabB base mg p.1 p.2) → FnG P w K mg base gl tb k fa fd [x] g)
    (hbind : ∀ (s : Shared) (u : Value), BindsTo s fd ⟨[u], []⟩ [(x, u)]) (res : ∃ st, g [.lst (ns.map D.int)] [] = .ok (.bl true) st) (htb : ∀ q ∈ tb, ∃ p ∈ cs, p.2 = q.1) :
    codeAny (model P w) callerA (.call (.ref fa) ⟨[.ref a], []⟩) (fun r s' => r = .ok (.ret (.bool true)) ∧ OldK s.heap s'.heap ∧ s'.os = s.os ∧ AllBare s'.gens) s := by
  have rv := vals_ints hi
  have ln := hi.length
  have na : ∀ p ∈ cs, p.2 ≠ a := fun p hp z => by
    have e := hT p hp
    rw [z, ha] at e
    cases e
  have hok_T : ∀ {b : Addr}, (∃ p ∈ cs, p.2 = b) → ObjOk P w (fun _ => none) s.heap b (.tbl #[]) := fun ⟨p, hp, z⟩ => z ▸ hT p hp
  obtain ⟨H0, hH⟩ : ∃ H0 : Hp, ∀ b, H0 b = if b = a then (if (K.lookup a).isSome then none else some (HO.frz { cls := .type "list", data := .seq vs.toArray } (.lst (ns.map V.int)))) else if b ∈ cs.map (·.2) then some (.tbl #[]) else none := ⟨fun b => if b = a then (if (K.lookup a).isSome then none else some (HO.frz { cls := .type "list", data := .seq vs.toArray } (.lst (ns.map V.int)))) else if b ∈ cs.map (·.2) then some (.tbl #[]) else none, fun _ => rfl⟩
  have tabs : ∀ p ∈ cs, H0 p.2 = some (.tbl #[]) := fun p hp => by
    rw [hH, if_neg (na p hp), if_pos (List.mem_map.mpr ⟨p, hp, rfl⟩)]
  have cases_ : ∀ b u, H0 b = some u → (b = a ∧ K.lookup a = none ∧ u = .frz { cls := .type "list", data := .seq vs.toArray } (.lst (ns.map V.int))) ∨ (u = .tbl #[] ∧ ∃ p ∈ cs, p.2 = b) := by
    intro b u e
    rw [hH] at e
    split at e
    · rename_i hb
      split at e
      · cases e
      · rename_i hk
        cases e
        refine .inl ⟨hb, ?_, rfl⟩
        cases q : K.lookup a with
        | none => rfl
        | some o => rw [q] at hk; exact absurd rfl hk
    · split at e
      · rename_i hm
        cases e
        obtain ⟨p, hp, z⟩ := List.mem_map.mp hm
        exact .inr ⟨rfl, p, hp, z⟩
      · cases e
  refine call_lawT H0 KX hns hb hbb hlim hg hT nT CH hbm ha hr F hbind res htb (fun b u e => ?_) tabs ?_ fun b u e => ?_
  · rcases cases_ b u e with ⟨h1, h2, h3⟩ | h
    · exact .inl ⟨h1, h2, _, _, h3⟩
    · exact .inr h
  · cases hk : K.lookup a with
    | some o =>
      have e := KX a o hk
      rw [ha] at e
      cases e
      exact .inr ⟨_, vs.toArray, _, hk, rfl, rfl, rfl, by rw [List.size_toArray, ln]; exact hl, by simpa using rv⟩
    | none =>
      refine .inl (.inr ⟨{ cls := .type "list", data := .seq vs.toArray }, ?_⟩)
      rw [hH, if_pos rfl, hk]
      rfl
  · rcases cases_ b u e with ⟨h1, _, h3⟩ | ⟨h1, p, hp, z⟩
    · subst h1 h3
      exact ⟨ha, by rw [List.length_map]; exact hl, vs, _, rv, ha⟩
    · subst h1 z
      exact hT p hp
end
end G

set_option Elab.async false
set_option linter.all false
set_option maxRecDepth 100000
set_option maxHeartbeats 4000000
/-! The head's own Hook: defs, constants, tables, own exceptions. -/
namespace G
open PySem PySem.Spec PyProof.Rows L2
open LamX NdefX He
/-- the written part, the statics' too -/
def addAll : List Addr → Nat → List Addr → Nat × List Addr
  | [], m, acc => (m, acc)
  | a :: r, m, acc => match Nat.testBit m a with
    | true => addAll r m acc
    | false => addAll r (m ||| (1 <<< a)) (a :: acc)
/-- what is reached, step by step; the mask holds what was met -/
def asY (g : Addr → Option Obj) : Nat → Nat → List Addr → List Addr → List Addr
  | 0, _, _, all => all
  | n + 1, m, fr, all => match addAll (fr.flatMap fun a => match g a with
    | some o => refsD o
    | none => []) m [] with
    | (m2, new) => asY g n m2 new (all ++ new)
def frY (g : Addr → Option Obj) (n : Nat) : PySem.W.Frag := frT g (asY g n ((1 <<< cStatics) ||| (1 <<< mainGlobals)) [mainGlobals] [cStatics, mainGlobals])
/-- the getter of a property -/
def pgA (K : PySem.W.Frag) (x f : Str) : Addr := match PySem.W.findIn K (.ref (ga K x)) f with
  | some (some (.ref p)) => (match PySem.W.recIn K p "property" with
    | some (.ref g :: _) => g
    | _ => 0)
  | _ => 0
def fnG (K : PySem.W.Frag) (x f : Str) : FnS := match K.lookup (pgA K x f) with
  | some ⟨_, _, .func fd, _⟩ => some (fd.name, fd.qualname, fd.params, fd.body, fd.scope, fd.globals, fd.closure.map (·.1), fd.builtins)
  | _ => none
/-- an own exception's __init__, a property's getter -/
def fnP (K : PySem.W.Frag) (p : Str × Option Str) : FnS := match p.2 with
  | none => fnS K p.1
  | some f => fnG K p.1 f
structure SaysY (fa : List Fa) (fn : List DefD) (tf : List Defn) (ex : PySem.W.Frag → Bool) (xs : List (Str × Option Str)) (xv : List FnS) (w : World) (h : Heap) (K : PySem.W.Frag) : Prop where
  t : SaysT fa fn [] w K
  more : ex K = true
  hd : ∀ p ∈ tf, PySem.W.codeHdIn K (cT K p).1 (cT K p).2 = true
  out : ∀ p ∈ tf, K.lookup (cT K p).2 = none
  empty : ∀ p ∈ tf, h.get? (cT K p).2 = some { cls := .none, data := .fields #[] }
  xs : xs.map (fnP K) = xv
abbrev AlY : Type := AlX × List FnS
def obsY (n : Nat) (fa : List Fa) (fn : List DefD) (tf : List Defn) (ex : PySem.W.Frag → Bool) (xs : List (Str × Option Str)) (g : Addr → Option Obj) : AlY := ((obsT fa fn [] (frY g n), ex (frY g n) && tabsB g tf (frY g n)), xs.map (fnP (frY g n)))
def valY (fn : List DefD) (xv : List FnS) (w : World) : AlY := (valX fn [] w, xv)
theorem frY_in {h : Heap} {n : Nat} : (frY h.get? n).In h := frT_in
theorem saysY_of {n : Nat} {fa : List Fa} {fn : List DefD} {tf : List Defn} {ex : PySem.W.Frag → Bool} {xs : List (Str × Option Str)} {xv : List FnS} {w : World} {h : Heap} (e : obsY n fa fn tf ex xs h.get? = valY fn xv w) : SaysY fa fn tf ex xs xv w h (frY h.get? n) := by
  have e0 : (obsT fa fn [] (frY h.get? n), ex (frY h.get? n) && tabsB h.get? tf (frY h.get? n)) = valX fn [] w := congrArg Prod.fst e
  have e3 : xs.map (fnP (frY h.get? n)) = xv := congrArg Prod.snd e
  have e1 : obsT fa fn [] (frY h.get? n) = valT fn [] w := congrArg Prod.fst e0
  have e2 : (ex (frY h.get? n) && tabsB h.get? tf (frY h.get? n)) = true := congrArg Prod.snd e0
  rw [Bool.and_eq_true] at e2
  have key : ∀ p ∈ tf, PySem.W.codeHdIn (frY h.get? n) (cT (frY h.get? n) p).1 (cT (frY h.get? n) p).2 = true ∧ ∃ o, h.get? (cT (frY h.get? n) p).2 = some o ∧ emptyTab o = true := fun p hp => by
    have z := List.all_eq_true.mp e2.2 p hp
    rw [Bool.and_eq_true] at z
    refine ⟨z.1, ?_⟩
    cases q : h.get? (cT (frY h.get? n) p).2 with
    | none => rw [q] at z; cases z.2
    | some o => rw [q] at z; exact ⟨o, rfl, z.2⟩
  refine ⟨e1, e2.1, fun p hp => (key p hp).1, fun p hp => ?_, fun p hp => ?_, e3⟩
  · obtain ⟨_, o, q, z⟩ := key p hp
    exact frT_none q z
  · obtain ⟨_, o, q, z⟩ := key p hp
    rw [q, emptyTab_eq z]
def hookY (n : Nat) (fa : List Fa) (fn : List DefD) (tf : List Defn) (ex : PySem.W.Frag → Bool) (xs : List (Str × Option Str)) (xv : List FnS) : PySem.W.Hook where
  α := AlY
  obs := fun s => obsY n fa fn tf ex xs s.heap.get?
  val := fun w => valY fn xv w
  says := fun w h => ∃ K : PySem.W.Frag, K.In h ∧ SaysY fa fn tf ex xs xv w h K
  of := fun _ _ e => ⟨_, frY_in, saysY_of e⟩
  keeps := fun _ _ _ ⟨K, hK, c⟩ k => ⟨K, PySem.W.Frag.In.keeps hK k, ⟨c.t, c.more, c.hd, c.out, fun p hp => k _ _ (c.empty p hp), c.xs⟩⟩
theorem obsY_eq {n : Nat} {fa : List Fa} {fn : List DefD} {tf : List Defn} {ex : PySem.W.Frag → Bool} {xs : List (Str × Option Str)} {xv : List FnS} {g : Addr → Option Obj} {s : Shared} (h : ∀ a, g a = s.heap.get? a) : obsY n fa fn tf ex xs g = (hookY n fa fn tf ex xs xv).obs s := by
  have e : g = s.heap.get? := funext h
  rw [e]
  rfl
/-- the goal that the head leaves -/
theorem walkT {l : PySem.W.OpenLaw} {n k : Nat} {q : Program} {loose : List Str} {XP : (Str → Option Value) → Heap → Prop} {YP : World → Heap → Prop} {d : DefRec} {x : Str}
    (hn : l.most = some n) (hn2 : n ≤ sizeLine) (hdf : d.params.defaults = []) (hr : Room k callerA)
    (F : ∀ (w : World) (mg : Str → Option Value) (fa : Addr) (h : Heap), YP w h → h.Ns mainGlobals mg → mg d.name = some (.ref fa) →
      ∃ (K : PySem.W.Frag) (fd : FuncData) (gl : Nat → Option Addr) (tf : List Str) (g : Fn), K.In h ∧ (∀ x ∈ tf, h.get? (cT K (x, none)).2 = some Emp ∧ K.lookup (cT K (x, none)).2 = none ∧ PySem.W.CodeHd h (cT K (x, none)).1 (cT K (x, none)).2) ∧ tabNd tf K = true ∧
        (∀ (s : Shared) (u : Value), BindsTo s fd ⟨[u], []⟩ [(x, u)]) ∧ (∀ ns : List Int, ns.length ≤ n → ∃ st, g [.lst (ns.map D.int)] [] = .ok (.bl true) st) ∧
        ∀ base : Heap, K.In base → base.Ns mainGlobals mg → TabK K mg base tf → FnG l.prog w K mg base gl (tbOf K tf) k fa fd [x] g) :
    PySem.W.WalkO q loose XP YP l.row.toRowW d [] (fun f vs => PySem.call f vs) := by
  refine Att.attach_callB hn hdf fun w s₀ s₁ mg mb fa o pm cd doc a vs ns G Y ho hd hcd hmg hobj hints hlen hbits hg => ?_
  obtain ⟨K, fd, gl, tf, g, KX, ht, nd, hb, res, hF⟩ := F w mg fa _ Y G.T.g hmg
  have at_ : ∀ p ∈ tf.map (fun x => cT K (x, none)), ∃ x ∈ tf, cT K (x, none) = p := fun p hp => List.mem_map.mp hp
  refine law_runT (cs := tf.map fun x => cT K (x, none)) (tb := tbOf K tf) KX G.T.g G.T.b G.T.builtins G.T.nolimit hg (fun p hp => ?_) (fun p hp => ?_) (fun p hp => ?_) G.T.bmain hobj hints (Nat.le_trans hlen hn2) hr (fun base kb nb tabs => hF base kb nb ⟨fun x hx => tabs _ (List.mem_map.mpr ⟨x, hx, rfl⟩), nd⟩) hb (res ns hlen) fun q hq => ?_
  · obtain ⟨x, hx, rfl⟩ := at_ p hp
    exact (ht x hx).1
  · obtain ⟨x, hx, rfl⟩ := at_ p hp
    exact (ht x hx).2.1
  · obtain ⟨x, hx, rfl⟩ := at_ p hp
    exact (ht x hx).2.2
  · obtain ⟨x, hx, rfl⟩ := List.mem_map.mp hq
    exact ⟨_, List.mem_map.mpr ⟨x, hx, rfl⟩, rfl⟩
end G

set_option Elab.async false
set_option linter.all false
set_option maxRecDepth 100000
set_option maxHeartbeats 4000000
/-! What a def has made and gives away: nothing changes it from then on. -/
namespace G
open PySem PySem.Spec PyProof.Rows L2
def mapO (f : D → Option D) : List D → Option (List D)
  | [] => some []
  | d :: ds => match f d with
    | some e => (match mapO f ds with
      | some es => some (e :: es)
      | none => none)
    | none => none
/-- objects of the store from n on become values -/
def fz (n : Nat) (st : Sto) : Nat → D → Option D
  | 0, _ => none
  | f + 1, d => match d with
    | .ref m => if Nat.blt m n then some (.ref m) else (match st[m]? with
      | some (.lst ds) => (mapO (fz n st f) ds).map .lst
      | some (.dic ks ds) => (mapO (fz n st f) ds).map (.dic ks)
      | some (.ins k ns ds) => (mapO (fz n st f) ds).map (.ins k ns)
      | none => none)
    | .tup ds => (mapO (fz n st f) ds).map .tup
    | .lst ds => (mapO (fz n st f) ds).map .lst
    | .clo k ds => (mapO (fz n st f) ds).map (.clo k)
    | .dic ks ds => (mapO (fz n st f) ds).map (.dic ks)
    | .ins k ns ds => (mapO (fz n st f) ds).map (.ins k ns)
    | d => some d
def fzO (n : Nat) (st : Sto) (f : Nat) : SO → Option SO
  | .lst ds => (mapO (fz n st f) ds).map .lst
  | .dic ks ds => (mapO (fz n st f) ds).map (.dic ks)
  | .ins k ns ds => (mapO (fz n st f) ds).map (.ins k ns)
def mapS (f : SO → Option SO) : Sto → Option Sto
  | [] => some []
  | d :: ds => match f d with
    | some e => (match mapS f ds with
      | some es => some (e :: es)
      | none => none)
    | none => none
section
variable {C : Cfg} {η t : List Addr} {H : Hp} {st : Sto} {a : Addr}
theorem map_some {α β : Type} {o : Option α} {f : α → β} {y : β} (h : o.map f = some y) : ∃ x, o = some x ∧ f x = y := by
  cases o with
  | none => cases h
  | some x => exact ⟨x, rfl, Option.some.inj h⟩
theorem mapO_rep {f : D → Option D} (hf : ∀ d e v, f d = some e → Rep C (η ++ t) H d v → Rep C η H e v) : ∀ {ds es : List D} {vs : List V}, mapO f ds = some es → RepL C (η ++ t) H ds vs → RepL C η H es vs
  | [], es, vs, h, r => by
    cases h
    rw [RepL] at r
    subst r
    exact RepL.nil
  | d :: ds, es, vs, h, r => by
    unfold mapO at h
    split at h
    · rename_i e he
      split at h
      · rename_i es2 h2
        cases h
        rw [RepL] at r
        obtain ⟨v, us, rfl, r1, r2⟩ := r
        exact RepL.cons (hf d e v he r1) (mapO_rep hf h2 r2)
      · cases h
    · cases h
theorem out_of (k : StOk C (η ++ t) st H) {m : Nat} (hm : ¬ m < η.length) (e : (η ++ t)[m]? = some a) : a ∉ η ∧ a ∉ C.hot := by
  refine ⟨fun z => ?_, fun z => (k.hot a z).1 (List.mem_of_getElem? e)⟩
  have nd := k.nd
  rw [List.nodup_append] at nd
  rw [List.getElem?_append_right (Nat.le_of_not_lt hm)] at e
  exact nd.2.2 a z a (List.mem_of_getElem? e) rfl
theorem fz_ok (k : StOk C (η ++ t) st H) : ∀ (f : Nat) (d e : D) (v : V), fz η.length st f d = some e → Rep C (η ++ t) H d v → Rep C η H e v
  | 0, _, _, _, h, _ => by cases h
  | f + 1, d, e, v, h, r => by
    have ih : ∀ {ds es : List D} {vs : List V}, mapO (fz η.length st f) ds = some es → RepL C (η ++ t) H ds vs → RepL C η H es vs := fun h2 r2 => mapO_rep (fun d e v => fz_ok k f d e v) h2 r2
    cases d with
    | ref m =>
      rw [Rep] at r
      obtain ⟨a, ea, rfl⟩ := r
      unfold fz at h
      dsimp only at h
      split at h
      · rename_i hb
        cases h
        rw [Nat.blt_eq] at hb
        rw [Rep]
        rw [List.getElem?_append_left hb] at ea
        exact ⟨a, ea, rfl⟩
      · rename_i hb
        rw [Nat.blt_eq] at hb
        obtain ⟨n1, n2⟩ := out_of k hb ea
        split at h
        · rename_i ds es
          obtain ⟨xs, h1, rfl⟩ := map_some h
          obtain ⟨vs, q, rs⟩ := k.ok m a _ ea es
          rw [Rep]
          exact ⟨a, vs, rfl, .inl ⟨n1, n2, .inl q⟩, ih h1 rs⟩
        · rename_i ks ds es
          obtain ⟨xs, h1, rfl⟩ := map_some h
          obtain ⟨kvs, q, hn, rs⟩ := k.ok m a _ ea es
          rw [Rep]
          exact ⟨a, kvs, rfl, ⟨n1, n2, .inl q⟩, hn, ih h1 rs⟩
        · rename_i j ns ds es
          obtain ⟨xs, h1, rfl⟩ := map_some h
          obtain ⟨c, dx, fs, q, g, hn, rs⟩ := k.ok m a _ ea es
          rw [Rep]
          exact ⟨a, c, dx, fs, rfl, ⟨n1, n2, q⟩, g, hn, ih h1 rs⟩
        · cases h
    | tup ds =>
      obtain ⟨xs, h1, rfl⟩ := map_some h
      rw [Rep] at r ⊢
      obtain ⟨a, vs, e, q, rs⟩ := r
      exact ⟨a, vs, e, q.less, ih h1 rs⟩
    | lst ds =>
      obtain ⟨xs, h1, rfl⟩ := map_some h
      rw [Rep] at r ⊢
      obtain ⟨a, vs, e, q, rs⟩ := r
      exact ⟨a, vs, e, q.less, ih h1 rs⟩
    | clo j ds =>
      obtain ⟨xs, h1, rfl⟩ := map_some h
      rw [Rep] at r ⊢
      obtain ⟨a, t, ws, e, l, ⟨c, m1, m2, m3, m4, e1, e2⟩, rs⟩ := r
      exact ⟨a, t, ws, e, l, ⟨c, fun z => m1 (List.mem_append_left _ z), m2, fun z => m3 (List.mem_append_left _ z), m4, e1, e2⟩, ih h1 rs⟩
    | dic ks ds =>
      obtain ⟨xs, h1, rfl⟩ := map_some h
      rw [Rep] at r ⊢
      obtain ⟨a, kvs, e, ⟨m1, m2, m3⟩, hn, rs⟩ := r
      exact ⟨a, kvs, e, ⟨fun z => m1 (List.mem_append_left _ z), m2, m3⟩, hn, ih h1 rs⟩
    | ins j ns ds =>
      obtain ⟨xs, h1, rfl⟩ := map_some h
      rw [Rep] at r ⊢
      obtain ⟨a, c, dx, fs, e, ⟨m1, m2, m3⟩, g, hn, rs⟩ := r
      exact ⟨a, c, dx, fs, e, ⟨fun z => m1 (List.mem_append_left _ z), m2, m3⟩, g, hn, ih h1 rs⟩
    | non => cases h; rw [Rep] at r ⊢; exact r
    | bl b => cases h; rw [Rep] at r ⊢; exact r
    | int b => cases h; rw [Rep] at r ⊢; exact r
    | str b => cases h; rw [Rep] at r ⊢; exact r
    | ty b => cases h; rw [Rep] at r ⊢; exact r
    | glo b => cases h; rw [Rep] at r ⊢; exact r
theorem fzO_ok (k : StOk C (η ++ t) st H) {f : Nat} {x y : SO} (h : fzO η.length st f x = some y) (r : SOk C (η ++ t) H a x) : SOk C η H a y := by
  have ih : ∀ {ds es : List D} {vs : List V}, mapO (fz η.length st f) ds = some es → RepL C (η ++ t) H ds vs → RepL C η H es vs := fun h2 r2 => mapO_rep (fun d e v => fz_ok k f d e v) h2 r2
  cases x with
  | lst ds =>
    obtain ⟨xs, h1, rfl⟩ := map_some h
    obtain ⟨vs, q, rs⟩ := r
    exact ⟨vs, q, ih h1 rs⟩
  | dic ks ds =>
    obtain ⟨xs, h1, rfl⟩ := map_some h
    obtain ⟨kvs, q, n, rs⟩ := r
    exact ⟨kvs, q, n, ih h1 rs⟩
  | ins j ns ds =>
    obtain ⟨xs, h1, rfl⟩ := map_some h
    obtain ⟨c, dx, fs, q, g, n, rs⟩ := r
    exact ⟨c, dx, fs, q, g, n, ih h1 rs⟩
theorem mapS_at {f : SO → Option SO} : ∀ {s1 s2 : Sto} {n : Nat} {y : SO}, mapS f s1 = some s2 → s2[n]? = some y → ∃ x, s1[n]? = some x ∧ f x = some y
  | [], _, n, y, h, e => by
    cases h
    simp at e
  | d :: ds, s2, n, y, h, e => by
    unfold mapS at h
    split at h
    · rename_i e1 h1
      split at h
      · rename_i es h2
        cases h
        cases n with
        | zero =>
          simp at e
          subst e
          exact ⟨d, by simp, h1⟩
        | succ n =>
          obtain ⟨x, q1, q2⟩ := mapS_at (n := n) h2 (by simpa using e)
          exact ⟨x, by simpa using q1, q2⟩
      · cases h
    · cases h
theorem mapS_len {f : SO → Option SO} : ∀ {s1 s2 : Sto}, mapS f s1 = some s2 → s2.length = s1.length
  | [], _, h => by
    cases h
    rfl
  | d :: ds, s2, h => by
    unfold mapS at h
    split at h
    · split at h
      · rename_i es h2
        cases h
        rw [List.length_cons, List.length_cons, mapS_len h2]
      · cases h
    · cases h
theorem StOk.frozen (k : StOk C (η ++ t) st H) {f : Nat} {s2 : Sto} (h : mapS (fzO η.length st f) (st.take η.length) = some s2) : StOk C η s2 H := by
  have hl := k.len
  rw [List.length_append] at hl
  refine ⟨by rw [mapS_len h, List.length_take]; omega, ?_, fun n a o h1 h2 => ?_, fun a ha => ⟨fun z => (k.hot a ha).1 (List.mem_append_left _ z), (k.hot a ha).2⟩, k.tab⟩
  · have := k.nd
    rw [List.nodup_append] at this
    exact this.1
  · have hn : n < η.length := (List.getElem?_eq_some_iff.mp h1).1
    obtain ⟨x, q1, q2⟩ := mapS_at h h2
    rw [List.getElem?_take_of_lt hn] at q1
    exact fzO_ok k q2 (k.ok n a x (by rw [List.getElem?_append_left hn]; exact h1) q1)
end
def fzF : List (Str × D) → List D → List (Str × D)
  | (x, _) :: r, d :: ds => (x, d) :: fzF r ds
  | _, _ => []
theorem fzF_1 : ∀ {fs : List (Str × D)} {ds : List D}, fs.length = ds.length → (fzF fs ds).map (·.1) = fs.map (·.1) ∧ (fzF fs ds).map (·.2) = ds
  | [], [], _ => ⟨rfl, rfl⟩
  | (x, _) :: r, d :: ds, h => by
    obtain ⟨h1, h2⟩ := fzF_1 (fs := r) (ds := ds) (by simpa using h)
    exact ⟨by simp [fzF, h1], by simp [fzF, h2]⟩
  | [], _ :: _, h => by cases h
  | _ :: _, [], h => by cases h
theorem mapO_len {f : D → Option D} : ∀ {s1 s2 : List D}, mapO f s1 = some s2 → s2.length = s1.length
  | [], _, h => by
    cases h
    rfl
  | d :: ds, s2, h => by
    unfold mapO at h
    split at h
    · split at h
      · rename_i es h2
        cases h
        rw [List.length_cons, List.length_cons, mapO_len h2]
      · cases h
    · cases h
def Res.give (n : Nat) (r : Res D) : Res D := match r with
  | .ok d st => if low n d && (st.take n).all (lowO n) then .ok d (st.take n) else (match fz n st 40 d, mapS (fzO n st 40) (st.take n) with
    | some e, some s2 => .ok e s2
    | _, _ => .bad)
  | .exc x st => (match mapO (fz n st 40) (x.fs.map (·.2)), mapS (fzO n st 40) (st.take n) with
    | some es, some s2 => .exc ⟨x.cls, fzF x.fs es⟩ s2
    | _, _ => .bad)
  | .bad => .bad
/-- a def, what it made given away as values -/
def gvD (g : Fn) : Fn := fun ds st => (g ds st).give st.length
theorem FnG.give {P : Program} {w : World} {K : PySem.W.Frag} {mg : Str → Option Value} {base : Heap} {gl : Nat → Option Addr} {tb : List (Addr × Str)} {k : Nat} {f : Addr} {fd : FuncData} {ps : List Str} {g : Fn} (F : FnG P w K mg base gl tb k f fd ps g) : FnG P w K mg base gl tb k f fd ps (gvD g) :=
  F.imp fun hot lam η st ds vs H Q E k1 rd hl p => by
    unfold gvD at p
    have hn : st.length = η.length := k1.len.symm
    cases e : g ds st with
    | ok d st' =>
      rw [e] at p
      intro v η' H' s k' r
      obtain ⟨t, rfl, ht⟩ := s.ext
      unfold Res.give at p
      dsimp only at p
      rw [hn] at p
      split at p
      · rename_i h
        rw [Bool.and_eq_true] at h
        exact p v η H' ⟨⟨[], by simp, by simp⟩, s.keep, s.dom⟩ (k'.less h.2) (r.less h.1)
      · split at p
        · rename_i y s2 h1 h2
          exact p v η H' ⟨⟨[], by simp, by simp⟩, s.keep, s.dom⟩ (k'.frozen h2) (fz_ok k' 40 d y v h1 r)
        · exact p.elim
    | exc x st' =>
      rw [e] at p
      intro c dd η' H' s k' r
      obtain ⟨t, rfl, ht⟩ := s.ext
      unfold Res.give at p
      dsimp only at p
      rw [hn] at p
      split at p
      · rename_i es s2 h1 h2
        have hf := fzF_1 (fs := x.fs) (ds := es) (by rw [mapO_len h1, List.length_map])
        refine p c dd η H' ⟨⟨[], by simp, by simp⟩, s.keep, s.dom⟩ (k'.frozen h2) ⟨r.1, ?_⟩
        rcases r.2 with ⟨z1, z2⟩ | ⟨a, us, z1, z2, z3, z4, z5, z6⟩
        · refine .inl ⟨?_, z2⟩
          have e1 := hf.1
          rw [z1] at e1 ⊢
          exact List.map_eq_nil_iff.mp (by rw [e1]; rfl)
        · exact .inr ⟨a, us, z1, fun q => z2 (List.mem_append_left _ q), z3, z4, by rw [hf.1]; exact z5, by rw [hf.2]; exact mapO_rep (fun d e v => fz_ok k' 40 d e v) h1 z6⟩
      · exact p.elim
    | bad => rw [e] at p; exact p.elim
end G

set_option Elab.async false
set_option linter.all false
set_option maxRecDepth 100000
set_option maxHeartbeats 4000000
/-! Dicts: displays, items, get, in, stores. -/
namespace G
open PySem PySem.Spec PyProof.Rows L2
def keq : Key → Key → Bool
  | .inl i, .inl j => i == j
  | .inr x, .inr y => eqNs x.cps.toList y.cps.toList
  | _, _ => false
theorem keq_ok (a b : Key) : keq a b = decide (a = b) := by
  rcases a with i | x <;> rcases b with j | y
  · show (i == j) = _
    rw [Bool.eq_iff_iff, beq_iff_eq, decide_eq_true_eq, Sum.inl.injEq]
  · show false = _
    simp
  · show false = _
    simp
  · show eqNs x.cps.toList y.cps.toList = _
    rw [eqNs_eq, Bool.eq_iff_iff, beq_iff_eq, decide_eq_true_eq, Sum.inr.injEq]
    constructor
    · intro h
      obtain ⟨⟨xs⟩⟩ := x
      obtain ⟨⟨ys⟩⟩ := y
      have h : xs = ys := h
      rw [h]
    · intro h
      rw [h]
def dKey : D → Option Key
  | .int i => some (.inl i)
  | .str s => some (.inr ⟨s.toArray⟩)
  | _ => none
theorem dKey_ok {C : Cfg} {η : List Addr} {H : Hp} {d : D} {v : V} {k : Key} (h : dKey d = some k) (r : Rep C η H d v) : v = kV k := by
  cases d <;> first | (cases h; done) | (cases h; rw [Rep] at r; subst r; rfl)
/-- the value at k -/
def getD_ (k : Key) : List Key → List D → Option D
  | k0 :: ks, d :: ds => if keq k0 k then some d else getD_ k ks ds
  | _, _ => none
def repD (k : Key) (d : D) : List Key → List D → List D
  | k0 :: ks, d0 :: ds => (if keq k0 k then d else d0) :: repD k d ks ds
  | _, _ => []
def putD (k : Key) (d : D) (ks : List Key) (ds : List D) : List Key × List D := if ks.any (fun k0 => keq k0 k) then (ks, repD k d ks ds) else (ks ++ [k], ds ++ [d])
section
variable {C : Cfg} {η : List Addr} {H : Hp}
theorem get_rep {k : Key} : ∀ {kvs : List (Key × V)} {ds : List D}, RepL C η H ds (kvs.map (·.2)) → match getD_ k (kvs.map (·.1)) ds with
    | some d => ∃ v, valV kvs k = some v ∧ Rep C η H d v
    | none => valV kvs k = none
  | [], ds, r => by
    have h := r.length
    cases ds with
    | nil => rfl
    | cons d ds => simp at h
  | q :: kvs, [], r => by
    have h := r.length
    simp at h
  | q :: kvs, d :: ds, r => by
    rw [List.map_cons, RepL] at r
    obtain ⟨v, us, e, r1, r2⟩ := r
    cases e
    have ih := get_rep (k := k) r2
    rw [List.map_cons]
    unfold getD_
    rw [keq_ok]
    by_cases hk : q.1 = k
    · rw [if_pos (decide_eq_true hk)]
      exact ⟨_, valV_pos hk, r1⟩
    · rw [if_neg (by simpa using hk), valV_neg hk]
      exact ih
theorem rep_all {k : Key} {d : D} {v : V} (rv : Rep C η H d v) : ∀ {kvs : List (Key × V)} {ds : List D}, RepL C η H ds (kvs.map (·.2)) → RepL C η H (repD k d (kvs.map (·.1)) ds) ((kvs.map fun kv => if kv.1 = k then (kv.1, v) else kv).map (·.2))
  | [], ds, r => by
    have h := r.length
    cases ds with
    | nil => exact RepL.nil
    | cons d ds => simp at h
  | q :: kvs, [], r => by
    have h := r.length
    simp at h
  | q :: kvs, d0 :: ds, r => by
    rw [List.map_cons, RepL] at r
    obtain ⟨u, us, e, r1, r2⟩ := r
    cases e
    have ih := rep_all (k := k) rv r2
    simp only [List.map_cons, repD, keq_ok]
    refine RepL.cons ?_ ih
    by_cases hk : q.1 = k
    · simp [hk, rv]
    · simp [hk, r1]
theorem put_rep {k : Key} {d : D} {v : V} {kvs : List (Key × V)} {ds : List D} (rv : Rep C η H d v) (r : RepL C η H ds (kvs.map (·.2))) : (putK kvs k v).map (·.1) = (putD k d (kvs.map (·.1)) ds).1 ∧ RepL C η H (putD k d (kvs.map (·.1)) ds).2 ((putK kvs k v).map (·.2)) := by
  have e : (kvs.map (·.1)).any (fun k0 => keq k0 k) = kvs.any fun kv => decide (kv.1 = k) := by
    rw [List.any_map]
    exact congrArg (fun f => kvs.any f) (funext fun q => keq_ok _ _)
  unfold putK putD
  rw [e]
  by_cases h : (kvs.any fun kv => decide (kv.1 = k)) = true
  · rw [if_pos h, if_pos h]
    refine ⟨?_, rep_all rv r⟩
    rw [List.map_map]
    apply List.map_congr_left
    intro q _
    show (if q.1 = k then (q.1, v) else q).1 = q.1
    split <;> rfl
  · rw [if_neg h, if_neg h]
    exact ⟨by simp, by rw [List.map_append]; exact r.append (RepL.one rv)⟩
end
/-! ### displays -/
def keysD : List (D × D) → Option (List (Key × D))
  | [] => some []
  | (a, b) :: r => match dKey a with
    | some k => (match keysD r with
      | some l => some ((k, b) :: l)
      | none => none)
    | none => none
def mergeD (l : List (Key × D)) (z : List Key × List D) : List Key × List D := l.foldl (fun acc kd => putD kd.1 kd.2 acc.1 acc.2) z
abbrev EvP := Env → Sto → Res (List (D × D))
def cPN : EvP := fun _ st => .ok [] st
def cPC (fk fv : Ev) (g : EvP) : EvP := fun ρ st => (fk ρ st).bind fun a st1 => (fv ρ st1).bind fun b st2 => (g ρ st2).bind fun l st3 => .ok ((a, b) :: l) st3
def cDic (g : EvP) : Ev := fun ρ st => (g ρ st).bind fun l st1 => match keysD l with
  | some m => if Nat.ble m.length 15 then .ok (.dic (mergeD m ([], [])).1 (mergeD m ([], [])).2) st1 else .bad
  | none => .bad
def RepPs (C : Cfg) (η : List Addr) (H : Hp) (l : List (D × D)) (ps : List (V × V)) : Prop := RepL C η H (l.map (·.1)) (ps.map (·.1)) ∧ RepL C η H (l.map (·.2)) (ps.map (·.2))
def tP (C : Cfg) (W : WX) (g : EvP) (σ : L2.St) (H : Hp) (Q : List (V × V) → Hp → Prop) : Prop := ∃ η ρ st, StOk C η st H ∧ EnvOk C η H ρ σ ∧ Post C W σ (RepPs C) η H (g ρ st) Q
abbrev Cfg.at_ (C : Cfg) (hot : List Addr) : Cfg := ⟨C.K, C.gl, hot, C.lam, C.tabs⟩
structure SPs (X : Cx) (C : Cfg) (pos : Pos) (ks : List (Option Expr)) (vs : List Expr) (g : EvP) : Prop where
  run : ∀ W, Takes X W → ∃ trs, PPs X pos ks vs trs ∧ ∀ hot σ H Q, tP (C.at_ hot) W g σ H Q → tPairs trs σ H Q
section
variable {X : Cx} {C : Cfg} {pos : Pos} {k v : Expr} {ks : List (Option Expr)} {vs : List Expr} {fk fv : Ev} {g : EvP}
theorem SPs.nil : SPs X C pos [] [] cPN := ⟨fun W tk => ⟨[], pps_nil, fun hot σ H Q ⟨η, ρ, st, ko, en, p⟩ => p [] η H Step.refl ko ⟨RepL.nil, RepL.nil⟩⟩⟩
theorem SPs.cons (hk : ∀ hot, SE X (C.at_ hot) k fk) (hv : ∀ hot, SE X (C.at_ hot) v fv) (hr : SPs X C pos ks vs g) : SPs X C pos (some k :: ks) (v :: vs) (cPC fk fv g) := ⟨fun W tk => by
  obtain ⟨trs, h1, h2⟩ := hr.run W tk
  have pk : ∀ {e : Expr} {f : Ev}, (∀ hot, SE X (C.at_ hot) e f) → PE X e (fun σ H Q => ∃ hot, tE (C.at_ hot) W f σ H Q) := fun h => ⟨fun pins s σ H Q I ⟨hot, q⟩ => ((h hot).run W tk).run pins s σ H Q I q⟩
  refine ⟨_, pps_cons (pk hk) (pk hv) h1, fun hot σ H Q ⟨η, ρ, st, ko, en, p⟩ => ?_⟩
  refine ⟨hot, η, ρ, st, ko, en, Post.bind (R := Rep (C.at_ hot)) (r := fk ρ st) p fun a st1 x η1 H1 _ s1 k1 ra p1 => ?_⟩
  refine ⟨hot, η1, ρ, st1, k1, en.mono s1, Post.bind (R := Rep (C.at_ hot)) (r := fv ρ st1) p1 fun b st2 y η2 H2 _ s2 k2 rb p2 => ?_⟩
  refine h2 hot σ H2 _ ⟨η2, ρ, st2, k2, (en.mono s1).mono s2, Post.bind (R := RepPs (C.at_ hot)) (r := g ρ st2) p2 fun l st3 ps η3 H3 _ s3 k3 rl p3 => ?_⟩
  exact p3 _ η3 H3 Step.refl k3 ⟨RepL.cons ((ra.mono s2).mono s3) rl.1, RepL.cons (rb.mono s3) rl.2⟩⟩
end
end G

set_option Elab.async false
set_option linter.all false
set_option maxRecDepth 100000
set_option maxHeartbeats 4000000
/-! Dict displays. -/
namespace G
open PySem PySem.Spec PyProof.Rows L2
section
variable {C C' : Cfg} {η : List Addr} {H : Hp} {st : Sto}
theorem RepX.conv {x : Exc} {c : Value} {d : Option Addr} (l : Like C C' H) (h : RepX C η H x c d) : RepX C' η H x c d := by
  refine ⟨by rw [← l.g]; exact h.1, h.2.imp id fun ⟨a, us, z1, z2, z3, z4, z5, z6⟩ => ⟨a, us, z1, z2, fun z => ?_, z4, z5, z6.conv l⟩⟩
  have e := l.h a z z3
  rw [z4] at e
  cases e
theorem hot_like {p : Addr} (hp : H p = none) : Like C (C.at_ (p :: C.hot)) H := ⟨rfl, rfl, rfl, rfl, fun a b c => by
  rcases List.mem_cons.mp b with rfl | b
  · exact hp
  · exact absurd b c⟩
theorem StOk.beginM {p : Addr} {u : HO} (mu : Mut u) (k : StOk C η st H) (hp : H p = none) : StOk (C.at_ (p :: C.hot)) η st (upd H p u) := by
  refine ⟨k.len, k.nd, fun n a x h1 h2 => ((k.ok n a x h1 h2).conv (hot_like hp)).mono (Step.new hp) ?_, fun b hb => ?_, k.tab.ext fun b u e => by rw [upd_ne (ne_of_none e hp)]; exact e⟩
  · obtain ⟨u, e⟩ := k.there (List.mem_of_getElem? h1)
    rw [upd_ne (ne_of_none e hp)]
  · rcases List.mem_cons.mp hb with w | w
    · subst w
      exact ⟨new_out k hp, u, upd_same, mu⟩
    · exact ⟨(k.hot b w).1, (k.hot b w).2.imp fun o e => ⟨by rw [upd_ne (ne_of_none e.1 hp)]; exact e.1, e.2⟩⟩
theorem StOk.restM {p : Addr} {o u : HO} (k : StOk C η st H) (h : p ∈ C.hot) (el : H p = some u) (mu : Mut u) (mo : Mut o) : StOk C η st (upd H p o) := by
  have n := (k.hot p h).1
  refine ⟨k.len, k.nd, fun m a x h1 h2 => (k.ok m a x h1 h2).rest (rest_upd h) (upd_ne fun z => n (z ▸ List.mem_of_getElem? h1)), fun b hb => ⟨(k.hot b hb).1, ?_⟩, fun q hq => tab_upd el mu (k.tab q hq)⟩
  by_cases e : b = p
  · exact ⟨o, by rw [e, upd_same], mo⟩
  · rw [upd_ne e]
    exact (k.hot b hb).2
theorem cool_like {p : Addr} : Like (C.at_ (p :: C.hot)) C H := ⟨rfl, rfl, rfl, rfl, fun a h n => absurd (List.mem_cons_of_mem _ h) n⟩
theorem cool {p : Addr} (k : StOk (C.at_ (p :: C.hot)) η st H) : StOk C η st H := k.conv cool_like fun a ha => k.hot a (List.mem_cons_of_mem _ ha)
theorem keys_rep : ∀ {l : List (D × D)} {m : List (Key × D)} {ps : List (V × V)}, keysD l = some m → RepPs C η H l ps → ∃ kvs : List (Key × V), ps = kvs.map (fun kv => (kV kv.1, kv.2)) ∧ kvs.map (·.1) = m.map (·.1) ∧ RepL C η H (m.map (·.2)) (kvs.map (·.2))
  | [], m, ps, h, r => by
    cases h
    have e := r.1.length
    cases ps with
    | nil => exact ⟨[], rfl, rfl, RepL.nil⟩
    | cons q ps => simp at e
  | (a, b) :: l, m, [], h, r => by
    have e := r.1.length
    simp at e
  | (a, b) :: l, m, (x, y) :: ps, h, r => by
    unfold keysD at h
    split at h
    · rename_i k hk
      split at h
      · rename_i m2 h2
        cases h
        obtain ⟨r1, r2⟩ := r
        rw [List.map_cons, List.map_cons, RepL] at r1 r2
        obtain ⟨x1, us, e1, a1, a2⟩ := r1
        obtain ⟨y1, ws, e2, b1, b2⟩ := r2
        cases e1
        cases e2
        obtain ⟨kvs, i1, i2, i3⟩ := keys_rep h2 ⟨a2, b2⟩
        have := dKey_ok hk a1
        refine ⟨(k, y) :: kvs, ?_, ?_, RepL.cons b1 i3⟩
        · rw [List.map_cons, ← i1]
          exact congrArg (fun z => (z, y) :: ps) this
        · rw [List.map_cons, List.map_cons, i2]
      · cases h
    · cases h
theorem merge_rep : ∀ {m : List (Key × D)} {kvs acc : List (Key × V)} {ks : List Key} {ds : List D}, kvs.map (·.1) = m.map (·.1) → RepL C η H (m.map (·.2)) (kvs.map (·.2)) → acc.map (·.1) = ks → RepL C η H ds (acc.map (·.2)) →
    (mergeK acc kvs).map (·.1) = (mergeD m (ks, ds)).1 ∧ RepL C η H (mergeD m (ks, ds)).2 ((mergeK acc kvs).map (·.2))
  | [], [], acc, ks, ds, _, _, h3, h4 => ⟨h3, h4⟩
  | [], _ :: _, _, _, _, h, _, _, _ => by simp at h
  | _ :: _, [], _, _, _, h, _, _, _ => by simp at h
  | (k, d) :: m, (k2, v) :: kvs, acc, ks, ds, h1, h2, h3, h4 => by
    simp only [List.map_cons, List.cons.injEq] at h1
    obtain ⟨rfl, h1⟩ := h1
    rw [List.map_cons, List.map_cons, RepL] at h2
    obtain ⟨x, us, e, r1, r2⟩ := h2
    cases e
    subst h3
    obtain ⟨p1, p2⟩ := put_rep (k := k2) r1 h4
    exact merge_rep (m := m) (kvs := kvs) (acc := putK acc k2 v) h1 r2 p1 p2
end
section
variable {X : Cx} {C : Cfg} {pos : Pos} {ks : List (Option Expr)} {vs : List Expr} {g : EvP}
theorem SE.dic (h : SPs X C pos ks vs g) (h0 : ks ≠ []) (hall : ks.all (·.isSome) = true := by rfl) (hl : ks.length = vs.length := by rfl) (h15 : ks.length ≤ 15 := by decide) : SE X C (.Dict ks vs pos) (cDic g) := ⟨fun W tk => by
  obtain ⟨trs, h1, h2⟩ := h.run W tk
  refine PE_imp (pe_disp h1 hall hl h0 h15) fun σ H Q ⟨η, ρ, st, ko, en, post⟩ p hp => ?_
  have np := new_out ko hp
  refine h2 (p :: C.hot) σ _ _ ⟨η, ρ, st, ko.beginM (u := .dK []) trivial hp, (en.conv (hot_like hp)).mono (Step.new hp), ?_⟩
  unfold cDic at post
  cases e : g ρ st with
  | bad => rw [e] at post; exact post.elim
  | exc x st1 =>
    rw [e] at post
    intro c d η' H' s k1 rx
    exact post c d η' H' ((Step.new hp).trans s) (cool k1) (rx.conv cool_like)
  | ok l st1 =>
    rw [e] at post
    intro ps η' H' s k1 rl
    unfold Res.bind at post
    dsimp only at post
    have hP : H' p = some (.dK []) := s.keep p _ upd_same np fun ps z => by cases z
    refine ⟨hP, ?_⟩
    split at post
    · rename_i m hm
      split at post
      · rename_i hb
        obtain ⟨kvs, e1, e2, e3⟩ := keys_rep hm rl
        have hlen : kvs.length = m.length := by
          have := congrArg List.length e2
          simpa using this
        have mem : p ∈ (C.at_ (p :: C.hot)).hot := List.mem_cons_self
        obtain ⟨m1, m2⟩ := merge_rep (acc := []) (ks := []) (ds := []) e2 ((e3.rest (rest_upd (o := .dK (mergeK [] kvs)) mem)).conv cool_like) rfl RepL.nil
        refine ⟨kvs, e1, by rw [hlen]; exact Nat.le_of_ble_eq_true hb, post (.ref p) η' _ ⟨?_, fun a o h n q => ?_, fun a h => ?_⟩ (cool (k1.restM mem hP trivial trivial)) ?_⟩
        · obtain ⟨t, e, ht⟩ := s.ext
          refine ⟨t, e, fun q hq => ?_⟩
          have z := ht q hq
          by_cases hqp : q = p
          · rw [hqp, upd_same] at z
            cases z
          · rw [upd_ne hqp] at z
            exact z
        · have ne := ne_of_none h hp
          rw [upd_ne ne]
          exact s.keep a o (by rw [upd_ne ne]; exact h) n q
        · by_cases ha : a = p
          · rw [ha, upd_same] at h
            cases h
          · rw [upd_ne ha] at h
            have z := s.dom a h
            rw [upd_ne ha] at z
            exact z
        · rw [Rep]
          exact ⟨p, _, rfl, ⟨s.nin upd_same np, new_cold ko hp, .inl upd_same⟩, m1, m2⟩
      · exact post.elim
    · exact post.elim⟩
/-- {} -/
theorem SE.dic0 : SE X C (.Dict [] [] pos) (cC (.dic [] [])) := ⟨fun W tk => PE_imp pe_dnewK fun σ H Q ⟨η, ρ, st, ko, en, post⟩ p hp =>
  post (.ref p) η _ (Step.new hp) (ko.new hp) (by
    rw [Rep]
    exact ⟨p, [], rfl, ⟨new_out ko hp, new_cold ko hp, .inl upd_same⟩, rfl, RepL.nil⟩)⟩
end
end G

set_option Elab.async false
set_option linter.all false
set_option maxRecDepth 100000
set_option maxHeartbeats 4000000
/-! in, not in; <=, >=, > of ints and texts. -/
namespace G
open PySem PySem.Spec PyProof.Rows L2
/-- x in y: a sign of a text; data among data -/
def dInA (neg : Bool) (a b : D) (st : Sto) : Res D := match vw st b with
  | .str z => (match a with
    | .str [c] => .ok (.bl (if neg then !(z.any fun e => Nat.beq c e) else z.any fun e => Nat.beq c e)) st
    | _ => .bad)
  | _ => dIn neg a b st
abbrev rInAll (K : PySem.W.Frag) (neg : Bool) : R2 := fun x y H Q => (∃ (c : Nat) (z : Str), x = .str ⟨#[c]⟩ ∧ y = .str z ∧ Q (.bl (if neg then !decide (c ∈ z.cps.toList) else decide (c ∈ z.cps.toList))) H) ∨ rIn K neg x y H Q
theorem op_inAll {X : Cx} : OpR X (compareOp .In) (rInAll X.K false) := op_in_sign.or op_in_seq
theorem op_notInAll {X : Cx} : OpR X (compareOp .NotIn) (rInAll X.K true) := op_notIn_sign.or op_notIn_seq
theorem any_mem (c : Nat) (z : List Nat) : (z.any fun e => Nat.beq c e) = decide (c ∈ z) := by
  rw [Bool.eq_iff_iff, List.any_eq_true, decide_eq_true_eq]
  constructor
  · rintro ⟨e, m, h⟩
    rw [Nat.beq_eq] at h
    rw [h]
    exact m
  · intro m
    exact ⟨c, m, by rw [Nat.beq_eq]⟩
theorem dInA_ok {C : Cfg} {neg : Bool} : OpD C (dInA neg) (rInAll C.K neg) := by
  intro W σ η st a b x y H Q k ra rb p
  unfold dInA at p
  split at p
  · rename_i z e
    split at p
    · rename_i c
      rw [Rep] at ra
      refine .inl ⟨c, _, ra, vw_str rb e, p.ret k ?_⟩
      rw [Rep, any_mem]
    · exact p.elim
  · exact .inr (dIn_ok W σ η st a b x y H Q k ra rb p)
def dLe (a b : D) (st : Sto) : Res D := match a, b with
  | .int i, .int j => .ok (.bl (decide (i ≤ j))) st
  | .str x, .str y => .ok (.bl (!ltN y x)) st
  | _, _ => .bad
def dGt (a b : D) (st : Sto) : Res D := match a, b with
  | .int i, .int j => .ok (.bl (decide (j < i))) st
  | .str x, .str y => .ok (.bl (ltN y x)) st
  | _, _ => .bad
def dGe (a b : D) (st : Sto) : Res D := match a, b with
  | .int i, .int j => .ok (.bl (decide (j ≤ i))) st
  | .str x, .str y => .ok (.bl (!ltN x y)) st
  | _, _ => .bad
theorem dLe_ok {C : Cfg} : OpD C dLe (fun x y H Q => rI0 (fun i j => .bl (decide (i ≤ j))) x y H Q ∨ ∃ i j, x = .str i ∧ y = .str j ∧ Q (.bl (!decide (j.cps.toList < i.cps.toList))) H) := by
  intro W σ η st a b x y H Q k ra rb q
  unfold dLe at q
  split at q
  · rw [Rep] at ra rb
    exact .inl ⟨_, _, ra, rb, q.ret k (by rw [Rep])⟩
  · rw [Rep] at ra rb
    refine .inr ⟨_, _, ra, rb, q.ret k ?_⟩
    rw [Rep, ltN_eq]
  · exact q.elim
theorem dGt_ok {C : Cfg} : OpD C dGt (fun x y H Q => rI0 (fun i j => .bl (decide (j < i))) x y H Q ∨ ∃ i j, x = .str i ∧ y = .str j ∧ Q (.bl (decide (j.cps.toList < i.cps.toList))) H) := by
  intro W σ η st a b x y H Q k ra rb q
  unfold dGt at q
  split at q
  · rw [Rep] at ra rb
    exact .inl ⟨_, _, ra, rb, q.ret k (by rw [Rep])⟩
  · rw [Rep] at ra rb
    refine .inr ⟨_, _, ra, rb, q.ret k ?_⟩
    rw [Rep, ltN_eq]
  · exact q.elim
theorem dGe_ok {C : Cfg} : OpD C dGe (fun x y H Q => rI0 (fun i j => .bl (decide (j ≤ i))) x y H Q ∨ ∃ i j, x = .str i ∧ y = .str j ∧ Q (.bl (!decide (i.cps.toList < j.cps.toList))) H) := by
  intro W σ η st a b x y H Q k ra rb q
  unfold dGe at q
  split at q
  · rw [Rep] at ra rb
    exact .inl ⟨_, _, ra, rb, q.ret k (by rw [Rep])⟩
  · rw [Rep] at ra rb
    refine .inr ⟨_, _, ra, rb, q.ret k ?_⟩
    rw [Rep, ltN_eq]
  · exact q.elim
theorem op_leAll {X : Cx} : OpR X (compareOp .LtE) (fun x y H Q => rI0 (fun i j => .bl (decide (i ≤ j))) x y H Q ∨ ∃ i j, x = .str i ∧ y = .str j ∧ Q (.bl (!decide (j.cps.toList < i.cps.toList))) H) := op_le.or op_le_str
theorem op_gtAll {X : Cx} : OpR X (compareOp .Gt) (fun x y H Q => rI0 (fun i j => .bl (decide (j < i))) x y H Q ∨ ∃ i j, x = .str i ∧ y = .str j ∧ Q (.bl (decide (j.cps.toList < i.cps.toList))) H) := op_gt.or op_gt_str
theorem op_geAll {X : Cx} : OpR X (compareOp .GtE) (fun x y H Q => rI0 (fun i j => .bl (decide (j ≤ i))) x y H Q ∨ ∃ i j, x = .str i ∧ y = .str j ∧ Q (.bl (!decide (i.cps.toList < j.cps.toList))) H) := op_ge.or op_ge_str
end G

set_option Elab.async false
set_option linter.all false
set_option maxRecDepth 100000
set_option maxHeartbeats 4000000
/-! Lambdas by their place in a def's text. -/
namespace G
open PySem PySem.Spec PyProof.Rows L2
open LamX NdefX
/-- the parts of an expression -/
def subs : Expr → List Expr
  | .BoolOp _ vs _ => vs
  | .BinOp a _ b _ => [a, b]
  | .UnaryOp _ a _ => [a]
  | .Lambda _ b _ _ => [b]
  | .IfExp a b c _ => [a, b, c]
  | .Compare a _ cs _ => a :: cs
  | .Call f as _ _ => f :: as
  | .Attribute a _ _ => [a]
  | .Subscript a b _ => [a, b]
  | .Starred a _ => [a]
  | .List es _ => es
  | .Tuple es _ _ => es
  | .Dict ks vs _ => ks.filterMap id ++ vs
  | .ListComp e _ _ _ => [e]
  | _ => []
def noE : Expr := .Name (Str.ofString "_") ⟨0, 0, 0, 0⟩
def subE (e : Expr) : List Nat → Expr
  | [] => e
  | i :: r => subE ((subs e).getD i noE) r
/-- the expressions, the statements of a statement -/
def stmtE : Stmt → List Expr
  | .Assign ts v _ => v :: ts
  | .Expr v _ => [v]
  | .Return (some v) _ => [v]
  | .If t _ _ _ => [t]
  | .For t i _ _ _ => [i, t]
  | .While t _ _ _ => [t]
  | _ => []
def stmtS : Stmt → List Stmt
  | .If _ a b _ => a ++ b
  | .For _ _ b _ _ => b
  | .While _ b _ _ => b
  | .Try b _ _ _ _ => b
  | _ => []
def subS (b : List Stmt) : List Nat → Stmt
  | [] => .Pass ⟨0, 0, 0, 0⟩
  | [i] => b.getD i (.Pass ⟨0, 0, 0, 0⟩)
  | i :: r => subS (stmtS (b.getD i (.Pass ⟨0, 0, 0, 0⟩))) r
def ltOf : Expr → LT
  | .Lambda p b s _ => ⟨p, b, s⟩
  | _ => ⟨⟨[], [], none, [], [], none, []⟩, noE, ⟨.function, [], false, false, []⟩⟩
/-- the lambda at a place of a def's text -/
def lamAt (b : List Stmt) (ss : List Nat) (i : Nat) (es : List Nat) : LT := ltOf (subE ((stmtE (subS b ss)).getD i noE) es)
/-! ### what it captures -/
def freeB (outer inner : List (Str × NameKind)) : Bool := inner.all fun y => match y.2 with
  | .free => (match outer.lookup y.1 with
    | some .cell => true
    | some .free => true
    | _ => false)
  | _ => true
theorem freeB_ok {outer inner : List (Str × NameKind)} (h : freeB outer inner = true) : ∀ y ∈ inner, y.2 = .free → outer.lookup y.1 = some .cell ∨ outer.lookup y.1 = some .free := by
  intro y hy e
  have z := List.all_eq_true.mp h y hy
  rw [e] at z
  dsimp only at z
  split at z
  · rename_i q
    exact .inl q
  · rename_i q
    exact .inr q
  · cases z
def isFree : NameKind → Bool
  | .free => true
  | _ => false
def frB (N : List Str) (inner : List (Str × NameKind)) : Bool := N.all fun y => inner.any fun p => (p.1 == y) && isFree p.2
theorem frB_ok {N : List Str} {inner : List (Str × NameKind)} (h : frB N inner = true) : ∀ y ∈ N, (y, NameKind.free) ∈ inner := by
  intro y hy
  have z := List.all_eq_true.mp h y hy
  rw [List.any_eq_true] at z
  obtain ⟨⟨a, b⟩, m, q⟩ := z
  rw [Bool.and_eq_true, beq_iff_eq] at q
  obtain ⟨q1, q2⟩ := q
  cases b <;> first | (cases q2; done) | skip
  dsimp only at q1
  subst q1
  exact m
/-- the def's code object -/
theorem code_of {K : PySem.W.Frag} {mg : Str → Option Value} {x : Str} {st : Stmt} {dd : List He.Dv} {fd : FuncData} (at_ : DefAt K mg x st dd (He.ga K x) fd) : fd.code = .ref (He.codeOf K (x, none)) := by
  obtain ⟨oc, od, dV, kV, doc, pm, an, cdv, ct, osl, rfl, lk, hcd, _, _⟩ := at_.fn.ex
  obtain ⟨c, rfl⟩ := He.codeIn_ref hcd
  have e := He.codeOf_eq (p := (x, none)) (c := c) lk rfl
  rw [e]
/-- what a maker's context is -/
structure Maker (X : Cx) (C : Cfg) (tf : List Str) (x : Str) (ls : List LT) : Prop where
  tk : TabK X.K X.mg X.base tf
  mem : x ∈ tf
  code : X.env.code = .ref (He.codeOf X.K (x, none))
  qual : X.env.qual = x ++ ".<locals>."
  tabs : C.tabs = tbOf X.K tf
  lam : C.lam = lamOf X.env ls
  kk : X.K = C.K
section
variable {X : Cx} {C : Cfg} {tf : List Str} {x y : Str} {ls : List LT} {l : LT} {k : Nat} {pos : Pos}
theorem Maker.at_ (M : Maker X C tf x ls) (hl : ls[k]? = some l) : C.lam k = some (⟨X.env.qual ++ "<lambda>", l.params, l.body, l.scope, cloFrom X.env.cells l.scope.names []⟩, []) := by
  rw [M.lam]
  unfold lamOf
  rw [hl]
  rfl
theorem SE.lamM (M : Maker X C tf x ls) (hl : ls[k]? = some l) (hf : freeB X.env.scope.names l.scope.names = true) (hdef : defaultsOf l.params X.env = ([], []) := by rfl) : SE X C (.Lambda l.params l.body l.scope pos) (cC (.clo k [])) := by
  refine SE.lam k (M.tk.ok x M.mem) M.code ?_ ?_ (M.at_ hl) (fun ok y hy e => ?_) hdef
  · rw [M.tabs, M.qual]
    exact tb_mem M.mem
  · rw [M.tabs, M.qual]
    exact tb_un M.tk.nd M.mem
  · rcases freeB_ok hf y hy e with z | z
    · exact ok.has _ (.inl z)
    · exact ok.has _ (.inr z)
/-- f(lambda: ..), f a def that calls what it gets -/
theorem SE.callM {kl kf : Nat} {f : Addr} {fd : FuncData} {ps : List Str} {gW : (Nat → List D → Sto → Res D) → Fn} {g : Ev} {e : Expr} {es : List Expr} {fs : EvA} {p : Pos} {st : Stmt} {N : List Str} {js : List Nat} (M : Maker X C tf x ls) (F : ∀ kc, FnC X.prog X.w X.K X.mg X.base C.gl C.tabs kc kf f fd ps gW)
    (L : LamOk X.prog X.w X.K X.mg X.base C.gl C.tabs kl (lq x) l.params l.body l.scope N g) (at_ : DefAt X.K X.mg y st [] f fd) (hl : ls[k]? = some l) (hr : Room (kl + 1 + kf) X.A) (hgd : X.A.guards = some []) (hb : ∃ ds, Vals ((([] : List D).map dvD).map (He.Dv.v X.K)) ds ∧ Binds X.K fd ps ds)
    (ha : SA X C (e :: es) fs) (hn : (e :: es).length = ps.length) (hlen : ∀ ρ st a st1, fs ρ st = .ok a st1 → a.length = (e :: es).length) (hf : freeB X.env.scope.names l.scope.names = true) (hN : frB N l.scope.names = true) (hjs : js.map (fun j => X.N[j]?) = N.map some) (hg : Gl X y := by rfl)
    (hdb : (y == ("__debug__" : Str)) = false := by decide) (he : starEach (e :: es) X.env = (false, eval e X.env) :: starEach es X.env := by rfl) (hpl : (backTo pos (starEach es X.env)).any (·.1) = false := by rfl) :
    SE X C (.Call (.Name y p) (e :: es) [] pos) (cCallC gW g k js fs) := by
  obtain ⟨ds, hd, hb⟩ := hb
  have e0 : ds = [] := by
    have := hd.length
    cases ds with
    | nil => rfl
    | cons d r => simp at this
  subst e0
  have L2 : LamOk X.prog X.w X.K X.mg X.base C.gl C.tabs kl (X.env.qual ++ "<lambda>") l.params l.body l.scope N g := by
    rw [M.qual]
    exact L
  exact SE.callC (F (kl + 1)) L2 (M.at_ hl) (fun ok => Caps.made ok (freeB_ok hf) (frB_ok hN) hjs) M.kk hr hgd hg at_.g at_.fn.kp hb ha hn hlen hdb he hpl
end
end G

set_option Elab.async false
set_option linter.all false
set_option maxRecDepth 100000
set_option maxHeartbeats 4000000
/-! Own exception classes: what the head tells, by Bool. -/
namespace G
open PySem PySem.Spec PyProof.Rows L2
open LamX NdefX
/-- a class without an __init__ of its own -/
structure XP (K : PySem.W.Frag) (mg : Str → Option Value) (x : Str) (newId : String) (bmB : List Value) : Prop where
  exc : PySem.W.excIn K (He.ga K x) bmB newId = true
  kp : PySem.W.keepIn K (.ref (He.ga K x)) = true
  sub : PySem.W.subIn K (.ref (He.ga K x)) (.type "BaseException") = some true
  ty : PySem.W.typeIn K (.ref (He.ga K x)) = some (.type "type")
  g : mg x = some (.ref (He.ga K x))
def xpB (K : PySem.W.Frag) (x : Str) (newId : String) (bmB : List Value) : Bool :=
  PySem.W.excIn K (He.ga K x) bmB newId && (PySem.W.keepIn K (.ref (He.ga K x)) && (decide (PySem.W.subIn K (.ref (He.ga K x)) (.type "BaseException") = some true) && decide (PySem.W.typeIn K (.ref (He.ga K x)) = some (.type "type"))))
theorem xp_ok {K : PySem.W.Frag} {mg : Str → Option Value} {x : Str} {newId : String} {bmB : List Value} (h : xpB K x newId bmB = true) (g : mg x = some (.ref (He.ga K x))) : XP K mg x newId bmB := by
  unfold xpB at h
  simp only [Bool.and_eq_true, decide_eq_true_eq] at h
  exact ⟨h.1, h.2.1, h.2.2.1, h.2.2.2, g⟩
/-- the classes, numbered -/
def glOf (K : PySem.W.Frag) (cs : List Str) : Nat → Option Addr := fun k => (cs[k]?).map (He.ga K)
/-- who stands under whom -/
def subN (m : List (List Bool)) (i j : Nat) : Bool := (m.getD i []).getD j false
def subB (K : PySem.W.Frag) (cs : List Str) (m : List (List Bool)) : Bool := (List.range cs.length).all fun i => (List.range cs.length).all fun j => !subN m j j || decide (PySem.W.exmOne K (.ref (He.ga K (cs.getD i (Str.ofString "")))) (.ref (He.ga K (cs.getD j (Str.ofString "")))) = some (subN m i j))
theorem sub_ok {K : PySem.W.Frag} {cs : List Str} {m : List (List Bool)} (h : subB K cs m = true) : SubOk K (glOf K cs) (subN m) := by
  intro i j a c hi hj hs
  unfold glOf at hi hj
  cases ei : cs[i]? with
  | none => rw [ei] at hi; cases hi
  | some x =>
    cases ej : cs[j]? with
    | none => rw [ej] at hj; cases hj
    | some y =>
      rw [ei] at hi
      rw [ej] at hj
      cases hi
      cases hj
      have li := (List.getElem?_eq_some_iff.mp ei).1
      have lj := (List.getElem?_eq_some_iff.mp ej).1
      have z := List.all_eq_true.mp (List.all_eq_true.mp h i (List.mem_range.mpr li)) j (List.mem_range.mpr lj)
      rw [hs, Bool.not_true, Bool.false_or] at z
      have z2 := of_decide_eq_true z
      rw [List.getD_eq_getElem?_getD, List.getD_eq_getElem?_getD, ei, ej] at z2
      exact z2
section
variable {X : Cx} {C : Cfg} {k : Nat} {x m : Str} {np pos rp p2 : Pos} {i : Nat} {B newId initId : String} {bmB : List Value} {e : Expr} {fe : Ev}
theorem SS.raiseP (F : PySem.ExcBaseFacts B newId initId bmB) (T : XP X.K X.mg x newId bmB) (hgl : C.gl k = some (He.ga X.K x)) (hc : X.calm = true) (hg : Gl X x := by rfl) (hdb : (x == ("__debug__" : Str)) = false := by decide) :
    SS X C (.Raise (some (.Call (.Name x np) [.Constant (.str m) i p2] [] pos)) none rp) (sRaise k) := SS.raiseT F T.exc T.kp (raises_own T.sub T.ty) hgl hc T.g hg hdb
theorem SS.raisePE (F : PySem.ExcBaseFacts B newId initId bmB) (T : XP X.K X.mg x newId bmB) (hgl : C.gl k = some (He.ga X.K x)) (hc : X.calm = true) (he : SE X C e fe) (hg : Gl X x := by rfl) (hst : starEach [e] X.env = (false, eval e X.env) :: starEach [] X.env := by rfl) (hdb : (x == ("__debug__" : Str)) = false := by decide) :
    SS X C (.Raise (some (.Call (.Name x np) [e] [] pos)) none rp) (sRaiseE k fe) := SS.raiseE F T.exc T.kp (raises_own T.sub T.ty) hgl hc T.g he hg hst hdb
end
end G

set_option Elab.async false
set_option linter.all false
set_option maxRecDepth 100000
set_option maxHeartbeats 4000000
/-! Sums that are changed later; the facts of a maker. -/
namespace G
open PySem PySem.Spec PyProof.Rows L2
open LamX NdefX
/-- list + list, a new thing of the store -/
def dAddN (a b : D) (st : Sto) : Res D := match vw st a, vw st b with
  | .lst x, .lst y => if big (x.length + y.length) then .ok (.ref st.length) (st ++ [.lst (x ++ y)]) else .bad
  | _, _ => .bad
theorem dAddN_ok {C : Cfg} : OpD C dAddN (rAddAll C.K) := by
  intro W σ η st a b x y H Q k ra rb p
  unfold dAddN at p
  split at p
  · rename_i s t e1 e2
    obtain ⟨a1, xs, rfl, q1, r1⟩ := vw_lst k ra e1
    obtain ⟨a2, ys, rfl, q2, r2⟩ := vw_lst k rb e2
    split at p
    · rename_i hb
      exact .inr (.inr (.inr (.inl ⟨a1, a2, xs, ys, rfl, rfl, q1, q2, by rw [← r1.length, ← r2.length]; exact big_line hb, p.new k (r1.append r2)⟩)))
    · exact p.elim
  · exact p.elim
section
variable {P : Program} {w : World} {K : PySem.W.Frag} {mg : Str → Option Value} {base : Heap} {gl : Nat → Option Addr} {tf : List Str} {x : Str} {N : List Str} {scope : Scope} {f : Addr} {cdv : Value} {A : Around} {outer : List PySem.Env} {s : Shared} {H : Hp} {E : XK} {hot : List Addr} {ls : List LT}
theorem mk_maker (TK : TabK K mg base tf) (hx : tf.contains x = true) (hc : cdv = .ref (He.codeOf K (x, none))) : Maker (cxOf (L2.CX P w) P w K mg base N x scope f cdv A outer s H E) ⟨K, gl, hot, lamOf (envOfC x scope s.heap.objs.size f cdv) ls, tbOf K tf⟩ tf x ls :=
  ⟨TK, by simpa using hx, hc, rfl, rfl, rfl, rfl⟩
/-- a head's facts of the tables -/
theorem tabs_of {fa : List He.Fa} {fn : List He.DefD} {ex : PySem.W.Frag → Bool} {xs : List (Str × Option Str)} {xv : List FnS} {h : Heap} (KX : K.In h) (c : SaysY fa fn (tf.map fun x => (x, none)) ex xs xv w h K) : ∀ x ∈ tf, h.get? (He.cT K (x, none)).2 = some Emp ∧ K.lookup (He.cT K (x, none)).2 = none ∧ PySem.W.CodeHd h (He.cT K (x, none)).1 (He.cT K (x, none)).2 := fun x hx =>
  ⟨c.empty _ (List.mem_map.mpr ⟨x, hx, rfl⟩), c.out _ (List.mem_map.mpr ⟨x, hx, rfl⟩), PySem.W.codeHd_of_K KX (c.hd _ (List.mem_map.mpr ⟨x, hx, rfl⟩))⟩
end
/-- nobody stands under class k but itself -/
def leafB (m : List (List Bool)) (n k : Nat) : Bool := subN m k k && (List.range n).all fun j => !subN m j k || Nat.beq j k
theorem leaf_ok {K : PySem.W.Frag} {cs : List Str} {m : List (List Bool)} {k : Nat} {x : Str} (s : SubOk K (glOf K cs) (subN m)) (hx : cs[k]? = some x) (h : leafB m cs.length k = true) : ∀ j b, glOf K cs j = some b → PySem.W.exmOne K (.ref b) (.ref (He.ga K x)) = some true → b = He.ga K x := by
  intro j b hj he
  have hk : glOf K cs k = some (He.ga K x) := by
    unfold glOf
    rw [hx]
    rfl
  unfold leafB at h
  rw [Bool.and_eq_true] at h
  obtain ⟨h0, h⟩ := h
  have e := s j k b _ hj hk h0
  rw [he] at e
  have lj : j < cs.length := by
    unfold glOf at hj
    cases q : cs[j]? with
    | none => rw [q] at hj; cases hj
    | some y => exact (List.getElem?_eq_some_iff.mp q).1
  have z := List.all_eq_true.mp h j (List.mem_range.mpr lj)
  rw [← Option.some.inj e] at z
  have z2 : Nat.beq j k = true := by simpa using z
  rw [Nat.beq_eq] at z2
  subst z2
  rw [hk] at hj
  exact (Option.some.inj hj).symm
end G

set_option Elab.async false
set_option linter.all false
set_option maxRecDepth 100000
set_option maxHeartbeats 4000000
/-! [..] * k. -/
namespace G
open PySem PySem.Spec PyProof.Rows L2
def cRepC (fs : EvA) (k : Nat) : Ev := fun ρ st => (fs ρ st).bind fun ds st1 => if big ds.length && (big (ds.length * k) && big k) then .ok (.lst (List.replicate k ds).flatten) st1 else .bad
section
variable {C : Cfg} {η : List Addr} {H : Hp}
theorem RepL.rep {ds : List D} {vs : List V} (r : RepL C η H ds vs) : ∀ k : Nat, RepL C η H (List.replicate k ds).flatten (List.replicate k vs).flatten
  | 0 => RepL.nil
  | k + 1 => by
    rw [List.replicate_succ, List.replicate_succ, List.flatten_cons, List.flatten_cons]
    exact r.append (RepL.rep r k)
end
section
variable {X : Cx} {C : Cfg} {es : List Expr} {fs : EvA} {p1 p2 pos : Pos} {j : Nat}
theorem SE.repC {k : Int} (h0 : decide (0 ≤ k) = true) (hs : SA X C es fs) : SE X C (.BinOp (.List es p1) .Mult (.Constant (.int k) j p2) pos) (cRepC fs k.toNat) := ⟨fun W tk => PE_imp (pe_op op_rep (pe_lst (hs.run W tk)) pe_int) fun σ H Q ⟨η, ρ, st, ko, en, p⟩ =>
  ⟨η, ρ, st, ko, en, Post.bind (R := RepL C) (r := fs ρ st) p fun ds st1 vs η1 H1 _ s1 k1 rs p1 => by
    have h0 : 0 ≤ k := of_decide_eq_true h0
    by_cases hb : (big ds.length && (big (ds.length * k.toNat) && big k.toNat)) = true
    · rw [if_pos hb] at p1
      rw [Bool.and_eq_true, Bool.and_eq_true] at hb
      obtain ⟨b1, b2, b3⟩ := hb
      have hk : k.toNat ≤ 100000 := Nat.le_of_ble_eq_true b3
      refine ⟨by rw [← rs.length]; exact big_line b1, fun p hp => ⟨p, k, vs, rfl, rfl, upd_same, by omega, by omega, by rw [← rs.length]; exact big_line b2, fun q hq => ?_⟩⟩
      have k2 := k1.new (o := .lst vs) hp
      have r2 := rs.mono (Step.new (η := η1) (o := .lst vs) hp)
      exact (p1.step (Step.new hp)).lst k2 (r2.rep k.toNat) q hq
    · rw [if_neg hb] at p1
      exact p1.elim⟩⟩
end
end G

set_option Elab.async false
set_option linter.all false
set_option maxRecDepth 100000
set_option maxHeartbeats 4000000
/-! Clauses by their texts' signs. -/
namespace G
open PySem PySem.Spec PyProof.Rows L2
theorem str_of {x : Str} {s : List Nat} (h : x.cps.toList = s) : x = ⟨s.toArray⟩ := by
  subst h
  obtain ⟨a⟩ := x
  simp
section
variable {X : Cx} {C : Cfg} {k : Nat} {x y n f : Str} {s : List Nat} {a : Addr} {i v : Nat} {p1 p2 p3 p4 p5 p6 p7 p8 p9 : Pos} {hs : List ExceptHandler} {cz : List Cz}
theorem SC.txtS (h : y.cps.toList = s) (hgl : C.gl k = some a) (hm : X.mg x = some (.ref a)) (hg : Gl X x) (hdb : (x == ("__debug__" : Str)) = false) (r : SC X C hs cz) :
    SC X C (.ExceptHandler (some (.Name x p1)) none [.Return (some (.Constant (.str y) i p2)) p3] p4 :: hs) (.txt k s :: cz) := by
  rw [str_of h]
  exact .txt hgl hm hg hdb r
theorem SC.fldS (h : y.cps.toList = s) (hgl : C.gl k = some a) (hm : X.mg x = some (.ref a)) (hg : Gl X x) (hdb : (x == ("__debug__" : Str)) = false) (hv : X.N[v]? = some n) (hl : X.env.kindOf n = some .local) (hd1 : (n == ("__debug__" : Str)) = false) (hd2 : (n == ("__classdict__" : Str)) = false)
    (T : XfC X.K a) (hno : PySem.W.findIn X.K (.ref a) f = some none) (leaf : ∀ j b, C.gl j = some b → PySem.W.exmOne X.K (.ref b) (.ref a) = some true → b = a) (r : SC X C hs cz) :
    SC X C (.ExceptHandler (some (.Name x p1)) (some n) [.Return (some (.BinOp (.Constant (.str y) i p2) .Add (.Call (.Name (Str.ofString "repr") p3) [.Attribute (.Name n p4) f p5] [] p6) p7)) p8] p9 :: hs) (.fld k v s f :: cz) := by
  rw [str_of h]
  exact .fld hgl hm hg hdb hv hl hd1 hd2 T hno leaf r
end
end G

set_option Elab.async false
set_option linter.all false
set_option maxRecDepth 100000
set_option maxHeartbeats 4000000
/-! Things that are not needed any more are dropped from the store; what is never reached needs no reading. -/
namespace G
open PySem PySem.Spec PyProof.Rows L2
def cBad : Ev := fun _ _ => .bad
def cBadA : EvA := fun _ _ => .bad
def cBadT : EvT := fun _ _ => .bad
section
variable {X : Cx} {C : Cfg} {e : Expr} {es : List Expr} {s : Stmt} {b : List Stmt} {g : EvS}
theorem SE.never : SE X C e cBad := ⟨fun _ _ => ⟨fun _ _ _ _ _ _ ⟨_, _, _, _, _, p⟩ => p.elim⟩⟩
theorem SA.never : SA X C es cBadA := ⟨fun _ _ => ⟨fun _ _ _ _ _ _ _ ⟨_, _, _, _, _, p⟩ => p.elim⟩⟩
theorem ST.never : ST X C e cBadT := ⟨fun _ _ => ⟨fun _ _ _ _ _ _ ⟨_, _, _, _, _, p⟩ => p.elim⟩⟩
theorem SB.never : SB X C b sBad := ⟨fun _ _ => ⟨fun _ _ _ _ _ _ ⟨_, _, _, _, _, p⟩ => p.elim⟩⟩
/-- what a slot holds, where it leans on nothing that goes -/
def keepLow (n : Nat) : Option D → Option D
  | some d => if low n d then some d else none
  | none => none
/-- behind a block all that it made is dropped -/
def RS.gc (n : Nat) : RS → RS
  | .ok (.nx ρ) st => if (st.take n).all (lowO n) then .ok (.nx (ρ.map (keepLow n))) (st.take n) else .bad
  | r => r
def sGC (g : EvS) : EvS := fun ρ st => (g ρ st).gc st.length
theorem EnvOk.gc {η t : List Addr} {H : Hp} {ρ : Env} {σ : L2.St} (e : EnvOk C (η ++ t) H ρ σ) : EnvOk C η H (ρ.map (keepLow η.length)) σ := by
  refine ⟨by rw [List.length_map]; exact e.len, fun i d h => ?_⟩
  rw [List.getElem?_map] at h
  cases q : ρ[i]? with
  | none => rw [q] at h; cases h
  | some o =>
    rw [q] at h
    cases o with
    | none => cases h
    | some d2 =>
      have h : some (keepLow η.length (some d2)) = some (some d) := h
      unfold keepLow at h
      dsimp only at h
      split at h
      · rename_i hl
        cases h
        obtain ⟨v, e1, r⟩ := e.ok i _ q
        exact ⟨v, e1, r.less hl⟩
      · cases h
theorem gc_imp {W : WX} {D : Ends} {σ : L2.St} {H : Hp} (p : tS C W (sGC g) D σ H) : tS C W g D σ H := by
  obtain ⟨η, ρ, st, k, en, p⟩ := p
  refine ⟨η, ρ, st, k, en, ?_⟩
  unfold sGC at p
  cases e : g ρ st with
  | ok o st' =>
    rw [e] at p
    cases o with
    | nx ρ' =>
      unfold RS.gc at p
      dsimp only at p
      rw [← k.len] at p
      intro σ' η' H' s1 k1 en1
      obtain ⟨t, rfl, ht⟩ := s1.ext
      split at p
      · rename_i hq
        exact p σ' η H' ⟨⟨[], by simp, by simp⟩, s1.keep, s1.dom⟩ (k1.less hq) en1.gc
      · exact p.elim
    | rt d => exact p
    | bk ρ' => exact p
    | ct ρ' => exact p
  | exc x ρ' st' => rw [e] at p; exact p
  | bad => rw [e] at p; exact p
theorem SB.gc (h : SB X C b g) : SB X C b (sGC g) := ⟨fun W tk => PSs_imp (h.run W tk) fun _ _ _ p => gc_imp p⟩
theorem SS.gc (h : SS X C s g) : SS X C s (sGC g) := ⟨fun W tk => PS_imp (h.run W tk) fun _ _ _ p => gc_imp p⟩
end
end G

set_option Elab.async false
set_option linter.all false
set_option maxRecDepth 100000
set_option maxHeartbeats 4000000
/-! A list of lambdas, each of them handed to a def: [f(call) for call in calls]. -/
namespace G
open PySem PySem.Spec PyProof.Rows L2
open LamX NdefX
/-! ### the block of a comprehension, with what its def is known to be -/
section
variable {X : Cx}
theorem block_own {ps : List (Addr × Obj)} {sh : Shared} {τ : L2.St} {Hm : Hp} {Qv : VK} {el tg it0 : Expr} {cs : List Expr} {sc : Scope} {ow : List (Str × Nat)} {p1 p2 : Pos} {ti : TI} {gg : TG} {tq : TT} {tv : TE} {us : Option (Value → Sem Unit)} {Qe : Value → Shared → Prop}
    (hcalm : X.calm = true) (nod : X.N.Nodup) (In : Inv X ps τ Hm sh) (hiter : PI X tg it0 ti) (bk : BlkOk X.N X.env.scope sc ow)
    (htg : ∀ sh2 Hm2 ad cl fp, PG (X.blk sh2 Hm2 sc (compEnvC sc cl ad X.env) fp) tg gg)
    (htst : ∀ sh2 Hm2 ad cl fp, PTs (X.blk sh2 Hm2 sc (compEnvC sc cl ad X.env) fp) cs tq)
    (helt : ∀ sh2 Hm2 ad cl fp, Inv X ps τ Hm2 sh2 → (∀ b ∈ fp, FpOk X ps Hm2 b) → PE (X.blk sh2 Hm2 sc (compEnvC sc cl ad X.env) fp) el tv)
    (hfold : ∀ x, foldedSetIterable it0 X.env x = pure x) (hyp : tLc ti gg tq tv (ow.map (·.2)) τ Hm Qv)
    (done : ∀ nl ad sh2 m Hm2, Inv X ps τ Hm2 sh2 → Qv (.ref nl) Hm2 → sh2.heap.Ns ad m → FpOk X ps Hm2 ad → compPost (model X.prog X.w) X.A X.xe us Qe (.ref nl) ad (.ok .next) sh2) :
    wpAny (model X.prog X.w) X.A (comprehension (.ListComp el [⟨tg, it0, cs, 0⟩] sc p1) sc X.env p2 (newList []) false (eval it0 X.env) us) Qe X.xe sh := by
  have caught : ∀ y ∈ sc.names, y.2 = .free → ∃ c, X.env.cells.lookup y.1 = some c := by
    intro y my fy
    exact (bk.free y my fy).elim (fun z => In.ok.has _ (.inl z)) fun z => In.ok.has _ (.inr z)
  have first := hiter.run ps sh τ Hm _ In hyp
  refine wpAny_comprehension_free (use := us) rfl hfold (closure_ok caught) bk.kind (fun y my fy => (bk.uniq y my).trans (congrArg some fy)) ?_
  refine thn first fun xv sa hx => thn hx fun iv sb hb => ?_
  obtain ⟨ia, fp, tn, J, Hb, rfl, Ib, Tn, tb, fb, rest⟩ := hb
  refine wpAny_newObj_type (newEnv_comp ?_) (Nat.zero_le _)
  obtain ⟨nl, hnl⟩ : ∃ nl, nl = sb.heap.objs.size := ⟨_, rfl⟩
  rw [← hnl]
  have nlN : Hb nl = none := Ib.hok.fresh (Nat.le_of_eq hnl.symm)
  obtain ⟨Wt, ⟨m0, w0⟩, turn⟩ := rest nl nlN
  obtain ⟨sc3, hsc3⟩ : ∃ q : Shared, q = { sb with heap := sb.heap.push { cls := .type "list", data := .seq ([] : List Value).toArray } } := ⟨_, rfl⟩
  have heap3 : sc3.heap = sb.heap.push { cls := .type "list", data := .seq ([] : List Value).toArray } := congrArg Shared.heap hsc3
  rw [← hsc3]
  have Ic : Inv X ps τ (upd Hb nl (.lst [])) sc3 := by
    rw [hsc3]
    exact Ib.laid (t' := sb.toks) (fun b o e => Heap.get?_push_of_some _ e) (Nat.le_of_eq hnl.symm) ⟨Nat.zero_le _, [], 0, .nil, by rw [hnl]; exact Heap.get?_push_size _ rfl⟩
  have fc : ∀ b ∈ fp, FpOk X ps (upd Hb nl (.lst [])) b ∧ b < sc3.heap.objs.size := by
    intro b hb
    obtain ⟨ob, eb, _⟩ := Tn.obj _ _ tb b hb
    have lt := Heap.lt_size eb
    obtain ⟨q1, q2⟩ := fb b hb
    have ne : b ≠ nl := fun z => absurd lt (by rw [z, hnl]; exact Nat.lt_irrefl _)
    exact ⟨⟨(upd_ne ne).trans q1, q2⟩, by rw [heap3, Heap.size_push]; exact Nat.lt_succ_of_lt lt⟩
  obtain ⟨Hc, hHc⟩ : ∃ q, q = upd Hb nl (.lst []) := ⟨_, rfl⟩
  rw [← hHc] at Ic fc w0
  have tc : tn 0 sc3.heap := Tn.keep _ _ _ tb fun b _ o e => heap3 ▸ Heap.get?_push_of_some _ e
  have Id := block_start Ic bk nod fc
  obtain ⟨cls, hcls⟩ : ∃ q, q = cellsFrom (sc3.heap.objs.size + 1) sc.names (cloFrom X.env.cells sc.names []) := ⟨_, rfl⟩
  obtain ⟨ce, hce⟩ : ∃ q, q = compEnvC sc cls sc3.heap.objs.size X.env := ⟨_, rfl⟩
  have eg := hce ▸ htg sc3 Hc sc3.heap.objs.size cls fp
  have et := hce ▸ htst sc3 Hc sc3.heap.objs.size cls fp
  have ee := hce ▸ helt sc3 Hc sc3.heap.objs.size cls fp Ic fun b hb => (fc b hb).1
  rw [← hcls, ← hce] at Id
  have loc : ce.locals = sc3.heap.objs.size := hce ▸ rfl
  obtain ⟨sd, hsd⟩ : ∃ q : Shared, q = { sc3 with heap := pushCells (sc3.heap.push { cls := .type "dict", data := .dict #[] }) sc.names } := ⟨_, rfl⟩
  rw [← hsd] at Id
  have td : tn 0 sd.heap := Tn.keep _ _ _ tc fun b _ o e => hsd ▸ pushCells_keeps _ _ _ _ (Heap.get?_push_of_some _ e)
  have still : ∀ {τ2 : L2.St} {H2 : Hp} {s2 : Shared}, Inv (X.blk sc3 Hc sc ce fp) [] τ2 H2 s2 → (∀ b ∈ fp, H2 b = none) → ∀ b ∈ fp, FpOk (X.blk sc3 Hc sc ce fp) [] H2 b := by
    intro τ2 H2 s2 J2 nn b hb
    refine ⟨nn b hb, (J2.ok.exf b hb).1, J2.ok.exfs b hb, .inl hb, (J2.ok.exf b hb).2, fun p hp => ?_⟩
    have hp : p ∈ ([] : List (Addr × Obj)) ++ [] := hp
    cases hp
  have round : codeAny (model X.prog X.w) X.A (.compLoop (.ListComp el [⟨tg, it0, cs, 0⟩] sc p1) 0 (.ref ia) (.ref nl) ce) (compPost (model X.prog X.w) X.A X.xe us Qe (.ref nl) sc3.heap.objs.size) sd := by
    refine compLoop_any (fun n s2 => ∃ i H2, Inv (X.blk sc3 Hc sc ce fp) [] (wipe τ (ow.map (·.2))) H2 s2 ∧ tn i s2.heap ∧ (∀ b ∈ fp, H2 b = none) ∧ Wt i n H2) ?_ m0 ⟨0, Hc, Id, td, fun b hb => (fc b hb).1.1, w0⟩
    rintro n s5 ⟨i, H5, I5, t5, n5, w5⟩
    rcases turn i n H5 w5 with ⟨stop, last⟩ | ⟨go, Nx, hNx, step⟩
    · refine thnF (Tn.done (X.blk sc3 Hc sc ce fp) rfl rfl rfl hcalm i [] s5 _ H5 (fun _ _ => False) I5 (still I5 n5) t5 stop) ?_
      rintro _ s6 ⟨rfl, I6⟩
      have back := Ic.call' (ch := fp) I6.os I6.base I6.hok I6.bare fun b hb => let z := (fc b hb).1; ⟨z.2.2.2.1, z.2.1, z.2.2.2.2.1, z.2.2.2.2.2⟩
      have nC : H5 sc3.heap.objs.size = none := loc ▸ I6.free
      obtain ⟨m, hm, _⟩ := I6.loc
      have hm : s6.heap.Ns ce.locals m := hm
      exact done nl _ s6 m H5 back last (loc ▸ hm) (Ic.fpOk (Nat.le_refl _) nC)
    · refine thnF (Tn.item (X.blk sc3 Hc sc ce fp) rfl rfl rfl hcalm i [] s5 _ H5 (fun _ _ => False) I5 (still I5 n5) t5 go) ?_
      rintro _ s6 ⟨u, rfl, h6⟩
      refine thnF h6 fun _ s7 z7 => ?_
      obtain ⟨x, H7, I7, r7, y7, t7, n7⟩ := z7
      have Ip := I7.pinned (still I7 n7) (Tn.obj _ _ t7)
      refine thnF (eg.run _ s7 _ H7 x u _ Ip r7 (step x H7 y7)) fun _ s8 z8 => ?_
      obtain ⟨τ8, H8, I8, wp8, q8⟩ := z8
      refine thnF (et.run _ s8 τ8 H8 _ I8 q8) fun yes s9 z9 => ?_
      obtain ⟨H9, I9, q9⟩ := z9
      have again : ∀ {s2 : Shared} {H2 : Hp}, Inv (X.blk sc3 Hc sc ce fp) ([] ++ pinsAt fp s7.heap) τ8 H2 s2 → Nx H2 → ∃ m, m < n ∧ ∃ i H2, Inv (X.blk sc3 Hc sc ce fp) [] (wipe τ (ow.map (·.2))) H2 s2 ∧ tn i s2.heap ∧ (∀ b ∈ fp, H2 b = none) ∧ Wt i m H2 := by
        intro s2 H2 J2 nx
        obtain ⟨m, lt, w⟩ := hNx H2 nx
        have held : ∀ b ∈ fp, ∀ o, s7.heap.get? b = some o → s2.heap.get? b = some o ∧ H2 b = none := by
          intro b hb o e
          have z := J2.pin (b, o) (List.mem_append_right _ (List.mem_append_right _ (mem_pinsAt hb e)))
          exact ⟨z.1, z.2.1⟩
        refine ⟨m, lt, i + 1, H2, (J2.unpinned (pins := [])).weak (by rw [← wp8, wipe_length]) ?_, Tn.keep _ _ _ t7 fun b hb o e => (held b hb o e).1, fun b hb => ?_, w⟩
        · intro j v e
          exact (wipe_some (wp8 ▸ e)).1
        · obtain ⟨o, e, _⟩ := Tn.obj _ _ t7 b hb
          exact (held b hb o e).2
      cases yes with
      | false => exact again I9 q9
      | true =>
        have q9 : tv τ8 H9 _ := q9
        refine thnF (ee.run _ s9 τ8 H9 _ I9 q9) fun z s10 z10 => ?_
        obtain ⟨yv, H10, I10, r10, acc, e10, big10, nx⟩ := z10
        exact app_ok (X := X.blk sc3 Hc sc ce fp) I10 e10 big10 r10 fun s11 I11 => again I11 nx
  have start := codeAny_compStart_list round (Tn.self X.A 0 _ _ _ td round)
  rw [hsd, hce, hcls] at start
  exact start
end
/-! ### lambdas by a table -/
theorem cells_unx {cl : List (Str × Addr)} {fr : List Str} {ws : List (Option V)} {fs ex : List Addr} {H H2 : Hp} {h h2 : Heap} (C : CellsAt cl fr ws h H) (u : Un fs ex H H2 h h2) (nx : ∀ y c, cl.lookup y = some c → c ∉ ex) : CellsAt cl fr ws h2 H2 := by
  have mv : ∀ {y : Str} {c : Addr} {v : Option Value}, cl.lookup y = some c → H c = none → h.IsCell c v → h2.IsCell c v := fun e n ⟨o, ho, hd⟩ => by
    obtain ⟨sl, q⟩ := u.any ho n (nx _ _ e)
    exact ⟨_, q, hd⟩
  refine ⟨C.len, fun y c e => ?_, C.inj, fun i y e => ?_⟩
  · obtain ⟨n, v, hv⟩ := C.all y c e
    exact ⟨hv.elim fun o z => u.free c o z.1 n (nx y c e), v, mv e n hv⟩
  · obtain ⟨c, e1, e2⟩ := C.has i y e
    exact ⟨c, e1, fun v hv => (e2 v hv).imp fun u z => ⟨z.1, mv e1 (C.all y c e1).1 z.2⟩⟩
/-- the first lambda among some values -/
def cloIn : List D → Option Nat
  | [] => none
  | .clo k [] :: _ => some k
  | _ :: r => cloIn r
def cCallT (gW : (Nat → List D → Sto → Res D) → Fn) (tl : List (Ev × List Nat)) (fs : EvA) : Ev := fun ρ st => (fs ρ st).bind fun ds st1 => match cloIn ds with
  | none => .bad
  | some j => (match tl[j]? with
    | none => .bad
    | some (g, js) => (match caps ρ js with
      | some cs => if ds.all (capOk j) && st1.all ncO then (gW (fun _ cs st => g (cs.map some) st) (ds.map (capD j cs)) st1).plain else .bad
      | none => .bad))
/-- what is known of lambda j: its text, what it captured -/
def TabAt (X : Cx) (C : Cfg) (Pσ : L2.St → Prop) (kf : Nat) (tl : List (Ev × List Nat)) : Prop := ∀ j g js, tl[j]? = some (g, js) → ∃ (q : Str) (params : Arguments) (body : Expr) (scope : Scope) (cells : List (Str × Addr)) (N : List Str) (kl : Nat),
  LamOk X.prog X.w X.K X.mg X.base C.gl C.tabs kl q params body scope N g ∧ C.lam j = some (⟨q, params, body, scope, cells⟩, []) ∧ Room (kl + 1 + kf) X.A ∧
  ∀ pins σ H s, Inv X pins σ H s → Pσ σ → CellsAt cells N (js.map (slotAt σ)) s.heap H
section
variable {X : Cx} {C : Cfg} {e : Expr} {es : List Expr} {fs : EvA} {pos p : Pos} {x : Str} {kf : Nat} {f : Addr} {fd : FuncData} {ps : List Str} {gW : (Nat → List D → Sto → Res D) → Fn}
theorem callT_run {Pσ : L2.St → Prop} {tl : List (Ev × List Nat)} (F : ∀ kc, FnC X.prog X.w X.K X.mg X.base C.gl C.tabs kc kf f fd ps gW) (T : TabAt X C Pσ kf tl)
    (hK : X.K = C.K) (hgd : X.A.guards = some []) (hg : Gl X x) (hm : X.mg x = some (.ref f)) (hk : PySem.W.keepIn X.K (.ref f) = true) (hb : Binds X.K fd ps [])
    (ha : SA X C (e :: es) fs) (hn : (e :: es).length = ps.length) (hlen : ∀ ρ st a st1, fs ρ st = .ok a st1 → a.length = (e :: es).length) {W : WX} (tk : Takes X W)
    (hdb : (x == ("__debug__" : Str)) = false := by decide) (he : starEach (e :: es) X.env = (false, eval e X.env) :: starEach es X.env := by rfl) (hpl : (backTo pos (starEach es X.env)).any (·.1) = false := by rfl) :
    PE X (.Call (.Name x p) (e :: es) [] pos) (fun σ H Q => Pσ σ ∧ tE C W (cCallT gW tl fs) σ H Q) := ⟨fun pins s σ H Q I h => by
  obtain ⟨hP, η, ρ, st, k0, en, post⟩ := h
  refine wpAny_Call_Name_kw (ld_glob I hg hm ?_ hdb)
  refine PySem.W.callWith_K (h₀ := X.base) I.ok.mod.kin hk ?_ he hpl
  refine thn ((ha.run W tk).run pos pins s σ H (fun vs H1 => ∃ η1 st1 as, StOk C η1 st1 H1 ∧ EnvOk C η1 H1 ρ σ ∧ RepL C η1 H1 as vs ∧ as.length = (e :: es).length ∧ Post C W σ (Rep C) η1 H1 (match cloIn as with
    | none => .bad
    | some j => (match tl[j]? with
      | none => .bad
      | some (g, js) => (match caps ρ js with
        | some cs => if as.all (capOk j) && st1.all ncO then (gW (fun _ cs st => g (cs.map some) st) (as.map (capD j cs)) st1).plain else .bad
        | none => .bad))) Q) I ⟨η, ρ, st, k0, en, ?_⟩) fun us s1 ⟨vs, H1, I1, r, η1, st1, as, k1, en1, ra, la, p1⟩ => ⟨I1.kIn, ?_⟩
  · exact Post.bind (R := RepL C) (r := fs ρ st) post fun as st1 vs η1 H1 hok s1 k1 ra p1 => ⟨η1, st1, as, k1, en.mono s1, ra, hlen _ _ _ _ hok, p1⟩
  · cases ej : cloIn as with
    | none => rw [ej] at p1; exact p1.elim
    | some j =>
      rw [ej] at p1
      dsimp only at p1
      cases et : tl[j]? with
      | none => rw [et] at p1; exact p1.elim
      | some gj =>
        obtain ⟨g, js⟩ := gj
        rw [et] at p1
        dsimp only at p1
        obtain ⟨q, params, body, scope, cells, N, kl, L, lam, hr, hC⟩ := T j g js et
        cases ec : caps ρ js with
        | none => rw [ec] at p1; exact p1.elim
        | some cs =>
          rw [ec] at p1
          dsimp only at p1
          split at p1
          · rename_i hq
            rw [Bool.and_eq_true] at hq
            obtain ⟨ws, e1, rc⟩ := caps_ok en1 ec
            have C1 := hC _ _ _ _ I1 hP
            rw [e1] at C1
            have O := orac_one (fs := frs X.stack) (cl := fun _ cs st => g (cs.map some) st) (j0 := j) L C1 fun caps st => rfl
            have ra2 := caps_rep (lam := fun i => if i = j then some (⟨q, params, body, scope, cells⟩, ws) else none) lam (if_pos rfl) (rc _) hq.1 ra
            have k2 := k1.nc (lam := fun i => if i = j then some (⟨q, params, body, scope, cells⟩, ws) else none) hq.2
            obtain ⟨K, gl, hot, lm, tb⟩ := C
            dsimp only at hK
            subst hK
            have p2 := Post.plain (C := ⟨X.K, gl, hot, fun i => if i = j then some (⟨q, params, body, scope, cells⟩, ws) else none, tb⟩) (lam := lm) p1
            have r2 : Vals (vs ++ []) (us ++ []) := r.append .nil
            rw [List.append_nil, List.append_nil] at r2
            have hl : vs.length = ps.length := by rw [← ra.length, la]; exact hn
            have b2 : BindsTo s1 fd ⟨us, []⟩ (ps.zip us) := by
              have z := hb s1 us I1.kIn (by rw [List.append_nil, ← r.length]; exact hl)
              rw [List.append_nil] at z
              exact z
            refine wpAny_call (codeAny_mono ((F (kl + 1)).run X.A X.stack s1 H1 ⟨us, []⟩ us vs Q (fun c d H' => W c d σ H') hot _ _ η1 st1 _ hr hgd I1.env0 b2 r2 O k2 ra2 hl ?_) fun res s' hq => ?_)
            · cases eg : gW (fun _ cs st => g (cs.map some) st) (as.map (capD j cs)) st1 with
              | ok d st' => rw [eg] at p2; exact p2
              | exc x st' => rw [eg] at p2; exact p2
              | bad => rw [eg] at p2; exact p2.elim
            · cases res with
              | error e => exact tk e s' (XE.of_call I1 (fun _ _ _ z => z) hq)
              | ok fl =>
                cases fl with
                | ret u => exact I1.after hq
                | next => exact hq.elim
                | brk => exact hq.elim
                | cont => exact hq.elim
          · exact p1.elim⟩
end
/-- the lambdas of a maker, each with what it is worth and the slots that it captures -/
def LamRows (X : Cx) (C : Cfg) (x : Str) (kf : Nat) : List LT → List (Ev × List Nat) → Prop
  | _, [] => True
  | l :: ls, (g, js) :: tl => (∃ kl N, LamOk X.prog X.w X.K X.mg X.base C.gl C.tabs kl (lq x) l.params l.body l.scope N g ∧ freeB X.env.scope.names l.scope.names = true ∧ frB N l.scope.names = true ∧ js.map (fun j => X.N[j]?) = N.map some ∧ Room (kl + 1 + kf) X.A) ∧ LamRows X C x kf ls tl
  | [], _ :: _ => False
section
variable {X : Cx} {C : Cfg} {x y : Str} {kf : Nat}
theorem LamRows.nil {ls : List LT} : LamRows X C x kf ls [] := by
  cases ls <;> exact trivial
theorem LamRows.cons {l : LT} {ls : List LT} {g : Ev} {js : List Nat} {tl : List (Ev × List Nat)} (a : ∃ kl N, LamOk X.prog X.w X.K X.mg X.base C.gl C.tabs kl (lq x) l.params l.body l.scope N g ∧ freeB X.env.scope.names l.scope.names = true ∧ frB N l.scope.names = true ∧ js.map (fun j => X.N[j]?) = N.map some ∧ Room (kl + 1 + kf) X.A) (r : LamRows X C x kf ls tl) :
    LamRows X C x kf (l :: ls) ((g, js) :: tl) := ⟨a, r⟩
theorem LamRows.get : ∀ {ls : List LT} {tl : List (Ev × List Nat)} {j : Nat} {g : Ev} {js : List Nat}, LamRows X C x kf ls tl → tl[j]? = some (g, js) →
    ∃ l, ls[j]? = some l ∧ ∃ kl N, LamOk X.prog X.w X.K X.mg X.base C.gl C.tabs kl (lq x) l.params l.body l.scope N g ∧ freeB X.env.scope.names l.scope.names = true ∧ frB N l.scope.names = true ∧ js.map (fun j => X.N[j]?) = N.map some ∧ Room (kl + 1 + kf) X.A
  | _, [], _, _, _, _, e => by simp at e
  | [], _ :: _, _, _, _, r, _ => r.elim
  | l :: ls, (g0, js0) :: tl, 0, g, js, r, e => by
    rw [List.getElem?_cons_zero] at e
    cases e
    exact ⟨l, rfl, r.1⟩
  | l :: ls, (g0, js0) :: tl, j + 1, g, js, r, e => by
    rw [List.getElem?_cons_succ] at e
    obtain ⟨l2, h1, h2⟩ := LamRows.get (ls := ls) r.2 e
    exact ⟨l2, by rw [List.getElem?_cons_succ]; exact h1, h2⟩
theorem slot_wipe {σ σ2 : L2.St} {vs js : List Nat} (h : wipe σ2 vs = wipe σ vs) (d : (js.all fun j => !vs.contains j) = true) : js.map (slotAt σ2) = js.map (slotAt σ) := by
  refine List.map_congr_left fun j hj => ?_
  have nj : j ∉ vs := by
    have z := List.all_eq_true.mp d j hj
    simpa using z
  have e : σ2[j]? = σ[j]? := by rw [← wipe_out (σ := σ2) nj, ← wipe_out (σ := σ) nj, h]
  unfold NdefX.slotAt
  rw [e]
theorem rows_tab {tf : List Str} {ls : List LT} {tl : List (Ev × List Nat)} {vs : List Nat} {pins : List (Addr × Obj)} {σ : L2.St} {H : Hp} {s : Shared} {scope : Scope} {ad : Addr} {cl : List (Str × Addr)} {fp hot : List Addr} (M : Maker X C tf x ls) (R : LamRows X C x kf ls tl)
    (hdis : (tl.all fun p => p.2.all fun j => !vs.contains j) = true) (I : Inv X pins σ H s) (hfp : ∀ b ∈ fp, FpOk X pins H b) : TabAt (BX X scope s H ad cl fp) ⟨C.K, C.gl, hot, C.lam, C.tabs⟩ (fun σ2 => wipe σ2 vs = wipe σ vs) kf tl := by
  intro j g js e
  obtain ⟨l, hl, kl, N, L, hf, hN, hjs, hr⟩ := R.get e
  have cp := Caps.made I.ok (freeB_ok hf) (frB_ok hN) hjs
  refine ⟨X.env.qual ++ "<lambda>", l.params, l.body, l.scope, cloFrom X.env.cells l.scope.names [], N, kl, ?_, M.at_ hl, hr, fun pins2 σ2 H2 s2 I2 hP => ?_⟩
  · rw [M.qual]
    exact L
  · rw [slot_wipe hP (List.all_eq_true.mp hdis _ (List.mem_of_getElem? e))]
    exact cells_unx (cells_of I cp) I2.base fun y c h z => (hfp c z).2.2.2.2.1 y c (cp.sub y c h) rfl
theorem SE.lcL {tf : List Str} {ls : List LT} {tl : List (Ev × List Nat)} {f : Addr} {fd : FuncData} {ps : List Str} {gW : (Nat → List D → Sto → Res D) → Fn} {e tg iter : Expr} {es ifs : List Expr} {fs : EvA} {p pos2 pos : Pos} {st : Stmt} {scope : Scope} {own : List (Str × Nat)} {o1 : List Nat} {fi : EvI} {gt : EvG} {ft : EvT}
    (M : Maker X C tf x ls) (R : LamRows X C x kf ls tl) (hdis : (tl.all fun p => p.2.all fun j => !(own.map (·.2)).contains j) = true) (F : ∀ kc, FnC X.prog X.w X.K X.mg X.base C.gl C.tabs kc kf f fd ps gW) (at_ : DefAt X.K X.mg y st [] f fd)
    (hgd : X.A.guards = some []) (hb : ∃ ds, Vals ((([] : List D).map dvD).map (He.Dv.v X.K)) ds ∧ Binds X.K fd ps ds)
    (hc : X.calm = true) (hN : X.N.Nodup) (hi : SI X C tg iter fi) (ok : BlkOk X.N X.env.scope scope own) (ho : ∀ i ∈ o1, i ∈ own.map (·.2))
    (hg : ∀ s H A cl fp hot, SG (BX X scope s H A cl fp) ⟨C.K, C.gl, hot, C.lam, C.tabs⟩ tg gt o1) (ht : ∀ s H A cl fp hot, STs (BX X scope s H A cl fp) ⟨C.K, C.gl, hot, C.lam, C.tabs⟩ ifs ft)
    (ha : ∀ s H A cl fp hot, SA (BX X scope s H A cl fp) ⟨C.K, C.gl, hot, C.lam, C.tabs⟩ (e :: es) fs) (hn : (e :: es).length = ps.length) (hlen : ∀ ρ st a st1, fs ρ st = .ok a st1 → a.length = (e :: es).length)
    (hdb : (y == ("__debug__" : Str)) = false := by decide) (hgl : ∀ s H A cl fp, Gl (BX X scope s H A cl fp) y := by intros; rfl)
    (he : ∀ s H A cl fp, starEach (e :: es) (BX X scope s H A cl fp).env = (false, eval e (BX X scope s H A cl fp).env) :: starEach es (BX X scope s H A cl fp).env := by intros; rfl)
    (hpl : ∀ s H A cl fp, (backTo pos2 (starEach es (BX X scope s H A cl fp).env)).any (·.1) = false := by intros; rfl)
    (hs : ∀ x, foldedSetIterable iter X.env x = pure x := by intro _; rfl) :
    SE X C (.ListComp (.Call (.Name y p) (e :: es) [] pos2) [⟨tg, iter, ifs, 0⟩] scope pos) (cLc fi gt ft (cCallT gW tl fs) (own.map (·.2))) := ⟨fun W tk => ⟨fun pins s σ H Q I h => by
  obtain ⟨ds, hd, hb⟩ := hb
  have e0 : ds = [] := by
    have := hd.length
    cases ds with
    | nil => rfl
    | cons d r => simp at this
  subst e0
  rw [eval_ListComp]
  refine block_own (tv := fun σ2 H2 Q2 => wipe σ2 (own.map (·.2)) = wipe σ (own.map (·.2)) ∧ tEx C (cCallT gW tl fs) σ2 H2 Q2) hc hN I (hi.run W tk) ok (fun s H A cl fp => blk_g (hg s H A cl fp)) (fun s H A cl fp => blk_t (ht s H A cl fp)) (fun s2 H2 ad cl fp I2 hfp => ⟨fun pins2 s3 σ3 H3 Q3 I3 h3 => ?_⟩) hs
    (lc_impT _ (fun σ2 H2 Q2 z1 z2 => ⟨z1, z2⟩) ho fin_lst h) fun nl ad s2 m H2 I2 q hn f => ⟨m, hn, fun h'' sb => ?_⟩
  · obtain ⟨h1, hot, h2⟩ := h3
    exact (callT_run (X := BX X scope s2 H2 ad cl fp) (C := ⟨C.K, C.gl, hot, C.lam, C.tabs⟩) F (rows_tab M R hdis I2 hfp) M.kk hgd (hgl s2 H2 ad cl fp) at_.g at_.fn.kp hb (ha s2 H2 ad cl fp hot) hn hlen L2.takes0 hdb (he s2 H2 ad cl fp) (hpl s2 H2 ad cl fp)).run pins2 s3 σ3 H3 Q3 I3 ⟨h1, h2⟩
  · obtain ⟨f0, f1, f2, f3, f4, f5⟩ := f
    exact ⟨.ref nl, H2, I2.turned (t' := s2.toks) (fun b o hb e => (sb.2 b hb).trans e) f0 f1 f3 f4 f5, rfl, q⟩⟩⟩
end
end G

set_option Elab.async false
set_option linter.all false
set_option maxRecDepth 100000
set_option maxHeartbeats 4000000
/-! Own classes: attributes read and written, methods, properties, instances made. -/
namespace G
open PySem PySem.Spec PyProof.Rows L2
open LamX NdefX
/-- an attribute among an object's own -/
def lookF (f : Str) (ns : List Str) (ds : List D) : Option D := (ns.zip ds).lookup f
def putI (f : Str) (d : D) : List Str → List D → List Str × List D
  | n :: ns, x :: xs => if n = f then (n :: ns, d :: xs) else (n :: (putI f d ns xs).1, x :: (putI f d ns xs).2)
  | _, _ => ([f], [d])
section
variable {C : Cfg} {η : List Addr} {H : Hp}
theorem lookF_rep {f : Str} {ns : List Str} {ds : List D} {d : D} {fs : List (Str × V)} (h1 : fs.map (·.1) = ns) (h2 : RepL C η H ds (fs.map (·.2))) (h3 : lookF f ns ds = some d) : ∃ v, fs.lookup f = some v ∧ Rep C η H d v := by
  have hl : ns.length = ds.length := by rw [h2.length, ← h1, List.length_map, List.length_map]
  refine lookup_rep (fs := ns.zip ds) ?_ ?_ h3
  · rw [h1, List.map_fst_zip (Nat.le_of_eq hl)]
  · rw [List.map_snd_zip (Nat.le_of_eq hl.symm)]
    exact h2
theorem lookF_no {f : Str} {ns : List Str} {fs : List (Str × V)} (h1 : fs.map (·.1) = ns) (h : ns.contains f = false) : fs.lookup f = none := by
  subst h1
  induction fs with
  | nil => rfl
  | cons p fs ih =>
    rw [List.map_cons, List.contains_cons, Bool.or_eq_false_iff] at h
    rw [List.lookup_cons, h.1]
    exact ih h.2
theorem putI_rep {f : Str} {d : D} {y : V} (ry : Rep C η H d y) : ∀ {ns : List Str} {ds : List D} {fs : List (Str × V)}, fs.map (·.1) = ns → RepL C η H ds (fs.map (·.2)) →
    (putF f y fs).map (·.1) = (putI f d ns ds).1 ∧ RepL C η H (putI f d ns ds).2 ((putF f y fs).map (·.2))
  | [], ds, [], h1, h2 => by
    rw [List.map_nil] at h2
    have e : ds = [] := by
      have := h2.length
      cases ds with
      | nil => rfl
      | cons a b => simp at this
    subst e
    exact ⟨rfl, RepL.one ry⟩
  | [], _, _ :: _, h1, _ => by cases h1
  | _ :: _, _, [], h1, _ => by cases h1
  | n :: ns, ds, (g, v) :: fs, h1, h2 => by
    simp only [List.map_cons, List.cons.injEq] at h1
    obtain ⟨rfl, h1⟩ := h1
    match ds, h2 with
    | [], h2 => rw [RepL] at h2; cases h2
    | x :: xs, h2 =>
      rw [List.map_cons, RepL] at h2
      obtain ⟨u, r, e1, e2, e3⟩ := h2
      cases e1
      unfold putF putI
      by_cases q : g = f
      · rw [if_pos q, if_pos q]
        subst h1
        exact ⟨by simp, RepL.cons ry e3⟩
      · rw [if_neg q, if_neg q]
        obtain ⟨i1, i2⟩ := putI_rep ry h1 e3
        exact ⟨by simp [i1], RepL.cons e2 i2⟩
end
/-- o.f, an attribute of an object of one of these classes -/
def cFld (ks : List Nat) (f : Str) (fo : Ev) : Ev := fun ρ st => (fo ρ st).bind fun o st1 => match vw st1 o with
  | .ins k ns ds => if ks.contains k then (match lookF f ns ds with
    | some d => .ok d st1
    | none => .bad) else .bad
  | _ => .bad
/-- these classes have no such name of their own -/
def FldOk (K : PySem.W.Frag) (C : Cfg) (ks : List Nat) (f : Str) : Prop := ∀ k ∈ ks, ∃ a, C.gl k = some a ∧ Cls K a ∧ NoAttr K a f
theorem FldOk.nil {K : PySem.W.Frag} {C : Cfg} {f : Str} : FldOk K C [] f := fun _ h => (List.not_mem_nil h).elim
theorem FldOk.cons {K : PySem.W.Frag} {C : Cfg} {k : Nat} {ks : List Nat} {f : Str} {a : Addr} (h1 : C.gl k = some a) (h2 : Cls K a) (h3 : NoAttr K a f) (r : FldOk K C ks f) : FldOk K C (k :: ks) f := fun j hj => by
  rcases List.mem_cons.mp hj with rfl | hj
  · exact ⟨a, h1, h2, h3⟩
  · exact r j hj
def setIns (ks : List Nat) (f : Str) (o d : D) (st : Sto) : Option Sto := match o with
  | .ref n => (match st[n]? with
    | some (.ins k ns ds) => if ks.contains k && Nat.blt ns.length 900 then some (st.set n (.ins k (putI f d ns ds).1 (putI f d ns ds).2)) else none
    | _ => none)
  | _ => none
/-- o.f = v -/
def sFldS (ks : List Nat) (f : Str) (fv fo : Ev) : EvS := fun ρ st => (fv ρ st).into ρ fun d st1 => (fo ρ st1).into ρ fun o st2 => match setIns ks f o d st2 with
  | some st3 => .ok (.nx ρ) st3
  | none => .bad
/-- o.f, o.g = .. -/
def setFs (ks : List Nat) (fo : Ev) (ρ : Env) : List Str → List D → Sto → RS
  | [], [], st => .ok (.nx ρ) st
  | f :: fs, d :: ds, st => (fo ρ st).into ρ fun o st2 => match setIns ks f o d st2 with
    | some st3 => setFs ks fo ρ fs ds st3
    | none => .bad
  | _, _, _ => .bad
def sFldsS (ks : List Nat) (fs : List Str) (fv fo : Ev) : EvS := fun ρ st => (fv ρ st).into ρ fun d st1 => match d with
  | .tup ds => if Nat.beq ds.length fs.length then setFs ks fo ρ fs ds st1 else .bad
  | _ => .bad
def gFldA (K : PySem.W.Frag) (ta : TE) (f : Str) : TG := fun y σ H Q => ta σ H fun x H2 => ∃ a c dx fs, x = .ref a ∧ H2 a = some (.ins c dx fs) ∧ Cls K c ∧ NoAttr K c f ∧ fs.length < 1000 ∧ Q σ (upd H2 a (.ins c dx (putF f y fs)))
section
variable {X : Cx} {C : Cfg} {o e : Expr} {fo fv : Ev} {ks : List Nat} {f : Str} {pos pos' : Pos}
theorem SE.fld (hK : X.K = C.K) (hks : FldOk X.K C ks f) (ho : SE X C o fo) (hb : attributeBase o f X.env (eval o X.env) = eval o X.env := by rfl) : SE X C (.Attribute o f pos) (cFld ks f fo) := ⟨fun W tk => PE_imp (pe_fld (ho.run W tk) hb) fun σ H Q ⟨η, ρ, st, k, en, p⟩ =>
  ⟨η, ρ, st, k, en, Post.bind (R := Rep C) (r := fo ρ st) p fun d st1 v η1 H1 _ s1 k1 rd p1 => by
    split at p1
    · rename_i j ns ds ev
      obtain ⟨a, c, dx, fs, rfl, ea, g, e1, rs⟩ := vw_ins k1 rd ev
      split at p1
      · rename_i hk
        obtain ⟨a2, g2, cl, na⟩ := hks j (by simpa using hk)
        rw [g] at g2
        cases g2
        split at p1
        · rename_i d2 el
          obtain ⟨w, e2, rw2⟩ := lookF_rep e1 rs el
          exact ⟨a, c, dx, fs, w, rfl, ea, cl, na, e2, p1 w η1 H1 Step.refl k1 rw2⟩
        · exact p1.elim
      · exact p1.elim
    · exact p1.elim⟩⟩
/-- one attribute written, at the level of the store -/
theorem setIns_ok {η : List Addr} {H : Hp} {st st3 : Sto} {d od : D} {y v : V} (hks : FldOk X.K C ks f) (k : StOk C η st H) (ro : Rep C η H od v) (ry : Rep C η H d y) (h : setIns ks f od d st = some st3) :
    ∃ a c dx fs, v = .ref a ∧ H a = some (.ins c dx fs) ∧ Cls X.K c ∧ NoAttr X.K c f ∧ fs.length < 1000 ∧ Step η H η (upd H a (.ins c dx (putF f y fs))) ∧ StOk C η st3 (upd H a (.ins c dx (putF f y fs))) := by
  unfold setIns at h
  split at h
  · rename_i n
    split at h
    · rename_i j ns ds e1
      split at h
      · rename_i hq
        rw [Bool.and_eq_true] at hq
        cases h
        rw [Rep] at ro
        obtain ⟨a, ea, rfl⟩ := ro
        obtain ⟨c, dx, fs, eH, g, en, rs⟩ := k.ok n a _ ea e1
        obtain ⟨a2, g2, cl, na⟩ := hks j (by simpa using hq.1)
        rw [g] at g2
        cases g2
        have hl : fs.length < 1000 := by
          have z := Nat.le_of_ble_eq_true hq.2
          rw [← en, List.length_map] at z
          omega
        have S : Step η H η (upd H a (.ins c dx (putF f y fs))) := ⟨⟨[], by simp, by simp⟩, fun b u e n _ => by
          rw [upd_ne (fun z => n (by rw [z]; exact List.mem_of_getElem? ea))]
          exact e, fun b z => by
          by_cases q : b = a
          · rw [q, upd_same] at z
            cases z
          · rwa [upd_ne q] at z⟩
        obtain ⟨q1, q2⟩ := putI_rep (f := f) (ry.mono S) en (rs.mono S)
        exact ⟨a, c, dx, fs, rfl, eH, cl, na, hl, S, k.put ea ⟨c, dx, _, upd_same, g, q1, q2⟩⟩
      · cases h
    · cases h
  · cases h
theorem SS.fld1 (hks : FldOk X.K C ks f) (ho : SE X C o fo) (hv : SE X C e fv) (hs : swapsWith e (some (.Attribute o f pos')) pos.line X.env = pure false := by rfl) : SS X C (.Assign [.Attribute o f pos'] e pos) (sFldS ks f fv fo) := ⟨fun W tk => PS_imp (ps_fld (ho.run W tk) (hv.run W tk) hs) fun D σ H ⟨η, ρ, st, k, en, p⟩ =>
  ⟨η, ρ, st, k, en, PostS.into (R := Rep C) (r := fv ρ st) p en fun d st1 y η1 H1 _ s1 k1 r1 p1 =>
    ⟨η1, ρ, st1, k1, en.mono s1, PostS.into (R := Rep C) (r := fo ρ st1) p1 (en.mono s1) fun od st2 v η2 H2 _ s2 k2 r2 p2 => by
      cases h : setIns ks f od d st2 with
      | none => rw [h] at p2; exact p2.elim
      | some st3 =>
        rw [h] at p2
        obtain ⟨a, c, dx, fs, rfl, eH, cl, na, hl, S, k3⟩ := setIns_ok hks k2 r2 (r1.mono s2) h
        exact ⟨a, c, dx, fs, rfl, eH, cl, na, hl, p2 σ η2 _ S k3 (((en.mono s1).mono s2).mono S)⟩⟩⟩⟩
theorem pg_fldA {ta : TE} (ho : PE X o ta) : PG X (.Attribute o f pos) (gFldA X.K ta f) := by
  refine ⟨fun pins s σ H y u Q I r h => ?_⟩
  rw [assign_Attribute]
  refine wpAny_bind (wpAny_holding (thn (ho.run pins s σ H _ I h) fun ov s1 ⟨x, H1, I1, r1, a, c, dx, fs, e1, ea, cl, na, hl, q⟩ => wpAny_bind (wpAny_standAt (wpAny_bind (wpAny_holding ?_)))))
  subst e1
  obtain rfl : ov = Value.ref a := r1
  exact setattr_ok I1 ea cl na hl r fun s3 I3 => wpAny_release ⟨σ, _, I3, q⟩
/-- the targets o.f, o.g, .. -/
inductive AtTs (X : Cx) (C : Cfg) (o : Expr) (fo : Ev) (ks : List Nat) : List Expr → List Str → Prop
  | nil : AtTs X C o fo ks [] []
  | cons {p : Pos} {f : Str} {es : List Expr} {fs : List Str} {o2 : Expr} (hks : FldOk X.K C ks f) (ho : SE X C o2 fo) (hs : (assignEach (.Attribute o2 f p :: es) X.env).map (·.2) = assign (.Attribute o2 f p) X.env :: (assignEach es X.env).map (·.2)) (r : AtTs X C o fo ks es fs) : AtTs X C o fo ks (.Attribute o2 f p :: es) (f :: fs)
def gAts (C : Cfg) (W : WX) (fo : Ev) (ks : List Nat) (fs : List Str) : TGs := fun vs σ H Q => ∃ η ρ st ds, StOk C η st H ∧ EnvOk C η H ρ σ ∧ RepL C η H ds vs ∧ ∃ D : Ends, PostS C W η H (setFs ks fo ρ fs ds st) D ∧ ∀ σ' H', D.nx σ' H' → Q σ' H'
theorem AtTs.run {es : List Expr} {fs : List Str} {W : WX} (tk : Takes X W) (h : AtTs X C o fo ks es fs) : PGs X es (gAts C W fo ks fs) := by
  induction h with
  | nil =>
    refine ⟨fun pins s σ H vs us Q I r ⟨η, ρ, st, ds, k, en, rs, D, p, dq⟩ => ?_⟩
    match ds, rs, p with
    | [], rs, p =>
      rw [RepL] at rs
      subst rs
      exact pgs_nil.run pins s σ H [] us Q I r ⟨rfl, dq _ _ (p.nx k en)⟩
    | _ :: _, _, p => exact p.elim
  | @cons p f es fs o2 hks ho hs r ih =>
    have base := pgs_cons (pg_fldA (pos := p) (f := f) (ho.run W tk)) ih hs
    refine ⟨fun pins s σ H vs us Q I r ⟨η, ρ, st, ds, k, en, rs, D, p, dq⟩ => ?_⟩
    match ds, rs, p with
    | [], _, p => exact p.elim
    | d :: ds, rs, p =>
      rw [RepL] at rs
      obtain ⟨y, vr, rfl, ry, rs⟩ := rs
      refine base.run pins s σ H _ us Q I r ⟨y, vr, rfl, η, ρ, st, k, en, ?_⟩
      have p : PostS C W η H ((fo ρ st).into ρ fun o st2 => match setIns ks f o d st2 with
        | some st3 => setFs ks fo ρ fs ds st3
        | none => .bad) D := p
      exact PostS.into (R := Rep C) (r := fo ρ st) p en fun od st2 v η2 H2 _ s2 k2 r2 p2 => by
        cases h : setIns ks f od d st2 with
        | none => rw [h] at p2; exact p2.elim
        | some st3 =>
          rw [h] at p2
          obtain ⟨a, c, dx, fs2, rfl, eH, cl, na, hl, S, k3⟩ := setIns_ok hks k2 r2 (ry.mono s2) h
          exact ⟨a, c, dx, fs2, rfl, eH, cl, na, hl, η2, ρ, st3, ds, k3, (en.mono s2).mono S, rs.mono (s2.trans S), D, PostS.step S p2, dq⟩
theorem SS.flds {es : List Expr} {fs : List Str} {n j : Nat} {tp : Pos} (hK : X.K = C.K) (hc : X.calm = true) (he : SE X C e fv) (h : AtTs X C o fo ks es fs) (hn : (assignEach es X.env).length = n := by rfl) (hl : fs.length = n := by rfl) (hst : (assignEach es X.env).findIdx? (·.1) = none := by rfl)
    (hs : swapsWithSole [.Tuple es j tp] e pos.line X.env = pure false := by rfl) (hw : swappedStores [.Tuple es j tp] e X.env = pure none := by rfl) (h1 : (assignEach [.Tuple es j tp] X.env).map (·.2) = [assign (.Tuple es j tp) X.env] := by rfl) :
    SS X C (.Assign [.Tuple es j tp] e pos) (sFldsS ks fs fv fo) := ⟨fun W tk => PS_imp (ps_asg (he.run W tk) (pg_tup hc (h.run tk) hn hst) hs hw h1) fun D σ H ⟨η, ρ, st, k, en, p⟩ =>
  ⟨η, ρ, st, k, en, PostS.into (R := Rep C) (r := fv ρ st) p en fun d st1 v η1 H1 _ s1 k1 r1 p1 => by
    cases d with
    | tup ds =>
      rw [Rep] at r1
      obtain ⟨a, vs, rfl, t, rs⟩ := r1
      have p1 : PostS C W η1 H1 (if Nat.beq ds.length fs.length then setFs ks fo ρ fs ds st1 else .bad) D := p1
      split at p1
      case isFalse => exact p1.elim
      rename_i hlen
      have hlen : ds.length = fs.length := Nat.eq_of_beq_eq_true hlen
      rw [hK]
      exact ⟨a, vs, rfl, t.sq, by rw [← rs.length, hlen, hl], η1, ρ, st1, ds, k1, en.mono s1, rs, D, p1, fun _ _ z => z⟩
    | _ => exact p1.elim⟩⟩
end
end G

set_option Elab.async false
set_option linter.all false
set_option maxRecDepth 100000
set_option maxHeartbeats 4000000
/-! Methods, properties, instances made. -/
namespace G
open PySem PySem.Spec PyProof.Rows L2
open LamX NdefX
def findM {α : Type} (k : Nat) : List (Nat × α) → Option α
  | [] => none
  | (j, a) :: r => if Nat.beq j k then some a else findM k r
theorem findM_mem {α : Type} {k : Nat} {a : α} : ∀ {l : List (Nat × α)}, findM k l = some a → (k, a) ∈ l
  | (j, b) :: r, h => by
    unfold findM at h
    split at h
    · rename_i q
      cases h
      rw [Nat.eq_of_beq_eq_true q]
      exact .head _
    · exact .tail _ (findM_mem h)
/-- o.m(..): the classes that have m, each with its def and what stands behind the arguments -/
def cMeth (m : Str) (tl : List (Nat × Fn × List D)) (fo : Ev) (fs : EvA) : Ev := fun ρ st => (fo ρ st).bind fun o st1 => match vw st1 o with
  | .ins j ns _ => (match findM j tl with
    | some (g, dd) => if ns.contains m then .bad else (fs ρ st1).bind fun ds st2 => g (o :: (ds ++ dd)) st2
    | none => .bad)
  | _ => .bad
def cProp (tl : List (Nat × Fn)) (fo : Ev) : Ev := fun ρ st => (fo ρ st).bind fun o st1 => match vw st1 o with
  | .ins j _ _ => (match findM j tl with
    | some g => (match g [o] st1 with
      | .ok d st2 => .ok d st2
      | _ => .bad)
    | none => .bad)
  | _ => .bad
def cMake (k : Nat) (g : Fn) (dd : List D) (fs : EvA) : Ev := fun ρ st => (fs ρ st).bind fun ds st1 => match g (.ref st1.length :: (ds ++ dd)) (st1 ++ [.ins k [] []]) with
  | .ok .non st2 => .ok (.ref st1.length) st2
  | .exc x st2 => .exc x st2
  | _ => .bad
def MethRow (X : Cx) (C : Cfg) (m : Str) (n k : Nat) (g : Fn) (dd : List D) : Prop := ∃ (c fa : Addr) (fd : FuncData) (ps : List Str) (lv : Nat) (ds : List Value) (dvs : List V),
  C.gl k = some c ∧ Cls X.K c ∧ Meth X.K c m fa ∧ FnG X.prog X.w X.K X.mg X.base C.gl C.tabs lv fa fd ps g ∧ Room lv X.A ∧ Binds X.K fd ps ds ∧ Vals dvs ds ∧ (∀ η H, RepL C η H dd dvs) ∧ n + 1 + dd.length = ps.length
def MethTab (X : Cx) (C : Cfg) (m : Str) (n : Nat) (tl : List (Nat × Fn × List D)) : Prop := ∀ k g dd, (k, g, dd) ∈ tl → MethRow X C m n k g dd
def PropRow (X : Cx) (C : Cfg) (f : Str) (k : Nat) (g : Fn) : Prop := ∃ (c p fa : Addr) (fd : FuncData) (ps : List Str) (lv : Nat), C.gl k = some c ∧ Cls X.K c ∧ PropOf X.K c f p fa ∧ FnG X.prog X.w X.K X.mg X.base C.gl C.tabs lv fa fd ps g ∧ Room (lv + 1) X.A ∧ Binds X.K fd ps [] ∧ 1 = ps.length
def PropTab (X : Cx) (C : Cfg) (f : Str) (tl : List (Nat × Fn)) : Prop := ∀ k g, (k, g) ∈ tl → PropRow X C f k g
section
variable {X : Cx} {C : Cfg} {o e : Expr} {es : List Expr} {fo : Ev} {fs : EvA} {m f x : Str} {pos apos p : Pos} {n k lv : Nat}
theorem MethTab.nil : MethTab X C m n [] := fun _ _ _ h => (List.not_mem_nil h).elim
theorem MethTab.cons {g : Fn} {dd : List D} {tl : List (Nat × Fn × List D)} (h : MethRow X C m n k g dd) (r : MethTab X C m n tl) : MethTab X C m n ((k, g, dd) :: tl) := fun j g2 dd2 hj => by
  rcases List.mem_cons.mp hj with z | hj
  · cases z
    exact h
  · exact r j g2 dd2 hj
theorem PropTab.nil : PropTab X C f [] := fun _ _ h => (List.not_mem_nil h).elim
theorem PropTab.cons {g : Fn} {tl : List (Nat × Fn)} (h : PropRow X C f k g) (r : PropTab X C f tl) : PropTab X C f ((k, g) :: tl) := fun j g2 hj => by
  rcases List.mem_cons.mp hj with z | hj
  · cases z
    exact h
  · exact r j g2 hj
theorem meth_run {pl : Sem Bool} {tl : List (Nat × Fn × List D)} {kwargs : Bool} (hK : X.K = C.K) (hgd : X.A.guards = some []) (T : MethTab X C m n tl) {W : WX} (tk : Takes X W) {pins : List (Addr × Obj)} {σ : L2.St} {H : Hp} {s : Shared} {Q : VK} {u : Value} {ov : V} {η : List Addr} {st : Sto} {od : D} {ρ : Env}
    {rest : Value × List Value → Sem Value} (I : Inv X pins σ H s) (ro : RelV ov u) (k1 : StOk C η st H) (en : EnvOk C η H ρ σ) (rd : Rep C η H od ov)
    (p1 : Post C W σ (Rep C) η H (match vw st od with
      | .ins j ns _ => (match findM j tl with
        | some (g, dd) => if ns.contains m then .bad else (fs ρ st).bind fun ds st2 => g (od :: (ds ++ dd)) st2
        | none => .bad)
      | _ => .bad) Q)
    (hrest : ∀ (a fa : Addr) (fd : FuncData) (ps : List Str) (lv : Nat) (g : Fn) (dd : List D) (ds : List Value) (dvs : List V), u = .ref a → ov = .ref a → FnG X.prog X.w X.K X.mg X.base C.gl C.tabs lv fa fd ps g → Room lv X.A → Binds X.K fd ps ds → Vals dvs ds → (∀ η H, RepL C η H dd dvs) → n + 1 + dd.length = ps.length → PySem.W.keepIn X.K (.ref fa) = true →
      Post C W σ (Rep C) η H ((fs ρ st).bind fun ds st2 => g (od :: (ds ++ dd)) st2) Q → wpAny (model X.prog X.w) X.A (rest (.ref fa, [.ref a])) (EP X pins σ Q) X.xe s) :
    wpAny (model X.prog X.w) X.A (getMethod u m pl) (fun fx s2 => wpAny (model X.prog X.w) X.A (rest fx) (EP X pins σ Q) X.xe s2) X.xe s := by
  split at p1
  · rename_i j ns ds0 ev
    split at p1
    · rename_i g dd ef
      split at p1
      · exact p1.elim
      · rename_i hno
        obtain ⟨a, c, dx, ff, rfl, ea, gl, e1, _⟩ := vw_ins k1 rd ev
        obtain rfl : u = Value.ref a := ro
        obtain ⟨c2, fa, fd, ps, lv, ds, dvs, g2, cl, hm, F, hr, hb, hd, hdr, hn⟩ := T _ _ _ (findM_mem ef)
        rw [gl] at g2
        cases g2
        exact getmeth_ok I ea cl hm (lookF_no e1 (by simpa using hno)) (hrest a fa fd ps lv g dd ds dvs rfl rfl F hr hb hd hdr hn hm.kp p1)
    · exact p1.elim
  · exact p1.elim
theorem SE.meth {pl : Sem Bool} {tl : List (Nat × Fn × List D)} (hK : X.K = C.K) (hgd : X.A.guards = some []) (ho : SE X C o fo) (T : MethTab X C m (e :: es).length tl) (ha : SA X C (e :: es) fs) (hlen : ∀ ρ st a st1, fs ρ st = .ok a st1 → a.length = (e :: es).length)
    (hst : starEach (e :: es) X.env = (false, eval e X.env) :: starEach es X.env := by rfl) (hpl : (backTo pos (starEach es X.env)).any (·.1) = false := by rfl)
    (ht : eval (.Call (.Attribute o m apos) (e :: es) [] pos) X.env = (do
      let ov ← eval o X.env
      standAt apos.atName
      let (f, first) ← holding [ov] (getMethod ov m pl)
      callWith pos f first (backTo pos (starEach (e :: es) X.env)) (backToKw pos (keywordEach [] X.env))) := by rfl) :
    SE X C (.Call (.Attribute o m apos) (e :: es) [] pos) (cMeth m tl fo fs) := ⟨fun W tk => ⟨fun pins s σ H Q I ⟨η, ρ, st, k0, en, post⟩ => by
  refine PySem.W.methodCall_KW (pl := pl) (thn ((ho.run W tk).run pins s σ H (fun ov H1 => ∃ η1 st1 od, StOk C η1 st1 H1 ∧ EnvOk C η1 H1 ρ σ ∧ Rep C η1 H1 od ov ∧ Post C W σ (Rep C) η1 H1 (match vw st1 od with
      | .ins j ns _ => (match findM j tl with
        | some (g, dd) => if ns.contains m then .bad else (fs ρ st1).bind fun ds st2 => g (od :: (ds ++ dd)) st2
        | none => .bad)
      | _ => .bad) Q) I ⟨η, ρ, st, k0, en, ?_⟩) fun u s1 ⟨ov, H1, I1, ro, η1, st1, od, k1, en1, rd, p1⟩ => ?_) ht
  · exact Post.bind (R := Rep C) (r := fo ρ st) post fun od st1 ov η1 H1 _ s1 k1 rd p1 => ⟨η1, st1, od, k1, en.mono s1, rd, p1⟩
  · refine meth_run (kwargs := false) hK hgd T tk I1 ro k1 en1 rd p1 (rest := fun fx => callWith pos fx.1 fx.2 (backTo pos (starEach (e :: es) X.env)) (backToKw pos (keywordEach [] X.env))) ?_
    intro a fa fd ps lv g dd ds dvs eu eo F hr hb hd hdr hn kp p2
    subst eu eo
    refine PySem.W.callWith_K (first := [.ref a]) (h₀ := X.base) I1.ok.mod.kin kp (thn ((ha.run W tk).run pos pins s1 σ H1 (fun vs H2 => ∃ η2 st2 as, StOk C η2 st2 H2 ∧ Rep C η2 H2 od (.ref a) ∧ RepL C η2 H2 as vs ∧ as.length = (e :: es).length ∧ Post C W σ (Rep C) η2 H2 (g (od :: (as ++ dd)) st2) Q) I1 ⟨η1, ρ, st1, k1, en1, ?_⟩) fun us s2 ⟨vs, H2, I2, r, η2, st2, as, k2, rd2, ra, la, p3⟩ => ⟨I2.kIn, ?_⟩) hst hpl
    · exact Post.bind (R := RepL C) (r := fs ρ st1) p2 fun as st2 vs η2 H2 hok s2 k2 ra p3 => ⟨η2, st2, as, k2, rd.mono s2, ra, hlen _ _ _ _ hok, p3⟩
    · have ra2 := RepL.cons rd2 (ra.append (hdr η2 H2))
      exact call_run (us := .ref a :: us) (vs := .ref a :: vs) F hK hr hgd hb hd tk I2 (.cons rfl r) k2 ra2 (by rw [← hn, ← la]; simp [ra.length, (hdr η2 H2).length]; omega) p3⟩⟩
theorem SE.meth0 {pl : Sem Bool} {tl : List (Nat × Fn × List D)} (hK : X.K = C.K) (hgd : X.A.guards = some []) (ho : SE X C o fo) (T : MethTab X C m 0 tl)
    (ht : eval (.Call (.Attribute o m apos) [] [] pos) X.env = (do
      let ov ← eval o X.env
      standAt apos.atName
      let (f, first) ← holding [ov] (getMethod ov m pl)
      callWith pos f first (backTo pos (starEach [] X.env)) (backToKw pos (keywordEach [] X.env))) := by rfl) :
    SE X C (.Call (.Attribute o m apos) [] [] pos) (cMeth m tl fo cNil) := ⟨fun W tk => ⟨fun pins s σ H Q I ⟨η, ρ, st, k0, en, post⟩ => by
  refine PySem.W.methodCall_KW (pl := pl) (thn ((ho.run W tk).run pins s σ H (fun ov H1 => ∃ η1 st1 od, StOk C η1 st1 H1 ∧ EnvOk C η1 H1 ρ σ ∧ Rep C η1 H1 od ov ∧ Post C W σ (Rep C) η1 H1 (match vw st1 od with
      | .ins j ns _ => (match findM j tl with
        | some (g, dd) => if ns.contains m then .bad else (cNil ρ st1).bind fun ds st2 => g (od :: (ds ++ dd)) st2
        | none => .bad)
      | _ => .bad) Q) I ⟨η, ρ, st, k0, en, ?_⟩) fun u s1 ⟨ov, H1, I1, ro, η1, st1, od, k1, en1, rd, p1⟩ => ?_) ht
  · exact Post.bind (R := Rep C) (r := fo ρ st) post fun od st1 ov η1 H1 _ s1 k1 rd p1 => ⟨η1, st1, od, k1, en.mono s1, rd, p1⟩
  · refine meth_run (kwargs := false) hK hgd T tk I1 ro k1 en1 rd p1 (rest := fun fx => callWith pos fx.1 fx.2 (backTo pos (starEach [] X.env)) (backToKw pos (keywordEach [] X.env))) ?_
    intro a fa fd ps lv g dd ds dvs eu eo F hr hb hd hdr hn kp p2
    subst eu eo
    have p3 : Post C W σ (Rep C) η1 H1 (g (od :: dd) st1) Q := p2
    have ra2 := RepL.cons rd (hdr η1 H1)
    exact PySem.W.callWith_K0 I1.kIn kp (call_run (us := [.ref a]) (vs := [.ref a]) F hK hr hgd hb hd tk I1 (.cons rfl .nil) k1 ra2 (by rw [← hn]; simp [(hdr η1 H1).length]; omega) p3)⟩⟩
theorem SE.prop {tl : List (Nat × Fn)} (hK : X.K = C.K) (hgd : X.A.guards = some []) (ho : SE X C o fo) (T : PropTab X C f tl) (hab : attributeBase o f X.env (eval o X.env) = eval o X.env := by rfl) : SE X C (.Attribute o f pos) (cProp tl fo) := ⟨fun W tk => ⟨fun pins s σ H Q I ⟨η, ρ, st, k0, en, post⟩ => by
  refine attr_of hab (thn ((ho.run W tk).run pins s σ H (fun ov H1 => ∃ η1 st1 od, StOk C η1 st1 H1 ∧ Rep C η1 H1 od ov ∧ Post C W σ (Rep C) η1 H1 (match vw st1 od with
      | .ins j _ _ => (match findM j tl with
        | some g => (match g [od] st1 with
          | .ok d st2 => .ok d st2
          | _ => .bad)
        | none => .bad)
      | _ => .bad) Q) I ⟨η, ρ, st, k0, en, ?_⟩) fun u s1 ⟨ov, H1, I1, ro, η1, st1, od, k1, rd, p1⟩ => ?_)
  · exact Post.bind (R := Rep C) (r := fo ρ st) post fun od st1 ov η1 H1 _ s1 k1 rd p1 => ⟨η1, st1, od, k1, rd, p1⟩
  · split at p1
    · rename_i j ns ds0 ev
      split at p1
      · rename_i g ef
        obtain ⟨a, c, dx, ff, rfl, ea, gl, e1, _⟩ := vw_ins k1 rd ev
        obtain rfl : u = Value.ref a := ro
        obtain ⟨c2, pa, fa, fd, ps, lv, g2, cl, hp, F, hr, hb, hn⟩ := T _ _ (findM_mem ef)
        rw [gl] at g2
        cases g2
        obtain ⟨mA, O, _, _, _, _⟩ := ins_get I1.hok ea
        obtain ⟨od2, J, _⟩ := O.look
        obtain ⟨rest, hrec⟩ := hp.rec_
        have I2 := I1.tok (s1.toks + 1)
        refine PySem.W.get_bind I1.kIn J (PySem.W.plainGet_of (cl.get f)).1 (PySem.W.findObj_data (let ⟨cd, hc, _⟩ := PySem.W.any_some cl.hd; by rw [hc]; rfl) hp.at_ hp.get hp.tak) (PySem.W.plainGet_of (cl.get f)).2 (wpAny_call (PySem.W.prop_get (s := { s1 with toks := s1.toks + 1 }) I1.kIn hrec ?_))
        have q : spD X.K C.gl C.tabs g ps.length [.ref a] H1 Q (fun _ _ _ => False) := by
          obtain ⟨K, gl2, hot, lam, tb⟩ := C
          dsimp only at hK
          subst hK
          refine ⟨hot, lam, η1, st1, [od], k1, RepL.one rd, hn, ?_⟩
          cases eg : g [od] st1 with
          | ok d st2 => rw [eg] at p1; exact p1
          | exc x st2 => rw [eg] at p1; exact p1.elim
          | bad => rw [eg] at p1; exact p1.elim
        refine codeAny_mono (F.run X.A.in1 X.stack { s1 with toks := s1.toks + 1 } H1 ⟨[.ref a], []⟩ [.ref a] [.ref a] Q _ hr.in1 hgd I2.env0.in1 (by have z := hb _ [.ref a] I2.kIn (by simpa using hn); simpa using z) (.cons rfl .nil) q) fun r s2 hq => ?_
        cases r with
        | error er =>
          obtain ⟨_, _, _, _, _, _, _, _, _, _, _, _, hE⟩ := hq
          exact hE.elim
        | ok fl =>
          cases fl with
          | ret u =>
            obtain ⟨v, H2, I3, rv, q3⟩ := I2.after hq
            show wpAny _ _ (handedOut u) _ _ _
            rw [PySem.W.handedOut_of (handed_of rv)]
            exact wpAny_pure ⟨v, H2, I3, rv, q3⟩
          | next => exact False.elim hq
          | brk => exact False.elim hq
          | cont => exact False.elim hq
      · exact p1.elim
    · exact p1.elim⟩⟩
theorem make_run {c fa : Addr} {fd : FuncData} {ps : List Str} {g : Fn} {ds : List Value} {dvs : List V} {us : List Value} {vs : List V} {as : List D} (hK : X.K = C.K) (hgd : X.A.guards = some []) (M : Mk X.K c fa) (hgl : C.gl k = some c) (F : FnG X.prog X.w X.K X.mg X.base C.gl C.tabs lv fa fd ps g) (hr : Room (lv + 1) X.A)
    (hb : Binds X.K fd ps ds) (hd : Vals dvs ds) {W : WX} (tk : Takes X W) {pins : List (Addr × Obj)} {σ : L2.St} {H : Hp} {s : Shared} {Q : VK} {η : List Addr} {st : Sto} (I : Inv X pins σ H s) (r : Vals vs us) (k1 : StOk C η st H) (ra : RepL C η H as (vs ++ dvs)) (hl : (vs ++ dvs).length + 1 = ps.length)
    (post : Post C W σ (Rep C) η H (match g (.ref st.length :: as) (st ++ [.ins k [] []]) with
      | .ok .non st2 => .ok (.ref st.length) st2
      | .exc x st2 => .exc x st2
      | _ => .bad) Q) : wpAny (model X.prog X.w) X.A (call (.ref c) us) (EP X pins σ Q) X.xe s := by
  have nx : H (s.heap.objs.size + 1) = none := I.hok.fresh (Nat.le_succ _)
  have nd : H s.heap.objs.size = none := I.hok.fresh (Nat.le_refl _)
  have ne : s.heap.objs.size + 1 ≠ s.heap.objs.size := Nat.ne_of_gt (Nat.lt_succ_self _)
  have I2 := Inv.made (C := c) I
  have nx2 : (upd H s.heap.objs.size (.own (s.heap.objs.size + 1))) (s.heap.objs.size + 1) = none := by rw [upd_ne ne]; exact nx
  have k2 := (k1.new (o := .own (s.heap.objs.size + 1)) nd).push (o := .ins k [] []) (u := .ins c s.heap.objs.size []) nx2 ⟨c, s.heap.objs.size, [], upd_same, hgl, rfl, RepL.nil⟩
  have S : Step η H (η ++ [s.heap.objs.size + 1]) (upd (upd H s.heap.objs.size (.own (s.heap.objs.size + 1))) (s.heap.objs.size + 1) (.ins c s.heap.objs.size [])) := (Step.new nd).trans (Step.push nx2)
  have rr : Rep C (η ++ [s.heap.objs.size + 1]) (upd (upd H s.heap.objs.size (.own (s.heap.objs.size + 1))) (s.heap.objs.size + 1) (.ins c s.heap.objs.size [])) (.ref st.length) (.ref (s.heap.objs.size + 1)) := by
    rw [Rep]
    exact ⟨_, by rw [← k1.len]; simp, rfl⟩
  have r2 : Vals (V.ref (s.heap.objs.size + 1) :: (vs ++ dvs)) (Value.ref (s.heap.objs.size + 1) :: (us ++ ds)) := .cons rfl (r.append hd)
  have hl2 : (Value.ref (s.heap.objs.size + 1) :: us ++ ds).length = ps.length := by
    rw [← hl]
    exact r2.length.symm
  obtain ⟨K, gl2, hot, lam, tb⟩ := C
  dsimp only at hK
  subst hK
  have q : spD X.K gl2 tb g ps.length (V.ref (s.heap.objs.size + 1) :: (vs ++ dvs)) (upd (upd H s.heap.objs.size (.own (s.heap.objs.size + 1))) (s.heap.objs.size + 1) (.ins c s.heap.objs.size [])) (fun v H2 => v = .non ∧ Q (.ref (s.heap.objs.size + 1)) H2) (fun c d H' => W c d σ H') := by
    refine ⟨hot, lam, _, _, _, k2, RepL.cons rr (ra.mono S), by rw [← hl]; rfl, ?_⟩
    cases eg : g (.ref st.length :: as) (st ++ [.ins k [] []]) with
    | ok d st2 =>
      rw [eg] at post
      cases d with
      | non =>
        intro v η' H' s3 k3 rv
        rw [Rep] at rv
        have e0 : η'[st.length]? = some (s.heap.objs.size + 1) := s3.ref (by rw [← k1.len]; simp)
        exact ⟨rv, post (.ref (s.heap.objs.size + 1)) η' H' (S.trans s3) k3 (by rw [Rep]; exact ⟨_, e0, rfl⟩)⟩
      | _ => exact post.elim
    | exc x st2 =>
      rw [eg] at post
      exact fun c d η' H' s3 k3 rx => post c d η' H' (S.trans s3) k3 rx
    | bad => rw [eg] at post; exact post.elim
  refine wpAny_call (make_map (f := fa) I.kIn M.makes M.init (beq_iff_eq.mp M.fn) (codeAny_mono (F.run _ X.stack _ _ ⟨Value.ref (s.heap.objs.size + 1) :: us, []⟩ (Value.ref (s.heap.objs.size + 1) :: (us ++ ds)) _ _ _ (hr.make c us []) hgd (I2.env0.make c us []) (hb _ (Value.ref (s.heap.objs.size + 1) :: us) I2.kIn hl2) r2 q) fun res s2 hq => ?_))
  cases res with
  | error e => exact tk e s2 (XE.of_call I2 (fun _ _ _ z => z) hq)
  | ok fl =>
    cases fl with
    | ret u =>
      obtain ⟨v, H2, I3, rv, ev, q3⟩ := I2.after hq
      subst ev
      exact ⟨rv, ⟨V.ref (s.heap.objs.size + 1), H2, I3, rfl, q3⟩⟩
    | next => exact False.elim hq
    | brk => exact False.elim hq
    | cont => exact False.elim hq
end
end G

set_option Elab.async false
set_option linter.all false
set_option maxRecDepth 100000
set_option maxHeartbeats 4000000
/-! Own classes in the head; C(..), isinstance. -/
namespace G
open PySem PySem.Spec PyProof.Rows L2
open LamX NdefX
/-- a method: its def -/
structure MethAt (K : PySem.W.Frag) (C m q : Str) (st : Stmt) (dd : List He.Dv) (fd : FuncData) : Prop where
  fn : FunD K m q (defArgs st) (defBody st) (defScope st) (dd.map (He.Dv.v K)) [] (He.ma K (He.ga K C) m) fd
theorem meth_at {K : PySem.W.Frag} {C m q : Str} {st : Stmt} {dd : List He.Dv} {fn : List He.DefD} {fa : List He.Fa} (c : He.SaysD fa fn K) (i : Nat) (h1 : fn[i]? = some ⟨(C, some m), m, q, defArgs st, defBody st, defScope st, dd, []⟩) : ∃ fd, MethAt K C m q st dd fd := by
  obtain ⟨fd, F⟩ := c.def_ i h1
  exact ⟨fd, ⟨F⟩⟩
theorem bindsM {K : PySem.W.Frag} {C m q : Str} {st : Stmt} {fd : FuncData} {ps : List Str} (at_ : MethAt K C m q st [] fd)
    (h : ∀ (kV doc pm : Value) (an : Option Addr) (cdv ct : Value) (us : List Value), us.length = ps.length → bindArgs (PySem.W.fnOf m q (defArgs st) (defBody st) (defScope st) .none kV doc pm an cdv ct) ⟨us, []⟩ = pure (ps.zip us)) :
    ∃ ds, Vals ((([] : List D).map dvD).map (He.Dv.v K)) ds ∧ Binds K fd ps ds := ⟨[], .nil, FunD.bindsN at_.fn h⟩
/-- a property -/
def ppA (K : PySem.W.Frag) (x f : Str) : Addr := match PySem.W.findIn K (.ref (He.ga K x)) f with
  | some (some (.ref p)) => p
  | _ => 0
def getB (K : PySem.W.Frag) (x f : Str) : Bool := decide (PySem.W.findIn K (.ref (He.ga K x)) f = some (some (.ref (ppA K x f)))) && (decide (PySem.W.specialIn K (.ref (ppA K x f)) "__get__" = some (some (.builtin "property.__get__"))) && (decide (PySem.W.takesIn K (.ref (ppA K x f)) = some true) &&
  ((match PySem.W.recIn K (ppA K x f) "property" with
    | some (.ref g :: _) => decide (g = pgA K x f)
    | _ => false) && (PySem.W.keepIn K (.ref (pgA K x f)) && (match K.lookup (pgA K x f) with
    | some ⟨_, _, .func fd, _⟩ => PySem.W.codeIn K fd.code fd.qualname && noneB fd.defaults
    | _ => false)))))
structure GetAt (K : PySem.W.Frag) (C f q : Str) (st : Stmt) (fd : FuncData) : Prop where
  p : PropOf K (He.ga K C) f (ppA K C f) (pgA K C f)
  fn : FunD K f q (defArgs st) (defBody st) (defScope st) [] [] (pgA K C f) fd
theorem get_at {K : PySem.W.Frag} {C f q : Str} {st : Stmt} (h : getB K C f = true) (e : fnG K C f = some (f, q, defArgs st, .stmts (defBody st), defScope st, mainGlobals, [], builtinsNs)) : ∃ fd, GetAt K C f q st fd := by
  unfold getB at h
  simp only [Bool.and_eq_true, decide_eq_true_eq] at h
  obtain ⟨h1, h2, h3, h4, h5, h6⟩ := h
  unfold fnG at e
  split at h6
  · rename_i oc od fd osl lk
    rw [lk] at e
    rw [Bool.and_eq_true] at h6
    obtain ⟨k1, k2⟩ := h6
    obtain ⟨n1, n2, n3, n4, n5, n6, n7, n8, n9, n10, n11, n12, n13, n14, n15⟩ := fd
    simp only [Option.some.injEq, Prod.mk.injEq] at e
    obtain ⟨rfl, rfl, rfl, rfl, rfl, rfl, ec, rfl⟩ := e
    dsimp only at k1 k2
    obtain rfl := noneB_ok k2
    obtain rfl : n7 = [] := by simpa using ec
    refine ⟨_, ⟨h1, h2, h3, ?_⟩, ⟨oc, od, .none, n9, n10, n11, n12, n13, n14, osl, rfl, lk, k1, .inl ⟨rfl, rfl⟩, .inl rfl⟩, h5⟩
    split at h4
    · rename_i g rest er
      have h4 := of_decide_eq_true h4
      subst h4
      exact ⟨_, er⟩
    · cases h4
  · cases h6
theorem bindsG {K : PySem.W.Frag} {C f q : Str} {st : Stmt} {fd : FuncData} {ps : List Str} (at_ : GetAt K C f q st fd)
    (h : ∀ (kV doc pm : Value) (an : Option Addr) (cdv ct : Value) (us : List Value), us.length = ps.length → bindArgs (PySem.W.fnOf f q (defArgs st) (defBody st) (defScope st) .none kV doc pm an cdv ct) ⟨us, []⟩ = pure (ps.zip us)) : Binds K fd ps [] := FunD.bindsN at_.fn h
/-! ### rows of the tables -/
section
variable {X : Cx} {C : Cfg} {m q f x : Str} {k n lv : Nat} {fd : FuncData} {ps : List Str} {g : Fn} {dd : List D} {st : Stmt}
theorem MethAt.row {c : Str} {dv : List He.Dv} (at_ : MethAt X.K c m q st dv fd) (hgl : C.gl k = some (He.ga X.K c)) (cl : Cls X.K (He.ga X.K c)) (hm : Meth X.K (He.ga X.K c) m (He.ma X.K (He.ga X.K c) m)) (F : FnG X.prog X.w X.K X.mg X.base C.gl C.tabs lv (He.ma X.K (He.ga X.K c) m) fd ps g) (hr : Room lv X.A)
    (hK : X.K = C.K) (hb : ∃ ds, Vals ((dd.map dvD).map (He.Dv.v X.K)) ds ∧ Binds X.K fd ps ds) (hdd : dd.all dvOk = true) (hn : n + 1 + dd.length = ps.length) : MethRow X C m n k g dd := by
  obtain ⟨ds, hd, hb⟩ := hb
  exact ⟨_, _, fd, ps, lv, ds, _, hgl, cl, hm, F, hr, hb, hd, fun η H => by rw [hK]; exact dv_rep hdd, hn⟩
theorem GetAt.row {c : Str} (at_ : GetAt X.K c f q st fd) (hgl : C.gl k = some (He.ga X.K c)) (cl : Cls X.K (He.ga X.K c)) (F : FnG X.prog X.w X.K X.mg X.base C.gl C.tabs lv (pgA X.K c f) fd ps g) (hr : Room (lv + 1) X.A) (hb : Binds X.K fd ps []) (hn : 1 = ps.length) : PropRow X C f k g :=
  ⟨_, _, _, fd, ps, lv, hgl, cl, at_.p, F, hr, hb, hn⟩
end
/-! ### C(..) -/
section
variable {X : Cx} {C : Cfg} {e : Expr} {es : List Expr} {fs : EvA} {x : Str} {pos p : Pos} {k lv : Nat}
theorem SE.make {q : Str} {fd : FuncData} {ps : List Str} {g : Fn} {dd : List D} {dv : List He.Dv} {st : Stmt} (at_ : MethAt X.K x (Str.ofString "__init__") q st dv fd) (M : Mk X.K (He.ga X.K x) (He.ma X.K (He.ga X.K x) (Str.ofString "__init__"))) (hm : X.mg x = some (.ref (He.ga X.K x))) (hgl : C.gl k = some (He.ga X.K x))
    (F : FnG X.prog X.w X.K X.mg X.base C.gl C.tabs lv (He.ma X.K (He.ga X.K x) (Str.ofString "__init__")) fd ps g) (hK : X.K = C.K) (hr : Room (lv + 1) X.A) (hgd : X.A.guards = some []) (hb : ∃ ds, Vals ((dd.map dvD).map (He.Dv.v X.K)) ds ∧ Binds X.K fd ps ds) (hdd : dd.all dvOk = true)
    (ha : SA X C (e :: es) fs) (hn : (e :: es).length + 1 + dd.length = ps.length) (hlen : ∀ ρ st a st1, fs ρ st = .ok a st1 → a.length = (e :: es).length) (hg : Gl X x := by rfl)
    (hdb : (x == ("__debug__" : Str)) = false := by decide) (he : starEach (e :: es) X.env = (false, eval e X.env) :: starEach es X.env := by rfl) (hpl : (backTo pos (starEach es X.env)).any (·.1) = false := by rfl) :
    SE X C (.Call (.Name x p) (e :: es) [] pos) (cMake k g dd fs) := ⟨fun W tk => ⟨fun pins s σ H Q I h => by
  obtain ⟨η, ρ, st, k0, en, post⟩ := h
  obtain ⟨ds, hd, hb⟩ := hb
  refine wpAny_Call_Name_kw (ld_glob I hg hm ?_ hdb)
  refine PySem.W.callWith_K (h₀ := X.base) I.ok.mod.kin M.kp ?_ he hpl
  refine thn ((ha.run W tk).run pos pins s σ H (fun vs H1 => ∃ η1 st1 as, StOk C η1 st1 H1 ∧ RepL C η1 H1 as vs ∧ as.length = (e :: es).length ∧ Post C W σ (Rep C) η1 H1 (match g (.ref st1.length :: (as ++ dd)) (st1 ++ [.ins k [] []]) with
    | .ok .non st2 => .ok (.ref st1.length) st2
    | .exc x st2 => .exc x st2
    | _ => .bad) Q) I ⟨η, ρ, st, k0, en, ?_⟩) fun us s1 ⟨vs, H1, I1, r, η1, st1, as, k1, ra, la, p1⟩ => ⟨I1.kIn, ?_⟩
  · exact Post.bind (R := RepL C) (r := fs ρ st) post fun as st1 vs η1 H1 hok s1 k1 ra p1 => ⟨η1, st1, as, k1, ra, hlen _ _ _ _ hok, p1⟩
  · have rdd : RepL C η1 H1 dd ((dd.map dvD).map (He.Dv.v X.K)) := by rw [hK]; exact dv_rep hdd
    have ra2 := ra.append rdd
    exact make_run hK hgd M hgl F hr hb hd tk I1 r k1 ra2 (by rw [← ra2.length, List.length_append, la, ← hn]; omega) p1⟩⟩
end
/-! ### isinstance -/
def insB (K : PySem.W.Frag) (x : Str) : Bool := (He.Fa.cls x).ok K && (decide (PySem.W.findIn K (.ref (He.ga K x)) "__class__" = some (some (.builtin "object.__class__"))) && (decide (PySem.W.specialIn K (.builtin "object.__class__") "__get__" = some (some (.builtin "getset_descriptor.__get__"))) &&
  (decide (PySem.W.takesIn K (.builtin "object.__class__") = some true) && (decide (PySem.W.mroIn K (He.ga K x) (.type "object") = some true) && decide (PySem.W.kitOne K (.ref (He.ga K x)) (.ref (He.ga K x)) = some true)))))
theorem insB_ok {K : PySem.W.Frag} {x : Str} (h : insB K x = true) : C8.InsC K (He.ga K x) := by
  unfold insB at h
  simp only [Bool.and_eq_true, decide_eq_true_eq] at h
  obtain ⟨h1, h2, h3, h4, h5, h6⟩ := h
  exact ⟨He.cls_ok h1, h2, h3, h4, h5, h6⟩
def allTy : List Ty := [.int, .bool, .str, .tuple, .list, .dict, .none, .set, .float]
theorem allTy_mem (t : Ty) : t ∈ allTy := by cases t <;> decide
/-- the own classes among each other, and beside the built-in ones -/
def isiB (K : PySem.W.Frag) (cls : List Str) (ks : List Nat) : Bool := ks.all fun k => match cls[k]? with
  | none => false
  | some x => insB K x && (allTy.all fun t => decide (PySem.W.kitOne K (.type t.name) (.ref (He.ga K x)) = some false) && decide (PySem.W.kitOne K (.ref (He.ga K x)) (.type t.name) = some false)) && ks.all fun j => match cls[j]? with
    | none => false
    | some y => decide (PySem.W.kitOne K (.ref (He.ga K y)) (.ref (He.ga K x)) = some (Nat.beq j k))
structure IsiAt (K : PySem.W.Frag) (gl : Nat → Option Addr) (ks : List Nat) (k : Nat) : Prop where
  ex : ∃ a, gl k = some a ∧ C8.InsC K a ∧ (∀ t : Ty, PySem.W.kitOne K (.type t.name) (.ref a) = some false ∧ PySem.W.kitOne K (.ref a) (.type t.name) = some false) ∧ ∀ j ∈ ks, ∀ b, gl j = some b → PySem.W.kitOne K (.ref b) (.ref a) = some (Nat.beq j k)
theorem isi_ok {K : PySem.W.Frag} {cls : List Str} {ks : List Nat} (h : isiB K cls ks = true) : ∀ k ∈ ks, IsiAt K (glOf K cls) ks k := by
  intro k hk
  have z := List.all_eq_true.mp h k hk
  cases e : cls[k]? with
  | none => rw [e] at z; cases z
  | some x =>
    rw [e] at z
    simp only [Bool.and_eq_true] at z
    obtain ⟨⟨z1, z2⟩, z3⟩ := z
    refine ⟨He.ga K x, by unfold glOf; rw [e]; rfl, insB_ok z1, fun t => ?_, fun j hj b hb => ?_⟩
    · have y := List.all_eq_true.mp z2 t (allTy_mem t)
      simp only [Bool.and_eq_true, decide_eq_true_eq] at y
      exact y
    · have y := List.all_eq_true.mp z3 j hj
      cases e2 : cls[j]? with
      | none => rw [e2] at y; cases y
      | some w =>
        rw [e2] at y
        unfold glOf at hb
        rw [e2] at hb
        cases hb
        exact of_decide_eq_true y
def dIsiG (ks : List Nat) : Fn := fun ds st => match ds with
  | [d, .ty t] => (match vw st d with
    | .ins j _ _ => if ks.contains j then .ok (.bl false) st else .bad
    | _ => (match tyD (vw st d) with
      | some u => .ok (.bl (isT u t)) st
      | none => .bad))
  | [d, .glo k] => if ks.contains k then (match vw st d with
    | .ins j _ _ => if ks.contains j then .ok (.bl (Nat.beq j k)) st else .bad
    | _ => (match tyD (vw st d) with
      | some _ => .ok (.bl false) st
      | none => .bad)) else .bad
  | _ => .bad
theorem dIsiG_ok {C : Cfg} {ks : List Nat} (T : ∀ k ∈ ks, IsiAt C.K C.gl ks k) : CallD C (dIsiG ks) (rIsi C.K) := by
  intro W σ η st ds vs H Q k rs p
  unfold dIsiG at p
  split at p
  · rename_i d t
    obtain ⟨v, u, rfl, rd, rt⟩ := rs.two_inv
    rw [Rep] at rt
    subst rt
    split at p
    · rename_i j ns fs ev
      split at p
      · rename_i hj
        obtain ⟨a, c, dx, ff, rfl, ea, g, _, _⟩ := vw_ins k rd ev
        obtain ⟨a2, g2, ic, hk, _⟩ := (T j (by simpa using hj)).ex
        rw [g] at g2
        cases g2
        exact ⟨.ref a, _, _, _, _, rfl, .ty _, .base (TyOf.ins ea ic.cl ic.ha ic.hn ic.htk ic.hm), (hk t).2, p.ret k (by rw [Rep])⟩
      · exact p.elim
    · split at p
      · rename_i w h
        exact ⟨v, _, _, _, _, rfl, .ty _, tyD_ok k rd h, isT_ok C.K w t, p.ret k (by rw [Rep])⟩
      · exact p.elim
  · rename_i d k2
    split at p
    · rename_i hk2
      obtain ⟨v, u, rfl, rd, rt⟩ := rs.two_inv
      rw [Rep] at rt
      obtain ⟨a0, g0, rfl⟩ := rt
      obtain ⟨a3, g3, ic3, hk3, hj3⟩ := (T k2 (by simpa using hk2)).ex
      rw [g0] at g3
      cases g3
      split at p
      · rename_i j ns fs ev
        split at p
        · rename_i hj
          obtain ⟨a, c, dx, ff, rfl, ea, g, _, _⟩ := vw_ins k rd ev
          obtain ⟨a2, g2, ic, hk, _⟩ := (T j (by simpa using hj)).ex
          rw [g] at g2
          cases g2
          exact ⟨.ref a, _, _, _, _, rfl, .own _, .base (TyOf.ins ea ic.cl ic.ha ic.hn ic.htk ic.hm), hj3 j (by simpa using hj) _ g, p.ret k (by rw [Rep])⟩
        · exact p.elim
      · split at p
        · rename_i w h
          exact ⟨v, _, _, _, _, rfl, .own _, tyD_ok k rd h, (hk3 w).1, p.ret k (by rw [Rep])⟩
        · exact p.elim
    · exact p.elim
  · exact p.elim
theorem SE.gloN {X : Cx} {C : Cfg} {x : Str} {k : Nat} {a : Addr} {pos : Pos} (hgl : C.gl k = some a) (hm : X.mg x = some (.ref a)) (hg : Gl X x) (hd : (x == ("__debug__" : Str)) = false := by decide) : SE X C (.Name x pos) (cC (.glo k)) :=
  SE.glob (v := .ref a) hg hm rfl (fun η H => by rw [Rep]; exact ⟨a, hgl, rfl⟩) hd
end G

set_option Elab.async false
set_option linter.all false
set_option maxRecDepth 100000
set_option maxHeartbeats 4000000
/-! Comprehensions over dicts: the dict is locked meanwhile. -/
namespace G
open PySem PySem.Spec PyProof.Rows L2
open LamX NdefX
/-! ### locked or not, the same values -/
section
variable {C : Cfg} {η : List Addr} {H H2 : Hp} {a : Addr} {kvs : List (Key × V)}
/-- alike but at a, where the same dict stands, locked or not -/
structure LkS (H H2 : Hp) (a : Addr) (kvs : List (Key × V)) : Prop where
  l : Rd H a (.dK kvs)
  r : Rd H2 a (.dK kvs)
  o : ∀ b, b ≠ a → H2 b = H b
theorem LkS.rd {u : HO} (s : LkS H H2 a kvs) {b : Addr} (nu : ∀ o z, u ≠ .frz o z) (h : Rd H b u) : Rd H2 b u := by
  by_cases e : b = a
  · subst e
    have eu : u = .dK kvs := by
      rcases s.l with q1 | ⟨o1, q1⟩ <;> rcases h with q2 | ⟨o2, q2⟩ <;> rw [q1] at q2 <;> cases q2 <;> first | rfl | exact absurd rfl (nu _ _)
    rw [eu]
    exact s.r
  · rcases h with q | ⟨o, q⟩
    · exact .inl (by rw [s.o b e]; exact q)
    · exact .inr ⟨o, by rw [s.o b e]; exact q⟩
theorem LkS.ob {u : HO} (s : LkS H H2 a kvs) {b : Addr} (n1 : u ≠ .dK kvs) (n2 : ∀ o, u ≠ .frz o (.dK kvs)) (h : H b = some u) : H2 b = some u := by
  by_cases e : b = a
  · subst e
    rcases s.l with q | ⟨o, q⟩
    · rw [q] at h
      exact absurd (Option.some.inj h).symm n1
    · rw [q] at h
      exact absurd (Option.some.inj h).symm (n2 o)
  · rw [s.o b e]
    exact h
mutual
theorem Rep.lk (s : LkS H H2 a kvs) : ∀ {d : D} {v : V}, Rep C η H d v → Rep C η H2 d v
  | .non, _, h => h
  | .bl _, _, h => h
  | .int _, _, h => h
  | .str _, _, h => h
  | .ty _, _, h => h
  | .glo _, _, h => h
  | .ref _, _, h => h
  | .tup ds, _, h => by
    rw [Rep] at h ⊢
    obtain ⟨b, vs, e, t, r⟩ := h
    exact ⟨b, vs, e, t.imp (fun z => ⟨z.1, z.2.1, s.rd (fun _ _ y => by cases y) z.2.2⟩) id, RepL.lk s r⟩
  | .lst ds, _, h => by
    rw [Rep] at h ⊢
    obtain ⟨b, vs, e, t, r⟩ := h
    exact ⟨b, vs, e, t.imp (fun z => ⟨z.1, z.2.1, s.rd (fun _ _ y => by cases y) z.2.2⟩) id, RepL.lk s r⟩
  | .clo _ ds, _, h => by
    rw [Rep] at h ⊢
    obtain ⟨b, t, ws, e, q, ⟨c, n1, n2, n3, n4, e1, e2⟩, z⟩ := h
    exact ⟨b, t, ws, e, q, ⟨c, n1, n2, n3, n4, s.ob (fun y => by unfold LamO at y; cases y) (fun _ y => by unfold LamO at y; cases y) e1, s.ob (fun y => by unfold LamX.CodeO at y; cases y) (fun _ y => by unfold LamX.CodeO at y; cases y) e2⟩, RepL.lk s z⟩
  | .dic _ ds, _, h => by
    rw [Rep] at h ⊢
    obtain ⟨b, kv, e, ⟨n1, n2, q⟩, e2, r⟩ := h
    exact ⟨b, kv, e, ⟨n1, n2, s.rd (fun _ _ y => by cases y) q⟩, e2, RepL.lk s r⟩
  | .ins _ _ ds, _, h => by
    rw [Rep] at h ⊢
    obtain ⟨b, c, dx, fs, e, ⟨n1, n2, q⟩, g, e2, r⟩ := h
    exact ⟨b, c, dx, fs, e, ⟨n1, n2, s.ob (fun y => by cases y) (fun _ y => by cases y) q⟩, g, e2, RepL.lk s r⟩
theorem RepL.lk (s : LkS H H2 a kvs) : ∀ {ds : List D} {vs : List V}, RepL C η H ds vs → RepL C η H2 ds vs
  | [], _, h => h
  | d :: ds, _, h => by
    rw [RepL] at h ⊢
    obtain ⟨v, r, e, h1, h2⟩ := h
    exact ⟨v, r, e, Rep.lk s h1, RepL.lk s h2⟩
end
theorem StOk.lk {st : Sto} (s : LkS H H2 a kvs) (na : a ∉ η) (nh : a ∉ C.hot) (k : StOk C η st H) : StOk C η st H2 := by
  have ne : ∀ {b : Addr}, b ∈ η → b ≠ a := fun m z => na (z ▸ m)
  refine ⟨k.len, k.nd, fun n b o h1 h2 => ?_, fun b hb => ⟨(k.hot b hb).1, ?_⟩, fun q hq => ?_⟩
  · have nb := ne (List.mem_of_getElem? h1)
    have z := k.ok n b o h1 h2
    cases o with
    | lst ds => obtain ⟨vs, q, r⟩ := z; exact ⟨vs, by rw [s.o b nb]; exact q, r.lk s⟩
    | dic ks ds => obtain ⟨kv, q, n, r⟩ := z; exact ⟨kv, by rw [s.o b nb]; exact q, n, r.lk s⟩
    | ins k ns ds => obtain ⟨c, dx, fs, q, g, n, r⟩ := z; exact ⟨c, dx, fs, by rw [s.o b nb]; exact q, g, n, r.lk s⟩
  · obtain ⟨o, e, m⟩ := (k.hot b hb).2
    exact ⟨o, by rw [s.o b (fun z => nh (z ▸ hb))]; exact e, m⟩
  · obtain ⟨ps, e, z1, z2⟩ := k.tab q hq
    exact ⟨ps, s.ob (fun y => by cases y) (fun _ y => by cases y) e, z1, fun pos cv h => (z2 pos cv h).imp fun c y => ⟨y.1, s.ob (fun w => by unfold LamX.CodeO at w; cases w) (fun _ w => by unfold LamX.CodeO at w; cases w) y.2⟩⟩
theorem EnvOk.lk {ρ : Env} {σ : L2.St} (s : LkS H H2 a kvs) (e : EnvOk C η H ρ σ) : EnvOk C η H2 ρ σ := ⟨e.len, fun i d h => by
  obtain ⟨v, e1, r⟩ := e.ok i d h
  exact ⟨v, e1, r.lk s⟩⟩
theorem Step.unlk {η' : List Addr} {H' : Hp} {od : Obj} (na : a ∉ η) (e : H a = some (.dK kvs)) (s : Step η (upd H a (.frz od (.dK kvs))) η' H') : H' a = some (.frz od (.dK kvs)) ∧ Step η H η' (upd H' a (.dK kvs)) := by
  have e2 : H' a = some (.frz od (.dK kvs)) := s.keep a _ upd_same na fun ps z => by cases z
  refine ⟨e2, ?_, fun b o h n q => ?_, fun b h => ?_⟩
  · obtain ⟨t, e3, ht⟩ := s.ext
    refine ⟨t, e3, fun p hp => ?_⟩
    have z := ht p hp
    have np : p ≠ a := fun y => by rw [y, upd_same] at z; cases z
    rwa [upd_ne np] at z
  · by_cases hb : b = a
    · rw [hb, e] at h
      cases h
      rw [hb, upd_same]
    · rw [upd_ne hb]
      exact s.keep b o (by rw [upd_ne hb]; exact h) n q
  · by_cases hb : b = a
    · rw [hb, upd_same] at h
      cases h
    · rw [upd_ne hb] at h
      have z := s.dom b h
      rwa [upd_ne hb] at z
/-! ### paths: names, their attributes -/
/-- an expression that is a path, its value told ahead -/
structure PathP (X : Cx) (C : Cfg) (e : Expr) (pd : Env → Sto → Option D) : Prop where
  ex : ∃ tp : TE, PE X e tp ∧ ∀ (η : List Addr) (ρ : Env) (st : Sto) (σ : L2.St) (H : Hp) (dv : D), StOk C η st H → EnvOk C η H ρ σ → pd ρ st = some dv →
    ∃ v, Rep C η H dv v ∧ ∀ H2 : Hp, (∀ b u, H b = some u → (∀ kvs, u ≠ .dK kvs) → H2 b = some u) → ∀ Q : VK, Q v H2 → tp σ H2 Q
def pVar (i : Nat) : Env → Sto → Option D := fun ρ _ => match ρ[i]? with
  | some (some d) => some d
  | _ => none
def pFld (ks : List Nat) (f : Str) (pd : Env → Sto → Option D) : Env → Sto → Option D := fun ρ st => match pd ρ st with
  | some o => (match vw st o with
    | .ins k ns ds => if ks.contains k then lookF f ns ds else none
    | _ => none)
  | none => none
section
variable {X : Cx} {e : Expr} {pd : Env → Sto → Option D} {pos : Pos}
theorem PathP.var {i : Nat} {x : Str} (hN : X.N[i]? = some x) (hv : Vis X.env.scope x) (hd : (x == ("__debug__" : Str)) = false := by decide) (hcd : (x == ("__classdict__" : Str)) = false := by decide) : PathP X C (.Name x pos) (pVar i) :=
  ⟨_, pe_var hN hv hd hcd, fun η ρ st σ H dv k en h => by
    unfold pVar at h
    split at h
    · rename_i d e
      cases h
      obtain ⟨v, e1, r⟩ := en.ok i _ e
      exact ⟨v, r, fun H2 _ Q q => ⟨v, e1, q⟩⟩
    · cases h⟩
theorem PathP.fld {ks : List Nat} {f : Str} (hK : X.K = C.K) (hks : FldOk X.K C ks f) (h : PathP X C e pd) (hb : attributeBase e f X.env (eval e X.env) = eval e X.env := by rfl) : PathP X C (.Attribute e f pos) (pFld ks f pd) := by
  obtain ⟨tp, pe, ok⟩ := h.ex
  refine ⟨_, pe_fld pe hb, fun η ρ st σ H dv k en h => ?_⟩
  unfold pFld at h
  split at h
  · rename_i o eo
    obtain ⟨v, r, run⟩ := ok η ρ st σ H o k en eo
    split at h
    · rename_i j ns ds ev
      obtain ⟨a, c, dx, fs, rfl, ea, g, e1, rs⟩ := vw_ins k r ev
      split at h
      · rename_i hk
        obtain ⟨a2, g2, cl, na⟩ := hks j (by simpa using hk)
        rw [g] at g2
        cases g2
        obtain ⟨w, e2, rw2⟩ := lookF_rep e1 rs h
        exact ⟨w, rw2, fun H2 hh Q q => run H2 hh _ ⟨a, c, dx, fs, w, rfl, hh a _ ea (fun _ z => by cases z), cl, na, e2, q⟩⟩
      · cases h
    · cases h
  · cases h
end
end
end G

set_option Elab.async false
set_option linter.all false
set_option maxRecDepth 100000
set_option maxHeartbeats 4000000
/-! .. the comprehensions themselves. -/
namespace G
open PySem PySem.Spec PyProof.Rows L2
open LamX NdefX
def keyD : Key → D
  | .inl i => .int i
  | .inr s => .str s.cps.toList
theorem keyD_rep {C : Cfg} {η : List Addr} {H : Hp} (k : Key) : Rep C η H (keyD k) (kV k) := by
  cases k with
  | inl i =>
    show Rep C η H (.int i) (.int i)
    rw [Rep]
  | inr s =>
    show Rep C η H (.str s.cps.toList) (.str s)
    rw [Rep]
inductive DK where
  | keys | vals | items
def dPairs : List Key → List D → List D
  | k :: ks, d :: ds => .tup [keyD k, d] :: dPairs ks ds
  | _, _ => []
def dItems (kd : DK) (ks : List Key) (ds : List D) : List D := match kd with
  | .keys => ks.map keyD
  | .vals => ds
  | .items => dPairs ks ds
def dIt : DK → Addr → Obj → List (Key × V) → It
  | .keys => Itk
  | .vals => Itd
  | .items => Iti
theorem items_get : ∀ {ks : List Key} {ds : List D} {i : Nat} {x : D}, (dPairs ks ds)[i]? = some x → ∃ k d, ks[i]? = some k ∧ ds[i]? = some d ∧ x = .tup [keyD k, d]
  | [], _, _, _, h => by simp [dPairs] at h
  | _ :: _, [], _, _, h => by simp [dPairs] at h
  | k :: ks, d :: ds, 0, x, h => by
    simp only [dPairs, List.getElem?_cons_zero, Option.some.injEq] at h
    exact ⟨k, d, rfl, rfl, h.symm⟩
  | k :: ks, d :: ds, i + 1, x, h => by
    simp only [dPairs, List.getElem?_cons_succ] at h
    obtain ⟨k2, d2, h1, h2, h3⟩ := items_get h
    exact ⟨k2, d2, by simpa using h1, by simpa using h2, h3⟩
theorem items_len : ∀ {ks : List Key} {ds : List D}, ks.length = ds.length → (dPairs ks ds).length = ks.length
  | [], _, _ => rfl
  | _ :: _, [], h => by cases h
  | k :: ks, d :: ds, h => by
    simp only [dPairs, List.length_cons]
    rw [items_len (by simpa using h)]
theorem dItems_len {kd : DK} {ks : List Key} {ds : List D} (h : ks.length = ds.length) : (dItems kd ks ds).length = ks.length := by
  cases kd with
  | keys => simp [dItems]
  | vals => exact h.symm
  | items => exact items_len h
section
variable {C : Cfg} {η : List Addr} {H : Hp} {a : Addr} {o : Obj} {kvs : List (Key × V)} {ks : List Key} {ds : List D}
theorem items_dict (kd : DK) (hk : kvs.map (·.1) = ks) (r : RepL C η H ds (kvs.map (·.2))) (e : H a = some (.frz o (.dK kvs))) (na : a ∉ η) : ItemsOk C η H (dItems kd ks ds) (dIt kd a o kvs) := by
  intro C' η1 H1 st1 i l s k
  have e1 : H1 a = some (.frz o (.dK kvs)) := s.keep a _ e na fun ps z => by cases z
  have r1 := (r.conv l).mono s
  have l1 : ks.length = kvs.length := by rw [← hk, List.length_map]
  have l2 : ds.length = kvs.length := by rw [r.length, List.length_map]
  have hl := dItems_len (kd := kd) (l1.trans l2.symm)
  refine ⟨fun x hx => ?_, fun hi => ?_⟩
  · have hi : i < kvs.length := by
      have z := (List.getElem?_eq_some_iff.mp hx).1
      rw [hl, l1] at z
      exact z
    have hkv : kvs[i]? = some kvs[i] := List.getElem?_eq_getElem hi
    have hki : ks[i]? = some kvs[i].1 := by rw [← hk, List.getElem?_map, hkv]; rfl
    have hvi : (kvs.map (·.2))[i]? = some kvs[i].2 := by rw [List.getElem?_map, hkv]; rfl
    refine ⟨by cases kd <;> exact ⟨e1, hi⟩, fun v H2 y => ?_⟩
    cases kd with
    | keys =>
      obtain ⟨rfl, k2, v2, h1, rfl⟩ := y
      rw [hkv] at h1
      have ek := congrArg Prod.fst (Option.some.inj h1)
      have hx : (ks.map keyD)[i]? = some x := hx
      rw [List.getElem?_map, hki] at hx
      cases hx
      refine ⟨Step.refl, k, ?_⟩
      rw [show k2 = kvs[i].1 from ek.symm]
      exact keyD_rep _
    | vals =>
      obtain ⟨rfl, k2, h1⟩ := y
      rw [hkv] at h1
      have ev := congrArg Prod.snd (Option.some.inj h1)
      obtain ⟨w, h2, rw2⟩ := r1.get (show ds[i]? = some x from hx)
      rw [hvi] at h2
      cases h2
      exact ⟨Step.refl, k, (show kvs[i].2 = v from ev) ▸ rw2⟩
    | items =>
      obtain ⟨T, k2, v2, h1, rfl, hT, rfl⟩ := y
      rw [hkv] at h1
      have ek := congrArg Prod.fst (Option.some.inj h1)
      have ev := congrArg Prod.snd (Option.some.inj h1)
      obtain ⟨k3, d3, h3, h4, rfl⟩ := items_get (show (dPairs ks ds)[i]? = some x from hx)
      rw [hki] at h3
      cases h3
      obtain ⟨w, h5, rw5⟩ := r1.get h4
      rw [hvi] at h5
      cases h5
      have ek : kvs[i].1 = k2 := ek
      have ev : kvs[i].2 = v2 := ev
      subst ek ev
      exact pair_new k hT (keyD_rep _) rw5
  · rw [hl, l1] at hi
    cases kd <;> exact ⟨e1, hi⟩
end
theorem lcD_noexc {g : EvG} {t : EvT} {f : Ev} {ρ : Env} : ∀ {xs acc : List D} {st : Sto} {x : Exc} {st2 : Sto}, lcD g t f ρ xs acc st ≠ .exc x st2
  | [], _, _, _, _, h => by cases h
  | y :: ys, acc, st, x, st2, h => by
    unfold lcD at h
    split at h
    · cases h
    · split at h
      · split at h
        · split at h
          · exact lcD_noexc h
          · cases h
        · cases h
      · exact lcD_noexc h
      · cases h
/-- [.. for .. in d, d.values(), d.items()] -/
def cLcP (kd : DK) (pd : Env → Sto → Option D) (g : EvG) (t : EvT) (f : Ev) (vs : List Nat) : Ev := fun ρ st => match pd ρ st with
  | some (.dic ks ds) => (lcD g t f (wipeD ρ vs) (dItems kd ks ds) [] st).bind fun ds2 st2 => .ok (.lst ds2) st2
  | _ => .bad
/-- how such a dict is walked -/
structure DWalk (X : Cx) (tg e iter : Expr) (kd : DK) : Prop where
  pi : ∀ tp : TE, PE X e tp → PI X tg iter (fun σ H R => tp σ H fun x H1 => ∃ d o kvs, x = .ref d ∧ H1 d = some (.frz o (.dK kvs)) ∧ R (dIt kd d o kvs) H1)
section
variable {X : Cx} {C : Cfg} {e tg iter elt : Expr} {ifs : List Expr} {f : Ev} {ft : EvT} {gt : EvG} {pd : Env → Sto → Option D} {pos apos cpos : Pos} {scope : Scope} {own : List (Str × Nat)} {o1 : List Nat} {kd : DK}
theorem DWalk.vals (hbase : attributeBase e (Str.ofString "values") X.env (eval e X.env) = eval e X.env := by rfl) (hline : (apos.endLine == cpos.line) = true := by rfl) : DWalk X tg e (.Call (.Attribute e (Str.ofString "values") apos) [] [] cpos) .vals := ⟨fun tp h => pi_values h hbase hline⟩
theorem DWalk.items {elts : List Expr} {kk : Nat} {tpos : Pos} (hbase : attributeBase e (Str.ofString "items") X.env (eval e X.env) = eval e X.env := by rfl) (hline : (apos.endLine == cpos.line) = true := by rfl) : DWalk X (.Tuple elts kk tpos) e (.Call (.Attribute e (Str.ofString "items") apos) [] [] cpos) .items := ⟨fun tp h => pi_items h hbase hline⟩
theorem DWalk.keysM (hbase : attributeBase e (Str.ofString "keys") X.env (eval e X.env) = eval e X.env := by rfl) (hline : (apos.endLine == cpos.line) = true := by rfl) : DWalk X tg e (.Call (.Attribute e (Str.ofString "keys") apos) [] [] cpos) .keys := ⟨fun tp h => pi_keysM h hbase hline⟩
theorem DWalk.keys : DWalk X tg e e .keys := ⟨fun tp h => by
  have h2 : PE X e (fun σ H K => ∃ R0 : VK, tp σ H R0 ∧ ∀ x H1, R0 x H1 → K x H1) := ⟨fun pins s σ H K I ⟨R0, q, i⟩ => thn (h.run pins s σ H _ I q) fun u s1 ⟨x, H1, I1, rx, z⟩ => ⟨x, H1, I1, rx, i x H1 z⟩⟩
  exact PI_imp (pi_keys h2) fun σ H R q => ⟨_, q, fun x H1 ⟨d, o, kvs, e1, e2, e3⟩ => ⟨d, o, e1, .inl ⟨kvs, e2, e3⟩⟩⟩⟩
theorem SE.lcP (hc : X.calm = true) (hN : X.N.Nodup) (hp : PathP X C e pd) (hw : DWalk X tg e iter kd) (ok : BlkOk X.N X.env.scope scope own) (ho : ∀ i ∈ o1, i ∈ own.map (·.2))
    (hg : ∀ s H A cl fp hot, SG (BX X scope s H A cl fp) ⟨C.K, C.gl, hot, C.lam, C.tabs⟩ tg gt o1) (ht : ∀ s H A cl fp hot, STs (BX X scope s H A cl fp) ⟨C.K, C.gl, hot, C.lam, C.tabs⟩ ifs ft) (he : ∀ s H A cl fp hot, SE (BX X scope s H A cl fp) ⟨C.K, C.gl, hot, C.lam, C.tabs⟩ elt f)
    (hs : ∀ x, foldedSetIterable iter X.env x = pure x := by intro _; rfl) : SE X C (.ListComp elt [⟨tg, iter, ifs, 0⟩] scope pos) (cLcP kd pd gt ft f (own.map (·.2))) := ⟨fun W tk => ⟨fun pins s σ H Q I ⟨η, ρ, st, k, en, p⟩ => by
  obtain ⟨tp, pe, look⟩ := hp.ex
  unfold cLcP at p
  split at p
  · rename_i ks ds ep
    obtain ⟨v, r, run⟩ := look η ρ st σ H _ k en ep
    rw [Rep] at r
    obtain ⟨a, kvs, rfl, ⟨na, nh, rd⟩, hks, rds⟩ := r
    have base := pe_lc (pos := pos) hc hN (hw.pi tp pe) ok (fun s H A cl fp => blk_g (hg s H A cl fp)) (fun s H A cl fp => blk_t (ht s H A cl fp)) (fun s H A cl fp => blk_e (he s H A cl fp)) hs
    rcases rd with eH | ⟨o, eH⟩
    · refine (pe_lock base).run pins s σ H Q I ⟨a, .dK kvs, eH, trivial, fun od => ?_⟩
      have lk : LkS H (upd H a (.frz od (.dK kvs))) a kvs := ⟨.inl eH, .inr ⟨od, upd_same⟩, fun b hb => upd_ne hb⟩
      refine run _ (fun b u e1 n => by rw [upd_ne (fun z => by rw [z, eH] at e1; exact n kvs (Option.some.inj e1).symm)]; exact e1) _ ⟨a, od, kvs, rfl, upd_same, fun nl hnl => ?_⟩
      refine lc_in (C := C) (W := W0) (Q := fun v H' => H' a = some (.frz od (.dK kvs)) ∧ Q v (upd H' a (.dK kvs))) (fun ds st => .ok (.lst ds) st) (fun _ _ _ _ z => z) ho fin_lst (k.lk lk na nh) ((en.lk lk).wipe _) (items_dict kd hks (rds.lk lk) upd_same na) ?_ hnl
      cases er : lcD gt ft f (wipeD ρ (own.map (·.2))) (dItems kd ks ds) [] st with
      | ok ds2 st2 =>
        rw [er] at p
        intro v η' H' s1 k1 r1
        obtain ⟨e2, s2⟩ := Step.unlk na eH s1
        have lk2 : LkS H' (upd H' a (.dK kvs)) a kvs := ⟨.inr ⟨od, e2⟩, .inl upd_same, fun b hb => upd_ne hb⟩
        have na' : a ∉ η' := s1.nin upd_same na
        exact ⟨e2, p v η' _ s2 (k1.lk lk2 na' nh) (r1.lk lk2)⟩
      | exc x st2 => exact absurd er lcD_noexc
      | bad => rw [er] at p; exact p.elim
    · refine base.run pins s σ H Q I (run H (fun _ _ e1 _ => e1) _ ⟨a, o, kvs, rfl, eH, fun nl hnl => ?_⟩)
      exact lc_in (C := C) (W := W) (fun ds st => .ok (.lst ds) st) (fun _ _ _ _ z => z) ho fin_lst k (en.wipe _) (items_dict kd hks rds eH na) p hnl
  · exact p.elim⟩⟩
end
end G

set_option Elab.async false
set_option linter.all false
set_option maxRecDepth 100000
set_option maxHeartbeats 4000000
/-! [*a, ..], sorted of texts, count and index of lists, get of dicts, str. -/
namespace G
open PySem PySem.Spec PyProof.Rows L2
open LamX NdefX
/-! ### *e -/
def cStarC (f : Ev) (fs : EvA) : EvA := fun ρ st => (f ρ st).bind fun d st1 => match items st1 d with
  | some xs => (fs ρ st1).bind fun ds st2 => .ok (xs ++ ds) st2
  | none => .bad
section
variable {X : Cx} {C : Cfg} {e : Expr} {es : List Expr} {f : Ev} {fs : EvA} {p : Pos}
theorem SA.star (hK : X.K = C.K) (he : SE X C e f) (hr : SA X C es fs) (hs : starEach (.Starred e p :: es) X.env = (true, eval e X.env) :: starEach es X.env := by rfl) : SA X C (.Starred e p :: es) (cStarC f fs) := ⟨fun W tk => ⟨fun pos pins s σ H Q I ⟨η, ρ, st, k, en, q⟩ =>
  (StX.pa_star (he.run W tk) (hr.run W tk) hs).run pos pins s σ H Q I ⟨η, ρ, st, k, en, Post.bind (R := Rep C) (r := f ρ st) q fun d st1 v η1 H1 _ s1 k1 rd p1 => by
    split at p1
    · rename_i xs e1
      obtain ⟨a, vs, rfl, sq, r⟩ := items_sq k1 rd e1
      rw [← hK] at sq
      refine ⟨a, vs, rfl, sq.symm, η1, ρ, st1, k1, en.mono s1, Post.bind (R := RepL C) (r := fs ρ st1) p1 fun ds st2 us η2 H2 _ s2 k2 rs p2 => ?_⟩
      exact p2 (vs ++ us) η2 H2 Step.refl k2 ((r.mono s2).append rs)
    · exact p1.elim⟩⟩⟩
end
/-! ### sorted -/
def insN (x : List Nat) : List (List Nat) → List (List Nat)
  | [] => [x]
  | y :: r => if ltN y x then y :: insN x r else x :: y :: r
def srtN : List (List Nat) → List (List Nat)
  | [] => []
  | x :: r => insN x (srtN r)
theorem insN_perm (x : List Nat) : ∀ l : List (List Nat), (insN x l).Perm (x :: l)
  | [] => List.Perm.refl _
  | y :: r => by
    unfold insN
    split
    · exact (List.Perm.cons y (insN_perm x r)).trans (List.Perm.swap x y r)
    · exact List.Perm.refl _
theorem srtN_perm : ∀ l : List (List Nat), (srtN l).Perm l
  | [] => List.Perm.refl _
  | x :: r => (insN_perm x _).trans (List.Perm.cons x (srtN_perm r))
theorem insN_sorted {x : List Nat} : ∀ {l : List (List Nat)}, l.Pairwise (fun a b => ¬ b < a) → (insN x l).Pairwise (fun a b => ¬ b < a)
  | [], _ => List.pairwise_singleton _ _
  | y :: r, h => by
    rw [List.pairwise_cons] at h
    unfold insN
    split
    · rename_i q
      rw [ltN_eq] at q
      have q := of_decide_eq_true q
      refine List.pairwise_cons.mpr ⟨fun z hz => ?_, insN_sorted h.2⟩
      rcases List.mem_cons.mp ((insN_perm x r).mem_iff.mp hz) with rfl | hz
      · exact List.lt_asymm q
      · exact h.1 z hz
    · rename_i q
      rw [ltN_eq] at q
      have q : ¬ y < x := fun z => q (decide_eq_true z)
      refine List.pairwise_cons.mpr ⟨fun z hz => ?_, List.pairwise_cons.mpr h⟩
      rcases List.mem_cons.mp hz with rfl | hz
      · exact q
      · exact List.le_trans (show x ≤ y from q) (show y ≤ z from h.1 z hz)
theorem srtN_sorted : ∀ l : List (List Nat), (srtN l).Pairwise (fun a b => ¬ b < a)
  | [] => List.Pairwise.nil
  | x :: r => insN_sorted (srtN_sorted r)
theorem rising_pw : ∀ {l : List Str} {p : Str}, risingS p l = true → (p.cps.toList :: l.map fun s => s.cps.toList).Pairwise (fun a b => ¬ b < a)
  | [], p, _ => List.pairwise_singleton _ _
  | x :: r, p, h => by
    unfold risingS at h
    rw [Bool.and_eq_true] at h
    have ih := rising_pw (l := r) (p := x) h.2
    have h1 : ¬ x.cps.toList < p.cps.toList := fun z => by
      have y := h.1
      rw [ltCps_eq, decide_eq_true z] at y
      cases y
    rw [List.map_cons, List.pairwise_cons]
    refine ⟨fun z hz => ?_, ih⟩
    rcases List.mem_cons.mp hz with rfl | hz
    · exact h1
    · exact List.le_trans (show p.cps.toList ≤ x.cps.toList from h1) (show x.cps.toList ≤ z from (List.pairwise_cons.mp ih).1 z hz)
theorem sorted_pw {l : List Str} (h : sortedS l = true) : (l.map fun s => s.cps.toList).Pairwise (fun a b => ¬ b < a) := by
  cases l with
  | nil => exact List.Pairwise.nil
  | cons x r => exact rising_pw h
theorem sorted_uniq {ys : List Str} {ss : List (List Nat)} (hp : ys.Perm (ss.map fun s => ⟨s.toArray⟩)) (h : sortedS ys = true) : ys = (srtN ss).map fun s => ⟨s.toArray⟩ := by
  have e : (ys.map fun s => s.cps.toList) = srtN ss := by
    refine List.Perm.eq_of_pairwise (le := fun a b => ¬ b < a) (fun a b _ _ h1 h2 => List.le_antisymm (show a ≤ b from h1) (show b ≤ a from h2)) (sorted_pw h) (srtN_sorted ss) ?_
    refine (hp.map fun s => s.cps.toList).trans ?_
    rw [List.map_map]
    have z : ((fun s : Str => s.cps.toList) ∘ fun s : List Nat => (⟨s.toArray⟩ : Str)) = id := funext fun s => by simp
    rw [z, List.map_id]
    exact (srtN_perm ss).symm
  rw [← e, List.map_map]
  have z : ((fun s : List Nat => (⟨s.toArray⟩ : Str)) ∘ fun s : Str => s.cps.toList) = id := funext fun s => by simp
  rw [z, List.map_id]
def strsD : List D → Option (List (List Nat))
  | [] => some []
  | .str s :: r => (strsD r).map (s :: ·)
  | _ :: _ => none
theorem strsD_rep {C : Cfg} {η : List Addr} {H : Hp} : ∀ {ds : List D} {vs : List V} {ss : List (List Nat)}, strsD ds = some ss → RepL C η H ds vs → vs = (ss.map fun s => (⟨s.toArray⟩ : Str)).map V.str
  | [], vs, ss, h, r => by
    cases h
    rw [RepL] at r
    exact r
  | d :: ds, vs, ss, h, r => by
    cases d <;> first | (cases h; done) | skip
    rename_i s
    unfold strsD at h
    obtain ⟨t, h1, rfl⟩ := Option.map_eq_some_iff.mp h
    rw [RepL] at r
    obtain ⟨v, us, rfl, r1, r2⟩ := r
    rw [Rep] at r1
    subst r1
    rw [strsD_rep h1 r2]
    rfl
theorem strs_repL {C : Cfg} {η : List Addr} {H : Hp} : ∀ {ss : List (List Nat)}, RepL C η H (ss.map D.str) ((ss.map fun s => (⟨s.toArray⟩ : Str)).map V.str)
  | [] => RepL.nil
  | s :: r => RepL.cons (by rw [Rep]) strs_repL
def dSortS : Fn := fun ds st => match ds with
  | [d] => (match vw st d with
    | .lst xs => (match strsD xs with
      | some ss => if Nat.blt ss.length 64 then .ok (.lst ((srtN ss).map D.str)) st else .bad
      | none => .bad)
    | _ => .bad)
  | _ => .bad
theorem dSortS_ok {C : Cfg} : CallD C dSortS (rSortedS C.K) := by
  intro W σ η st ds vs H Q k rs p
  unfold dSortS at p
  split at p
  · rename_i d
    obtain ⟨v, rfl, rd⟩ := rs.one_inv
    split at p
    · rename_i xs ev
      obtain ⟨a, us, rfl, q, r⟩ := vw_lst k rd ev
      split at p
      · rename_i ss es
        split at p
        · rename_i hl
          rw [strsD_rep es r] at q
          refine ⟨a, ss.map fun s => ⟨s.toArray⟩, rfl, q, by rw [List.length_map]; exact Nat.le_of_ble_eq_true hl, fun ys pp hp hs hn => ?_⟩
          rw [sorted_uniq hp hs]
          exact p.lst k strs_repL pp hn
        · exact p.elim
      · exact p.elim
    · exact p.elim
  · exact p.elim
/-! ### count, index -/
def rCntD (K : PySem.W.Frag) : V → List V → Hp → VK → Prop := fun x xs H Q => ∃ (a : Addr) (y : V) (d : PyData) (ds : List PyData), x = V.ref a ∧ xs = [y] ∧ Dp K H (V.ref a) (.list ds) ∧ Dp K H y d ∧
  SeqAt.shaped (.list ds) = true ∧ SeqAt.shaped d = true ∧ Q (.int (ds.countP (fun z => PyData.eqv z d) : Nat)) H
theorem mt_countD {X : Cx} (hu : X.A.units + 65 < cLine) : MtR X "list.count" (rCntD X.K) := by
  intro pins s σ H x xs v us Q I rx rxs h
  obtain ⟨a, y, d, ds, rfl, rfl, hl, hy, sl, sd, q⟩ := h
  cases rx
  cases rxs with
  | cons ry rt =>
    rename_i uy ut
    cases rt
    obtain ⟨bs, r1⟩ := Dp.reads I d y uy hy ry
    have lay : PyData.canLayAll0 ds = true := SeqAt.canLay_of_shaped sl
    have room : X.A.units + 1 + min (PyData.depthAll ds) d.depth < cLine := room_in_shaped sd hu
    cases hl with
    | lst hs ha =>
      obtain ⟨its, rv, ⟨⟨cls, dd, data, sls⟩, n, ho, hc, hdn, hdt⟩, hlen⟩ := I.list hs
      simp only at hc hdt
      subst hc hdt
      obtain ⟨as, r2⟩ := Dp.readsAll I ds _ its ha rv
      have emap : its.map (SeqAt.readOf s.heap) = ds := SeqAt.readsAll_map ds its as lay r2
      have ec : its.toArray.toList.countP (fun u => PyData.eqv (SeqAt.readOf s.heap u) d) = ds.countP (fun z => PyData.eqv z d) := by
        rw [← emap, List.countP_map]
        rfl
      refine call_meets PySem.F.slot_list_count ⟨_, ho, rfl⟩ PySem.F.entry_list_count (PySem.F.args_list_count_2 _ _) (SeqAt.list_countAt a its.toArray n dd sls uy fun u => PyData.eqv (SeqAt.readOf s.heap u) d) ⟨ho, SeqAt.items_eqAt (vs := its.toArray) (show ReadsAll s.heap its.toArray.toList ds as from r2) r1 lay (SeqAt.canLay_of_shaped sd) room, ?_⟩
      refine ⟨.int (ds.countP (fun z => PyData.eqv z d) : Nat), H, I.tok _, ⟨s.toks, ?_⟩, q⟩
      show Value.int ((its.toArray.toList.countP (fun u => PyData.eqv (SeqAt.readOf s.heap u) d) : Nat) : Int) s.toks = _
      rw [ec]
def dCnt (o x : D) (st : Sto) : Res D := match vw st o with
  | .lst xs => if dat 30 (.lst xs) && dat 29 (vw st x) then .ok (.int ((xs.countP fun y => dEq y (vw st x)) : Nat)) st else .bad
  | _ => .bad
def firstD (p : D → Bool) : List D → Nat → Option Nat
  | [], _ => none
  | x :: r, i => if p x then some i else firstD p r (i + 1)
def dIdx (o x : D) (st : Sto) : Res D := match vw st o with
  | .lst xs => if dat 30 (.lst xs) && dat 29 (vw st x) then (match firstD (fun y => dEq y (vw st x)) xs 0 with
    | some j => .ok (.int (j : Nat)) st
    | none => .bad) else .bad
  | _ => .bad
theorem dats_mem {n : Nat} : ∀ {xs : List D}, dats n xs = true → ∀ x ∈ xs, dat n x = true
  | y :: ys, h, x, hx => by
    rw [dats, Bool.and_eq_true] at h
    rcases List.mem_cons.mp hx with rfl | hx
    · exact h.1
    · exact dats_mem h.2 x hx
theorem pyds_map : ∀ xs : List D, pyds xs = xs.map pyd
  | [] => rfl
  | x :: xs => by rw [pyds, pyds_map xs]; rfl
theorem eqv_count {n : Nat} {z : D} (hz : dat n z = true) : ∀ {xs : List D}, dats n xs = true → (pyds xs).countP (fun y => PyData.eqv y (pyd z)) = xs.countP fun y => dEq y z
  | [], _ => rfl
  | x :: xs, h => by
    rw [dats, Bool.and_eq_true] at h
    rw [pyds, List.countP_cons, List.countP_cons, eqv_count hz h.2, eqv_pyd n x z h.1 hz]
theorem dat_up : ∀ {n m : Nat} {d : D}, n ≤ m → dat n d = true → dat m d = true := by
  have main : ∀ (n : Nat), (∀ m d, n ≤ m → dat n d = true → dat m d = true) := by
    intro n
    induction n with
    | zero =>
      intro m d _ h
      cases d <;> first | (simp [dat] at h; done) | (cases m <;> simpa [dat] using h)
    | succ n ih =>
      intro m d hm h
      obtain ⟨k, rfl⟩ : ∃ k, m = k + 1 := ⟨m - 1, by omega⟩
      have ihs : ∀ xs : List D, dats n xs = true → dats k xs = true := by
        intro xs
        induction xs with
        | nil => intro _; rfl
        | cons x xs ihx =>
          intro h
          rw [dats, Bool.and_eq_true] at h ⊢
          exact ⟨ih k x (by omega) h.1, ihx h.2⟩
      cases d <;> first | (simp [dat] at h; done) | (simpa [dat] using h) | (rw [dat] at h ⊢; exact ihs _ h)
  exact fun {n m d} hm h => main n m d hm h
/-- a built-in method of one argument, of a list -/
def CallM (C : Cfg) (dm : D → D → Sto → Res D) (r : V → List V → Hp → VK → Prop) : Prop := ∀ (W : WX) (σ : L2.St) (η : List Addr) (st : Sto) (o x : D) (v u : V) (H : Hp) (Q : VK), StOk C η st H → Rep C η H o v → Rep C η H x u → Post C W σ (Rep C) η H (dm o x st) Q → r v [u] H Q
def cBml (dm : D → D → Sto → Res D) (fo fe : Ev) : Ev := fun ρ st => (fo ρ st).bind fun o st1 => match vw st1 o with
  | .lst _ => (fe ρ st1).bind fun x st2 => dm o x st2
  | _ => .bad
section
variable {X : Cx} {C : Cfg} {o e : Expr} {fo fe : Ev} {name : Str} {apos cpos : Pos} {id : String} {r : V → List V → Hp → VK → Prop} {dm : D → D → Sto → Res D}
theorem SE.bml (slot : Slot "list" name id) (hty : typeOf (.builtin id) = pure (.type "method_descriptor")) (hm : MtR X id r) (hd : CallM C dm r) (hK : X.K = C.K) (ho : SE X C o fo) (he : SE X C e fe)
    (hbase : attributeBase o name X.env (eval o X.env) = eval o X.env := by rfl)
    (hfew : ((backTo cpos (starEach [e] X.env)).all (fun x => !x.1) && (backToKw cpos (keywordEach [] X.env)).all (fun x => x.1.isSome) && decide ([e].length + ([] : List Keyword).length + (if ([] : List Keyword).isEmpty then 0 else 1) < 30)) = true := by rfl)
    (hline : (apos.endLine == cpos.line) = true := by rfl) (hs : starEach [e] X.env = (false, eval e X.env) :: starEach [] X.env := by rfl) (hplain : (backTo cpos (starEach [] X.env)).any (·.1) = false := by rfl) :
    SE X C (.Call (.Attribute o name apos) [e] [] cpos) (cBml dm fo fe) := ⟨fun W tk => PE_imp (pe_bm PySem.F.plainAttrs_list slot hty hm (ho.run W tk) ((SA.cons he SA.nil hs).run W tk) hbase hfew hline hs hplain) fun σ H Q ⟨η, ρ, st, k, en, p⟩ =>
  ⟨η, ρ, st, k, en, Post.bind (R := Rep C) (r := fo ρ st) p fun od st1 v η1 H1 _ s1 k1 rd p1 => by
    split at p1
    · rename_i xs ev
      obtain ⟨a, vs, rfl, q, rs⟩ := vw_lst k1 rd ev
      rw [← hK] at q
      refine ⟨.inl ⟨rfl, vs, q⟩, η1, ρ, st1, k1, en.mono s1, ?_⟩
      have p1 : Post C W σ (Rep C) η1 H1 ((fe ρ st1).bind fun x st2 => dm od x st2) Q := p1
      unfold cCons cNil
      cases ee : fe ρ st1 with
      | ok x st2 =>
        rw [ee] at p1
        intro us η2 H2 s2 k2 ru
        obtain ⟨u, rfl, ru2⟩ := RepL.one_inv ru
        exact hd W σ η2 st2 od x _ u H2 Q k2 (rd.mono s2) ru2 (Post.step s2 p1)
      | exc x st2 => rw [ee] at p1; exact p1
      | bad => rw [ee] at p1; exact p1.elim
    · exact p1.elim⟩⟩
end
theorem dCnt_ok {C : Cfg} : CallM C dCnt (rCntD C.K) := by
  intro W σ η st o x v u H Q k ro rx p
  unfold dCnt at p
  split at p
  · rename_i xs ev
    split at p
    · rename_i h
      rw [Bool.and_eq_true] at h
      obtain ⟨h1, h2⟩ := h
      have h1' : dat 30 (vw st o) = true := by rw [ev]; exact h1
      have d1 := vw_dp 30 k h1' ro
      have h3 : dats 29 xs = true := by rw [dat] at h1; exact h1
      rw [ev] at d1
      obtain ⟨a, vs, rfl, _, _⟩ := vw_lst k ro ev
      have s1 := pyd_shaped h1 (by decide)
      rw [pyd] at d1 s1
      exact ⟨a, u, _, _, rfl, rfl, d1, vw_dp 29 k h2 rx, s1, pyd_shaped h2 (by decide), p.ret k (by rw [eqv_count h2 h3, Rep])⟩
    · exact p.elim
  · exact p.elim
theorem firstD_ok {p : D → Bool} : ∀ {xs : List D} {i j : Nat}, firstD p xs i = some j → ∃ k x, j = i + k ∧ xs[k]? = some x ∧ p x = true ∧ ∀ m z, m < k → xs[m]? = some z → p z = false
  | [], _, _, h => by cases h
  | x :: r, i, j, h => by
    unfold firstD at h
    split at h
    · rename_i hp
      cases h
      exact ⟨0, x, rfl, rfl, hp, fun m z hm => absurd hm (Nat.not_lt_zero m)⟩
    · rename_i hp
      obtain ⟨k, y, e, h1, h2, h3⟩ := firstD_ok h
      refine ⟨k + 1, y, by omega, by simpa using h1, h2, fun m z hm hz => ?_⟩
      cases m with
      | zero =>
        rw [List.getElem?_cons_zero] at hz
        cases hz
        simpa using hp
      | succ m => exact h3 m z (by omega) (by simpa using hz)
theorem dIdx_ok {C : Cfg} : CallM C dIdx (rIndexD C.K) := by
  intro W σ η st o x v u H Q k ro rx p
  unfold dIdx at p
  split at p
  · rename_i xs ev
    split at p
    · rename_i h
      rw [Bool.and_eq_true] at h
      obtain ⟨h1, h2⟩ := h
      split at p
      · rename_i j ej
        obtain ⟨m, y, e0, g1, g2, g3⟩ := firstD_ok ej
        rw [Nat.zero_add] at e0
        subst e0
        have h1' : dat 30 (vw st o) = true := by rw [ev]; exact h1
        have d1 := vw_dp 30 k h1' ro
        have h3 : dats 29 xs = true := by rw [dat] at h1; exact h1
        rw [ev] at d1
        obtain ⟨a, vs, rfl, _, _⟩ := vw_lst k ro ev
        have s1 := pyd_shaped h1 (by decide)
        rw [pyd] at d1 s1
        have ge : ∀ (i : Nat) (z : D), xs[i]? = some z → PyData.eqv (pyd z) (pyd (vw st x)) = dEq z (vw st x) := fun i z hz => eqv_pyd 29 z _ (dats_mem h3 z (List.mem_of_getElem? hz)) h2
        refine ⟨a, u, _, _, j, pyd y, rfl, rfl, d1, vw_dp 29 k h2 rx, s1, pyd_shaped h2 (by decide), by rw [pyds_map, List.getElem?_map, g1]; rfl, by rw [ge j y g1]; exact g2, fun i z hi hz => ?_, p.ret k (by rw [Rep])⟩
        rw [pyds_map, List.getElem?_map] at hz
        cases q : xs[i]? with
        | none => rw [q] at hz; cases hz
        | some w =>
          rw [q] at hz
          cases hz
          rw [ge i w q]
          exact g3 i w hi q
      · exact p.elim
    · exact p.elim
  · exact p.elim
/-! ### d.get(k, x) -/
def cGet2 (fo fe fd : Ev) : Ev := fun ρ st => (fo ρ st).bind fun o st1 => match vw st1 o with
  | .dic _ _ => (fe ρ st1).bind fun kd st2 => (fd ρ st2).bind fun z st3 => match vw st3 o, dKey kd with
    | .dic ks ds, some k => .ok ((getD_ k ks ds).getD z) st3
    | _, _ => .bad
  | _ => .bad
theorem SE.get2 {X : Cx} {C : Cfg} {o e f : Expr} {fo fe fd : Ev} {apos cpos : Pos} (hu : X.A.units + 1 < cLine) (ho : SE X C o fo) (he : SE X C e fe) (hf : SE X C f fd) (m : M2 X o (Str.ofString "get") apos e f cpos) : SE X C (.Call (.Attribute o (Str.ofString "get") apos) [e, f] [] cpos) (cGet2 fo fe fd) :=
  ⟨fun W tk => PE_imp (pe_dget2 hu (ho.run W tk) (he.run W tk) (hf.run W tk) m) fun σ H Q ⟨η, ρ, st, k, en, p⟩ => ⟨η, ρ, st, k, en, Post.bind (R := Rep C) (r := fo ρ st) p fun od st1 v η1 H1 _ s1 k1 rd p1 => by
    split at p1
    · rename_i ks ds ev
      obtain ⟨a, kvs, rfl, hd, _, _⟩ := vw_dic k1 rd ev
      refine ⟨a, rfl, .inl ⟨kvs, hd⟩, η1, ρ, st1, k1, en.mono s1, Post.bind (R := Rep C) (r := fe ρ st1) p1 fun kd st2 y η2 H2 _ s2 k2 rk p2 => ?_⟩
      refine ⟨η2, ρ, st2, k2, (en.mono s1).mono s2, Post.bind (R := Rep C) (r := fd ρ st2) p2 fun z st3 w η3 H3 _ s3 k3 rz p3 => ?_⟩
      split at p3
      · rename_i ks3 ds3 k0 ev3 ek
        obtain ⟨a3, kvs3, e3, hd3, rfl, rs3⟩ := vw_dic k3 (rd.mono (s2.trans s3)) ev3
        cases e3
        refine ⟨valV kvs3 k0, .inl ⟨kvs3, k0, hd3, dKey_ok ek rk, rfl⟩, ?_⟩
        have g := get_rep (k := k0) rs3
        cases eg : getD_ k0 (kvs3.map (·.1)) ds3 with
        | some d =>
          rw [eg] at g p3
          obtain ⟨w2, g1, g2⟩ := g
          rw [g1]
          exact p3 w2 η3 H3 Step.refl k3 g2
        | none =>
          rw [eg] at g p3
          rw [g]
          exact p3 w η3 H3 Step.refl k3 rz
      · exact p3.elim
    · exact p1.elim⟩⟩
/-! ### str(text), str(int) -/
def dStr : Fn := fun ds st => match ds with
  | [.str s] => .ok (.str s) st
  | _ => .bad
theorem dStr_ok {C : Cfg} : CallD C dStr (fun xs H Q => ∃ a, xs = [.str a] ∧ Q (.str a) H) := by
  intro W σ η st ds vs H Q k rs p
  unfold dStr at p
  split at p
  · rename_i s
    obtain ⟨v, rfl, rd⟩ := rs.one_inv
    rw [Rep] at rd
    subst rd
    exact ⟨_, rfl, p.ret k (by rw [Rep])⟩
  · exact p.elim
theorem _root_.L2.Room.u65 {k : Nat} {A : Around} (r : Room k A) : A.units + 65 < cLine := by have := r.un; omega
theorem _root_.L2.Room.u1 {k : Nat} {A : Around} (r : Room k A) : A.units + 1 < cLine := by have := r.un; omega
end G

set_option Elab.async false
set_option linter.all false
set_option maxRecDepth 100000
set_option maxHeartbeats 4000000
/-! enumerate of a tuple. -/
namespace PySem
theorem enum1_meets {v : Value} {o : Obj} {H : Heap → Prop} (B : Begins v o H) :
    Meets (Builtin.«enumerate.__new__» ⟨[.type "enumerate", v], []⟩) (fun _ R s => H s.heap ∧
      R (.ok (.ret (.ref (s.heap.push o).objs.size))) { s with heap := (s.heap.push o).push { cls := .type "enumerate", data := .fields #[.none, .bool false, .ref s.heap.objs.size, rawInt 0, .none, .none] } }) := by
  refine .of_wp fun prog w A R s h => ?_
  obtain ⟨hp, g, d, tk, os⟩ := s
  obtain ⟨h1, h⟩ := h
  have hsub := sub_enumerate
  have qi : ∀ {A' : Around} {E : Value → Shared → Prop} {Q : Value → Shared → Prop}, Q (.ref hp.objs.size) ⟨hp.push o, g, d, tk, os⟩ → wpAny (model prog w) A' (pyIter v) Q E ⟨hp, g, d, tk, os⟩ := fun q => B.iter prog w _ _ ⟨hp, g, d, tk, os⟩ _ h1 q
  wp_walk using qi
  refine wpAny_stack_any fun st => wpAny_pure ?_
  split
  · rename_i c _ _ _ _ _
    cases (c == Value.type "enumerate") <;> (wp_walk using qi; exact ⟨_, rfl, h⟩)
  · wp_walk using qi
    exact ⟨_, rfl, h⟩
theorem call_enum1 {prog : Program} {w : World} {A : Around} {E : Value → Shared → Prop} {s : Shared} {v : Value} {o : Obj} {H : Heap → Prop} {Q : Value → Shared → Prop} (B : Begins v o H) (h1 : H s.heap)
    (fin : ∀ h', IsEnum h' (s.heap.objs.size + 1) s.heap.objs.size 0 .none → h'.get? s.heap.objs.size = some o → (∀ b u, s.heap.get? b = some u → h'.get? b = some u) → Q (.ref (s.heap.objs.size + 1)) { s with heap := h' }) :
    wpAny (model prog w) A (call (.type "enumerate") [v]) Q E s := by
  refine callType_new F.called_enumerate (by decide) (F.typeCall_enumerate_1 _) (F.newCall_enumerate_1 _) (fun obj => F.args_object_init_2 obj _) F.entry_enumerate_new (enum1_meets B) ⟨h1, ?_⟩
  have hz : (s.heap.push o).objs.size = s.heap.objs.size + 1 := Heap.size_push ..
  show _ ∧ _
  rw [hz]
  have he : IsEnum ((s.heap.push o).push { cls := .type "enumerate", data := .fields #[.none, .bool false, .ref s.heap.objs.size, rawInt 0, .none, .none] }) (s.heap.objs.size + 1) s.heap.objs.size 0 .none := by
    have z := Heap.get?_push_size (s.heap.push o) (o := { cls := .type "enumerate", data := .fields #[.none, .bool false, .ref s.heap.objs.size, rawInt 0, .none, .none] }) rfl
    rw [hz] at z
    exact z
  exact ⟨⟨_, he, rfl⟩, fin _ he (Heap.get?_push_of_some _ (Heap.get?_push_size _ B.free)) fun b u x => Heap.get?_push_of_some _ (Heap.get?_push_of_some _ x)⟩
theorem enumT_end {prog : Program} {w : World} {A : Around} {E : Value → Shared → Prop} {s : Shared} {e it t : Addr} {i : Nat} {its : Array Value} {old : Value} {Q : Option Value → Shared → Prop} (hh : A.handled = none) (he : IsEnum s.heap e it i old) (hit : s.heap.IsTupleIter it t i) (ht : s.heap.IsTuple t its) (hx : its[i]? = none)
    (fin : ∀ h', Heap.ExtBut it s.heap h' → Q none { s with heap := h' }) : wpAny (model prog w) A (pyNext (.ref e)) Q E s := by
  have isE : s.TypeIs (.ref e) "enumerate" := ⟨_, he, rfl⟩
  unfold pyNext
  refine wpAny_bind (wpAny_attempt (wpAny_callSpecial?_slot (name := Str.ofString "__next__") isE F.slot_enumerate_next (wpAny_call_entry F.slot_enumerate_next isE F.entry_enumerate_next ?_ (F.args_enumerate_next_1 _))))
  show wpAny _ _ (field (.ref e) 2 >>= _) _ _ _
  refine wpAny_bind (wpAny_field he rfl (x := .ref it) rfl (wpAny_bind (wpAny_nextOf_tuple_end hh hit ht hx fun h' x e1 e2 => ?_)))
  obtain ⟨o1, g1, g2⟩ := e2
  exact wpAny_bind (wpAny_isInstance (T := "StopIteration") (b := true) ⟨o1, g1, g2⟩ isSubtype_stop (wpAny_pure (fin _ e1)))
end PySem
namespace G
open PySem PySem.Spec PyProof.Rows L2
/-- the tuple at a, each item in a new pair -/
def IteT (K : PySem.W.Frag) (a : Addr) : It :=
  ⟨fun i H => ∃ (xs : List V) (x : V), SqT K H a xs ∧ xs[i]? = some x, fun i H v H' => ∃ T x, v = .ref T ∧ H T = none ∧ H' = upd H T (.tup [.int (i : Nat), x]) ∧ ∀ xs, SqT K H a xs → xs[i]? = some x, fun i H => ∃ xs : List V, SqT K H a xs ∧ xs.length ≤ i⟩
theorem turn_enumT {P : Program} {w : World} {K : PySem.W.Frag} {elts : List Expr} {kk : Nat} {tpos : Pos} (a e it : Addr) (hae : a ≠ e) (hai : a ≠ it) :
    Turn P w K (.Tuple elts kk tpos) (IteT K a) [e, it] e (fun i h => (∃ old, IsEnum h e it ((i : Nat) : Int) old) ∧ h.IsTupleIter it a i ∧ e ≠ it) where
  mem := by simp
  obj := fun i h st b hb => by
    obtain ⟨⟨old, he⟩, ⟨o, ho, hc, hd⟩, _⟩ := st
    rcases (by simpa using hb : b = e ∨ b = it) with z | z
    · rw [z]
      exact ⟨_, he, fun v q => nomatch q⟩
    · rw [z]
      exact ⟨o, ho, fun v q => by rw [hd] at q; cases q⟩
  keep := fun i h h' st k => let ⟨⟨old, he⟩, hi, hne⟩ := st; ⟨⟨old, k e (by simp) _ he⟩, hi.at fun o q => k it (by simp) o q, hne⟩
  item := by
    intro X hP hw hK hc i pins s σ H E I hf st hg
    subst hP hw hK
    obtain ⟨⟨old, he⟩, hit, hne⟩ := st
    obtain ⟨xs, x, hq, hx⟩ := hg
    obtain ⟨its, rv, p, hz⟩ := I.tuple hq
    obtain ⟨u, hu, ru⟩ := rv.get hx
    have hel : e < s.heap.objs.size := Heap.lt_size he
    have hil : it < s.heap.objs.size := by obtain ⟨_, q, _⟩ := hit; exact Heap.lt_size q
    have hlt : i < its.toArray.size := by
      have z := (List.getElem?_eq_some_iff.mp hu).1
      simpa using z
    refine wpAny_pyNext_enum_itemD (Draws.tuple (A := X.A.in1) (show X.A.in1.handled = none from I.ok.hd hc) it a hai its.toArray) he ⟨hit, p⟩ hlt hne (by simp [hne, Ne.symm hae]) fun y h' tk hy ho hst hT hsz hk => ?_
    have ey : y = u := by
      rw [List.getElem?_toArray, hu] at hy
      exact (Option.some.inj hy).symm
    subst ey
    refine ⟨_, rfl, wpAny_letOwnedTupleGo_enum (s := { s with heap := h', toks := tk + 1 }) ho fun h'' he' sb => ?_⟩
    have hT2 : h''.get? s.heap.objs.size = some { cls := .type "tuple", data := .seq #[.int i tk, y] } := (sb.2 _ (Nat.ne_of_gt hel)).trans hT
    have new : ObjOk X.prog X.w (upd H s.heap.objs.size (.tup [.int (i : Nat), x])) h'' s.heap.objs.size (.tup [.int (i : Nat), x]) := ⟨by show 2 ≤ sizeLine; decide, [.int i tk, y], .cons ⟨_, rfl⟩ (.cons ru .nil), ⟨_, hT2, rfl, _, rfl⟩⟩
    have I1 : Inv X pins σ (upd H s.heap.objs.size (.tup [.int (i : Nat), x])) { s with heap := h'', toks := tk + 1 } :=
      I.turnedNew (t' := tk + 1) (ch := [e, it]) (fun b o hb q => (sb.2 b (fun z => hb (by simp [z]))).trans (hk b o (fun z => hb (by simp [z])) (fun z => hb (by simp [z])) q)) hf (Nat.le_refl _) new
    refine ⟨.ref s.heap.objs.size, _, I1, rfl, ⟨_, x, rfl, I.hok.fresh (Nat.le_refl _), rfl, fun ys hy2 => by rw [I.tuple_inj hy2 hq]; exact hx⟩, ⟨⟨y, ?_⟩, hst.1.at fun o q => (sb.2 it (Ne.symm hne)).trans q, hne⟩, fun b hb => ?_⟩
    · have e1 : ((i + 1 : Nat) : Int) = (i : Int) + 1 := by omega
      rw [e1]
      exact he'
    · have hb' : b < s.heap.objs.size := by
        rcases (by simpa using hb : b = e ∨ b = it) with z | z
        · rw [z]; exact hel
        · rw [z]; exact hil
      rw [upd_ne (Nat.ne_of_lt hb')]
      exact (hf b hb).1
  done := by
    intro X hP hw hK hc i pins s σ H E I hf st hg
    subst hP hw hK
    obtain ⟨⟨old, he⟩, hit, hne⟩ := st
    obtain ⟨xs, hq, hx⟩ := hg
    obtain ⟨its, rv, p, hz⟩ := I.tuple hq
    obtain ⟨f0, f1, f2, f3, f4, f5⟩ := hf it (by simp)
    have hl := rv.length
    exact enumT_end (I.ok.hd hc) he hit p (by simp; omega) fun h' eb => ⟨rfl, I.turned (t' := s.toks) (fun b o hb q => eb b o hb q) f0 f1 f3 f4 f5⟩
  self := fun A i s Q E st h => let ⟨⟨_, he⟩, _⟩ := st; wpAny_pyIter_enum he h
def iEnumA (K : PySem.W.Frag) (ta : TA) : TI := fun σ H R => ta σ H fun vs H1 => ∃ a, vs = [.ref a] ∧ (((∃ xs, SqL K H1 a xs) ∧ R (Ite K a) H1) ∨ ((∃ xs, SqT K H1 a xs) ∧ R (IteT K a) H1))
theorem pi_enumA {X : Cx} {e : Expr} {ta : TA} {p pos tpos : Pos} {elts : List Expr} {kk : Nat} (hg : Gl X "enumerate") (hm : X.mg "enumerate" = none) (ha : PA X [e] ta) (hs : starEach [e] X.env = [(false, eval e X.env)]) :
    PI X (.Tuple elts kk tpos) (.Call (.Name "enumerate" p) [e] [] pos) (iEnumA X.K ta) := by
  refine ⟨fun pins s σ H R I h => Call_ (ld_blt I hg hm boot_enumerate (PyProof.Rows.callWith_type1 (thn (ha.run pos pins s σ H _ I h) fun us s1 ⟨vs, H1, I1, r1, a, ex, q⟩ => ?_) hs rfl))⟩
  subst ex
  obtain ⟨u, rfl, ru⟩ := r1.one
  cases (show u = Value.ref a from ru)
  have far : ∀ b, b = s1.heap.objs.size + 1 ∨ b = s1.heap.objs.size → FpOk X pins H1 b := fun b hb => by
    have le : s1.heap.objs.size ≤ b := by
      rcases hb with z | z
      · rw [z]; exact Nat.le_succ _
      · rw [z]; exact Nat.le_refl _
    exact I1.fpOk le (I1.hok.fresh le)
  rcases q with ⟨⟨xs, hq⟩, q⟩ | ⟨⟨xs, hq⟩, q⟩
  · obtain ⟨its, rv, p', hz⟩ := I1.list hq
    refine call_enum1 (begins_list a its.toArray) p'.isList fun h' he hit hk => wpAny_pyIter_enum he ?_
    exact ⟨s1.heap.objs.size + 1, [s1.heap.objs.size + 1, s1.heap.objs.size], _, _, H1, rfl, I1.kept (t' := s1.toks) hk, turn_enum a (s1.heap.objs.size + 1) s1.heap.objs.size, ⟨⟨.none, he⟩, ⟨_, hit, rfl, rfl⟩, Nat.succ_ne_self _⟩, fun b hb => far b (by simpa using hb), q⟩
  · obtain ⟨its, rv, p', hz⟩ := I1.tuple hq
    have lt : a < s1.heap.objs.size := by
      obtain ⟨o, e1, _⟩ := p'
      exact Heap.lt_size e1
    refine call_enum1 (begins_tuple a its.toArray) p' fun h' he hit hk => wpAny_pyIter_enum he ?_
    exact ⟨s1.heap.objs.size + 1, [s1.heap.objs.size + 1, s1.heap.objs.size], _, _, H1, rfl, I1.kept (t' := s1.toks) hk, turn_enumT a (s1.heap.objs.size + 1) s1.heap.objs.size (Nat.ne_of_lt (Nat.lt_succ_of_lt lt)) (Nat.ne_of_lt lt), ⟨⟨.none, he⟩, ⟨_, hit, rfl, rfl⟩, Nat.succ_ne_self _⟩, fun b hb => far b (by simpa using hb), q⟩
def cEnumA (fs : EvA) : EvI := fun ρ st => (fs ρ st).bind fun ds st1 => match ds with
  | [.lst xs] => .ok (enumD 0 xs) st1
  | [.tup xs] => .ok (enumD 0 xs) st1
  | _ => .bad
theorem items_enumT {C : Cfg} {η : List Addr} {H : Hp} {a : Addr} {vs : List V} {xs : List D} (t : TupAt C η H a vs) (r : RepL C η H xs vs) : ItemsOk C η H (enumD 0 xs) (IteT C.K a) := by
  intro C' η1 H1 st1 i l s k
  have q : SqT C.K H1 a vs := (t.mono s).sq
  have r1 := (r.conv l).mono s
  refine ⟨fun x hx => ?_, fun hi => ⟨vs, q, by rw [← r.length, ← enumD_len xs 0]; exact hi⟩⟩
  rw [enumD_get] at hx
  cases h : xs[i]? with
  | none => rw [h] at hx; cases hx
  | some y =>
    rw [h] at hx
    cases hx
    obtain ⟨v, hv, rv⟩ := r1.get h
    refine ⟨⟨vs, v, q, hv⟩, fun w H2 z => ?_⟩
    obtain ⟨T, x', rfl, hT, rfl, f1⟩ := z
    have e1 := f1 vs q
    rw [hv] at e1
    cases e1
    refine pair_new k hT ?_ rv
    rw [Rep]
    simp
theorem SI.enumA {X : Cx} {C : Cfg} {a : Expr} {fs : EvA} {p pos : Pos} {elts : List Expr} {kk : Nat} {tpos : Pos} (hK : X.K = C.K) (hg : Gl X (Str.ofString "enumerate")) (hm : X.mg (Str.ofString "enumerate") = none) (ha : SA X C [a] fs) (hs : starEach [a] X.env = [(false, eval a X.env)] := by rfl) :
    SI X C (.Tuple elts kk tpos) (.Call (.Name (Str.ofString "enumerate") p) [a] [] pos) (cEnumA fs) :=
  ⟨fun W tk => PI_imp (pi_enumA hg hm (ha.run W tk) hs) fun σ H R ⟨η, ρ, st, k, en, p⟩ =>
    ⟨η, ρ, st, k, en, Post.bind (R := RepL C) (r := fs ρ st) p fun ds st1 vs η1 H1 hok s1 k1 rs p1 => by
      rw [hK]
      split at p1
      · rename_i xs
        obtain ⟨v, rfl, rv⟩ := rs.one_inv
        rw [Rep] at rv
        obtain ⟨a1, vs, rfl, t, r⟩ := rv
        exact ⟨a1, rfl, .inl ⟨⟨vs, t.sq⟩, p1.ret k1 (items_enum t r)⟩⟩
      · rename_i xs
        obtain ⟨v, rfl, rv⟩ := rs.one_inv
        rw [Rep] at rv
        obtain ⟨a1, vs, rfl, t, r⟩ := rv
        exact ⟨a1, rfl, .inr ⟨⟨vs, t.sq⟩, p1.ret k1 (items_enumT t r)⟩⟩
      · exact p1.elim⟩⟩
end G

set_option Elab.async false
set_option linter.all false
set_option maxRecDepth 100000
set_option maxHeartbeats 4000000
/-! tuple * int at any count, and zip of a list and a tuple. -/
namespace G
open PySem PySem.Spec PyProof.Rows L2
theorem tuple_mulSame (l : Addr) (items : Array Value) (n : Nat) (dd : Option Addr) (sl : Array (Option Value)) (x : Int) (u : Tok) (c0 : (decide (x < -(2 ^ 63)) || decide (x ≥ 2 ^ 63)) = false) (c1 : (items.isEmpty || x == 1) = true) :
    Meets (Builtin.«tuple.__mul__» ⟨[.ref l, .int x u], []⟩) (fun _ R s => s.heap.get? l = some { cls := .type "tuple", dict := dd, data := .seq items n, slots := sl } ∧
      R (.ok (.ret (Value.ref l))) s) :=
  .of_wp fun prog w A R s h => by
    obtain ⟨hp, g, d, tk, os⟩ := s
    obtain ⟨hl, h⟩ := h
    have f1 := AutoSeq1.idx_int
    wp_walk using wpAny_loadPart' hl
    repeat (first
      | (refine wpAny_ite_false (decide_eq_false (by rw [c0]; exact Bool.false_ne_true)) ?_; wp_walk using wpAny_loadPart' hl)
      | (refine wpAny_ite_true (decide_eq_true (by rw [c1])) ?_; wp_walk using wpAny_loadPart' hl))
    exact ⟨_, rfl, h⟩
theorem tuple_mulNil (l : Addr) (items : Array Value) (n : Nat) (dd : Option Addr) (sl : Array (Option Value)) (x : Int) (u : Tok) (c0 : (decide (x < -(2 ^ 63)) || decide (x ≥ 2 ^ 63)) = false) (c1 : (items.isEmpty || x == 1) = false) (c2 : (decide (x ≤ 0) || items.isEmpty) = true) :
    Meets (Builtin.«tuple.__mul__» ⟨[.ref l, .int x u], []⟩) (fun _ R s => s.heap.get? l = some { cls := .type "tuple", dict := dd, data := .seq items n, slots := sl } ∧
      R (.ok (.ret (Value.ref s.heap.objs.size))) { s with heap := s.heap.push { cls := Value.type "tuple", data := Data.seq #[] }, toks := s.toks }) :=
  .of_wp fun prog w A R s h => by
    obtain ⟨hp, g, d, tk, os⟩ := s
    obtain ⟨hl, h⟩ := h
    have f1 := AutoSeq1.idx_int
    wp_walk using wpAny_loadPart' hl
    repeat (first
      | (refine wpAny_ite_false (decide_eq_false (by rw [c0]; exact Bool.false_ne_true)) ?_; wp_walk using wpAny_loadPart' hl)
      | (refine wpAny_ite_false (decide_eq_false (by rw [c1]; exact Bool.false_ne_true)) ?_; wp_walk using wpAny_loadPart' hl)
      | (refine wpAny_ite_true (decide_eq_true (by rw [c2])) ?_; wp_walk using wpAny_loadPart' hl))
    exact ⟨_, rfl, h⟩
def rRepE (K : PySem.W.Frag) : R2 := fun x y H Q => ∃ l k xs, x = .ref l ∧ y = .int k ∧ SqT K H l xs ∧ -1000000 ≤ k ∧ k ≤ 1000000 ∧ (xs = [] ∨ k = 1) ∧ Q (.ref l) H
def rRepN (K : PySem.W.Frag) : R2 := fun x y H Q => ∃ l k xs, x = .ref l ∧ y = .int k ∧ SqT K H l xs ∧ -1000000 ≤ k ∧ k ≤ 0 ∧ xs ≠ [] ∧ ∀ p, H p = none → Q (.ref p) (upd H p (.tup []))
section
variable {X : Cx}
theorem op_repE : OpR X (binaryOp .Mult) (rRepE X.K) := by
  intro pins s σ H x y v u Q I rx ry h
  obtain ⟨l, k, xs, rfl, rfl, hT, h1, h2, hne, q⟩ := h
  cases rx
  obtain ⟨t, rfl⟩ := ry
  obtain ⟨its, r, ⟨⟨cls, dd, data, sl⟩, ho, hc, n, hd⟩, hs⟩ := I.tuple hT
  simp only at hc hd
  subst hc hd
  have hle : its.length = xs.length := r.length.symm
  have c0 : (decide (k < -(2 ^ 63)) || decide (k ≥ 2 ^ 63)) = false := by
    rw [decide_eq_false (by omega), decide_eq_false (by omega)] <;> rfl
  have c1 : (its.toArray.isEmpty || k == 1) = true := by
    rcases hne with rfl | rfl
    · cases its with
      | nil => rfl
      | cons a b => cases hle
    · simp
  exact wpAny_binaryOp_repeat_ref (T := "tuple") (U := "int") (by decide) ⟨_, ho, rfl⟩ (fun s' => typeIs_int s' k t) noFill_tuple_mul F.fills_int_mul F.slot_int_rmul repeat_tuple F.slot_int_index.lookup
    (call_meets F.slot_int_rmul (typeIs_int s k t) F.entry_int_rmul (F.args_int_rmul_2 _ _) (int_rmul_tuple k t l its.toArray n dd sl)
      ⟨ho, rfl, ⟨_, ho, rfl⟩, call_meets F.slot_tuple_mul ⟨_, ho, rfl⟩ F.entry_tuple_mul (F.args_tuple_mul_2 _ _) (tuple_mulSame l its.toArray n dd sl k t c0 c1) ⟨ho, .ref l, _, I, rfl, q⟩⟩)
theorem op_repN : OpR X (binaryOp .Mult) (rRepN X.K) := by
  intro pins s σ H x y v u Q I rx ry h
  obtain ⟨l, k, xs, rfl, rfl, hT, h1, h2, hne, q⟩ := h
  cases rx
  obtain ⟨t, rfl⟩ := ry
  obtain ⟨its, r, ⟨⟨cls, dd, data, sl⟩, ho, hc, n, hd⟩, hs⟩ := I.tuple hT
  simp only at hc hd
  subst hc hd
  have hle : its.length = xs.length := r.length.symm
  have c0 : (decide (k < -(2 ^ 63)) || decide (k ≥ 2 ^ 63)) = false := by
    rw [decide_eq_false (by omega), decide_eq_false (by omega)] <;> rfl
  have hi : its.toArray.isEmpty = false := by
    cases its with
    | nil => exact absurd (List.eq_nil_of_length_eq_zero hle.symm) hne
    | cons a b => rfl
  have c1 : (its.toArray.isEmpty || k == 1) = false := by
    rw [hi, Bool.false_or]
    exact beq_eq_false_iff_ne.mpr (by omega)
  have c2 : (decide (k ≤ 0) || its.toArray.isEmpty) = true := by
    rw [decide_eq_true h2] <;> rfl
  refine wpAny_binaryOp_repeat_ref (T := "tuple") (U := "int") (by decide) ⟨_, ho, rfl⟩ (fun s' => typeIs_int s' k t) noFill_tuple_mul F.fills_int_mul F.slot_int_rmul repeat_tuple F.slot_int_index.lookup
    (call_meets F.slot_int_rmul (typeIs_int s k t) F.entry_int_rmul (F.args_int_rmul_2 _ _) (int_rmul_tuple k t l its.toArray n dd sl)
      ⟨ho, rfl, ⟨_, ho, rfl⟩, call_meets F.slot_tuple_mul ⟨_, ho, rfl⟩ F.entry_tuple_mul (F.args_tuple_mul_2 _ _) (tuple_mulNil l its.toArray n dd sl k t c0 c1 c2) ⟨ho, ?_⟩⟩)
  refine ⟨.ref s.heap.objs.size, _, I.laid (t' := s.toks) (o := .tup []) (fun b ob q => Heap.get?_push_of_some _ q) (Nat.le_refl _) ?_, rfl, q _ (I.hok.fresh (Nat.le_refl _))⟩
  exact ⟨Nat.zero_le _, [], .nil, IsTup.new _ _⟩
abbrev rMulAll (K : PySem.W.Frag) : R2 := fun x y H Q => rI CMulW (fun i j => .int (i * j)) x y H Q ∨ rRepT K x y H Q ∨ rRepE K x y H Q ∨ rRepN K x y H Q
theorem op_mulAll : OpR X (binaryOp .Mult) (rMulAll X.K) := op_mulW.or (op_repT.or (op_repE.or op_repN))
end
def dMulA (a b : D) (st : Sto) : Res D := match vw st a, vw st b with
  | .tup xs, .int k =>
    if decide (-1000000 ≤ k) && decide (k ≤ 1000) then
      match xs with
      | [] => .ok a st
      | _ :: _ => if decide (k = 1) then .ok a st else if decide (k ≤ 0) then .ok (.tup []) st else if Nat.ble xs.length 1000 then .ok (.tup (List.replicate k.toNat xs).flatten) st else .bad
    else .bad
  | _, _ => dMul a b st
theorem dMulA_ok {C : Cfg} : OpD C dMulA (rMulAll C.K) := by
  intro W σ η st a b x y H Q k ra rb p
  unfold dMulA at p
  split at p
  · rename_i xs i e1 e2
    have ra0 := ra
    obtain ⟨a1, vs, rfl, t, r⟩ := vw_tup ra e1
    have rb := vw_int rb e2
    subst rb
    have hl := r.length
    split at p
    · rename_i hb
      simp only [Bool.and_eq_true, decide_eq_true_eq] at hb
      split at p
      · refine .inr (.inr (.inl ⟨a1, i, vs, rfl, rfl, t, hb.1, by omega, .inl (List.eq_nil_of_length_eq_zero hl.symm), ?_⟩))
        exact p.ret k ra0
      · rename_i z zs
        have hv : vs ≠ [] := fun e => by rw [e] at hl; cases hl
        split at p
        · rename_i h1
          refine .inr (.inr (.inl ⟨a1, i, vs, rfl, rfl, t, hb.1, by omega, .inr (of_decide_eq_true h1), ?_⟩))
          exact p.ret k ra0
        · rename_i h1
          have h1 : ¬ i = 1 := fun e => h1 (decide_eq_true e)
          split at p
          · rename_i h2
            refine .inr (.inr (.inr ⟨a1, i, vs, rfl, rfl, t, hb.1, of_decide_eq_true h2, hv, ?_⟩))
            exact p.tup k RepL.nil
          · rename_i h2
            have h2 : ¬ i ≤ 0 := fun e => h2 (decide_eq_true e)
            split at p
            · rename_i h3
              refine .inr (.inl ⟨a1, i, vs, rfl, rfl, t, hv, by omega, hb.2, by rw [← hl]; exact Nat.le_of_ble_eq_true h3, ?_⟩)
              exact p.tup k (r.rep i.toNat)
            · exact p.elim
    · exact p.elim
  · exact .inl (dMul_ok W σ η st a b x y H Q k ra rb p)
end G

set_option Elab.async false
set_option linter.all false
set_option maxRecDepth 100000
set_option maxHeartbeats 4000000
/-! Mirrors, run by hand: each construct by its parts' results. -/
namespace G
open PySem PySem.Spec PyProof.Rows L2
section
variable {ρ : Env} {st : Sto} {i j l : Nat} {d e a b : D} {ds : List D} {f g h : Ev} {fs : EvA} {t u : EvT} {G H : EvS} {op op2 : D → D → Sto → Res D} {un : D → Sto → Res D} {fn : Fn} {x : Exc}
theorem Res.bind_ok {α β : Type} {v : α} {k : α → Sto → Res β} : Res.bind (.ok v st) k = k v st := (rfl)
theorem Res.bind_exc {α β : Type} {k : α → Sto → Res β} : Res.bind (.exc x st) k = .exc x st := (rfl)
theorem e_var (h : ρ[i]? = some (some d)) : cVar i ρ st = .ok d st := by
  unfold cVar
  rw [h]
theorem var_some {v : D} {st : Sto} {ρ : Env} {i : Nat} (h : ρ[i]? = some (some v)) : cVar i ρ st = .ok v st := e_var h
def varR (o : Option (Option D)) (st : Sto) : Res D := match o with
  | some (some d) => .ok d st
  | _ => .bad
theorem e_vr : cVar i ρ st = varR ρ[i]? st := by
  unfold cVar varR
  cases ρ[i]? with
  | none => rfl
  | some o => cases o <;> rfl
theorem e_vrS : varR (some (some d)) st = .ok d st := (rfl)
theorem e_con : cC d ρ st = .ok d st := (rfl)
def binR (op : D → D → Sto → Res D) (r : Res D) (g : Ev) (ρ : Env) : Res D := r.bind fun a st1 => (g ρ st1).bind fun b st2 => op a b st2
def binR2 (op : D → D → Sto → Res D) (a : D) (r : Res D) : Res D := r.bind fun b st2 => op a b st2
theorem e_bin : cBin op f g ρ st = binR op (f ρ st) g ρ := (rfl)
theorem e_binR : binR op (.ok a st) g ρ = binR2 op a (g ρ st) := (rfl)
theorem e_binR2 : binR2 op a (.ok b st) = op a b st := (rfl)
def unR (op : D → Sto → Res D) (r : Res D) : Res D := r.bind fun a st1 => op a st1
theorem e_un : cUn un f ρ st = unR un (f ρ st) := (rfl)
theorem e_unR : unR un (.ok a st) = un a st := (rfl)
theorem e_B : cB f ρ st = Res.bool (f ρ st) := (rfl)
theorem e_bool {c : Bool} : Res.bool (.ok (.bl c) st) = .ok c st := (rfl)
def chR (g g' : D → D → Sto → Res D) (r : Res D) (fb fc : Ev) (ρ : Env) : Res D := r.bind fun a st1 => (fb ρ st1).bind fun b st2 => (g a b st2).bind fun d st3 => match d with
  | .bl true => (fc ρ st3).bind fun c st4 => g' b c st4
  | .bl false => .ok (.bl false) st3
  | _ => .bad
def chR2 (g g' : D → D → Sto → Res D) (a : D) (r : Res D) (fc : Ev) (ρ : Env) : Res D := r.bind fun b st2 => (g a b st2).bind fun d st3 => match d with
  | .bl true => (fc ρ st3).bind fun c st4 => g' b c st4
  | .bl false => .ok (.bl false) st3
  | _ => .bad
def chR3 (g' : D → D → Sto → Res D) (b : D) (r : Res D) (fc : Ev) (ρ : Env) : Res D := r.bind fun d st3 => match d with
  | .bl true => (fc ρ st3).bind fun c st4 => g' b c st4
  | .bl false => .ok (.bl false) st3
  | _ => .bad
theorem e_ch : cChain op op2 f g h ρ st = chR op op2 (f ρ st) g h ρ := (rfl)
theorem e_chR : chR op op2 (.ok a st) g h ρ = chR2 op op2 a (g ρ st) h ρ := (rfl)
theorem e_chR2 : chR2 op op2 a (.ok b st) h ρ = chR3 op2 b (op a b st) h ρ := (rfl)
theorem e_chR3t : chR3 op2 b (.ok (.bl true) st) h ρ = binR2 op2 b (h ρ st) := (rfl)
theorem e_chR3f : chR3 op2 b (.ok (.bl false) st) h ρ = .ok (.bl false) st := (rfl)
def truR (r : Res D) : Res Bool := r.bind fun d st1 => dTru d st1
theorem e_tru : cTru f ρ st = truR (f ρ st) := (rfl)
theorem e_truR : truR (.ok d st) = dTru d st := (rfl)
theorem e_truB {c : Bool} : dTru (.bl c) st = .ok c st := (rfl)
theorem e_truI {n : Int} : dTru (.int n) st = .ok (n != 0) st := (rfl)
theorem e_truN : dTru .non st = .ok false st := (rfl)
theorem e_truL : dTru (.lst ds) st = .ok (!ds.isEmpty) st := (rfl)
theorem e_truT : dTru (.tup ds) st = .ok (!ds.isEmpty) st := (rfl)
def notR (r : Res Bool) : Res Bool := r.bind fun b st1 => .ok (!b) st1
theorem e_not : cNot t ρ st = notR (t ρ st) := (rfl)
theorem e_notR {c : Bool} : notR (.ok c st) = .ok (!c) st := (rfl)
def andR (r : Res Bool) (u : EvT) (ρ : Env) : Res Bool := r.bind fun b st1 => match b with
  | true => u ρ st1
  | false => .ok false st1
theorem e_and : cAnd t u ρ st = andR (t ρ st) u ρ := (rfl)
theorem e_andT : andR (.ok true st) u ρ = u ρ st := (rfl)
theorem e_andF : andR (.ok false st) u ρ = .ok false st := (rfl)
def orR (r : Res Bool) (u : EvT) (ρ : Env) : Res Bool := r.bind fun b st1 => match b with
  | true => .ok true st1
  | false => u ρ st1
theorem e_or : cOr t u ρ st = orR (t ρ st) u ρ := (rfl)
theorem e_orT : orR (.ok true st) u ρ = .ok true st := (rfl)
theorem e_orF : orR (.ok false st) u ρ = u ρ st := (rfl)
def andVR (r : Res D) (g : Ev) (ρ : Env) : Res D := r.bind fun d st1 => match d with
  | .bl true => g ρ st1
  | .bl false => .ok (.bl false) st1
  | _ => .bad
theorem e_andV : cAndV f g ρ st = andVR (f ρ st) g ρ := (rfl)
theorem e_andVT : andVR (.ok (.bl true) st) g ρ = g ρ st := (rfl)
theorem e_andVF : andVR (.ok (.bl false) st) g ρ = .ok (.bl false) st := (rfl)
def orVR (r : Res D) (g : Ev) (ρ : Env) : Res D := r.bind fun d st1 => match d with
  | .bl true => .ok (.bl true) st1
  | .bl false => g ρ st1
  | _ => .bad
theorem e_orV : cOrV f g ρ st = orVR (f ρ st) g ρ := (rfl)
theorem e_orVT : orVR (.ok (.bl true) st) g ρ = .ok (.bl true) st := (rfl)
theorem e_orVF : orVR (.ok (.bl false) st) g ρ = g ρ st := (rfl)
def notVR (r : Res D) : Res D := r.bind fun d st1 => match d with
  | .bl b => .ok (.bl (!b)) st1
  | _ => .bad
theorem e_notV : cNotV f ρ st = notVR (f ρ st) := (rfl)
theorem e_notVR {c : Bool} : notVR (.ok (.bl c) st) = .ok (.bl (!c)) st := (rfl)
def ifER (r : Res Bool) (f g : Ev) (ρ : Env) : Res D := r.bind fun b st1 => match b with
  | true => f ρ st1
  | false => g ρ st1
theorem e_if : cIf t f g ρ st = ifER (t ρ st) f g ρ := (rfl)
theorem e_ifT : ifER (.ok true st) f g ρ = f ρ st := (rfl)
theorem e_ifF : ifER (.ok false st) f g ρ = g ρ st := (rfl)
def consR (r : Res D) (fs : EvA) (ρ : Env) : Res (List D) := r.bind fun d st1 => (fs ρ st1).bind fun ds st2 => .ok (d :: ds) st2
def consR2 (d : D) (r : Res (List D)) : Res (List D) := r.bind fun ds st2 => .ok (d :: ds) st2
theorem e_nil : cNil ρ st = .ok [] st := (rfl)
theorem e_cons : cCons f fs ρ st = consR (f ρ st) fs ρ := (rfl)
theorem e_consR : consR (.ok d st) fs ρ = consR2 d (fs ρ st) := (rfl)
theorem e_consR2 : consR2 d (.ok ds st) = .ok (d :: ds) st := (rfl)
def tupR (r : Res (List D)) : Res D := r.bind fun ds st1 => if big ds.length then .ok (.tup ds) st1 else .bad
theorem e_tup : cTup fs ρ st = tupR (fs ρ st) := (rfl)
theorem e_tupR (h : big ds.length = true) : tupR (.ok ds st) = .ok (.tup ds) st := if_pos h
def lstR (r : Res (List D)) : Res D := r.bind fun ds st1 => if big ds.length then .ok (.lst ds) st1 else .bad
theorem e_lst : cLst fs ρ st = lstR (fs ρ st) := (rfl)
theorem e_lstR (h : big ds.length = true) : lstR (.ok ds st) = .ok (.lst ds) st := if_pos h
def newR (r : Res (List D)) : Res D := r.bind fun ds st1 => if big ds.length then .ok (.ref st1.length) (st1 ++ [.lst ds]) else .bad
theorem e_new : cNew fs ρ st = newR (fs ρ st) := (rfl)
theorem e_newR (h : big ds.length = true) : newR (.ok ds st) = .ok (.ref st.length) (st ++ [.lst ds]) := if_pos h
def argR (g : Fn) (r : Res (List D)) : Res D := r.bind fun ds st1 => g ds st1
theorem e_args : cArgs fn fs ρ st = argR fn (fs ρ st) := (rfl)
theorem e_argR : argR fn (.ok ds st) = fn ds st := (rfl)
def callR (g : Fn) (dd : List D) (r : Res (List D)) : Res D := r.bind fun ds st1 => g (ds ++ dd) st1
theorem e_call {dd : List D} : cCall fn dd fs ρ st = callR fn dd (fs ρ st) := (rfl)
theorem e_callR {dd : List D} : callR fn dd (.ok ds st) = fn (ds ++ dd) st := (rfl)
/-! ### operators at integers -/
theorem o_add {m n : Int} : dAdd (.int m) (.int n) st = .ok (.int (m + n)) st := (rfl)
theorem o_addB {m : Int} {c : Bool} : dAdd (.int m) (.bl c) st = .ok (.int (m + b2i c)) st := (rfl)
theorem o_sub {m n : Int} : dSub (.int m) (.int n) st = .ok (.int (m - n)) st := (rfl)
theorem o_neg {m : Int} : dNeg (.int m) st = .ok (.int (-m)) st := (rfl)
theorem o_cmp {p : Int → Int → Bool} {m n : Int} : dCmp p (.int m) (.int n) st = .ok (.bl (p m n)) st := (rfl)
theorem o_lt {m n : Int} : dLt (.int m) (.int n) st = .ok (.bl (decide (m < n))) st := (rfl)
theorem o_gt {m n : Int} : dGt (.int m) (.int n) st = .ok (.bl (decide (n < m))) st := (rfl)
theorem o_ge {m n : Int} : dGe (.int m) (.int n) st = .ok (.bl (decide (n ≤ m))) st := (rfl)
theorem o_le {m n : Int} : dLe (.int m) (.int n) st = .ok (.bl (decide (m ≤ n))) st := (rfl)
theorem o_mod {m n : Int} (h : 0 < n) : dMod (.int m) (.int n) st = .ok (.int (m % n)) st := by
  unfold dMod
  simp only [h, decide_true, if_true]
theorem o_mul {m n : Int} (h : m.natAbs.log2 + n.natAbs.log2 ≤ 999998) : dMul (.int m) (.int n) st = .ok (.int (m * n)) st := by
  unfold dMul
  simp only [Nat.ble_eq_true_of_le h, if_true]
theorem o_div {m n : Int} (h : 0 < n) (h2 : n.natAbs.log2 ≤ 8999) : dFdiv (.int m) (.int n) st = .ok (.int (m / n)) st := by
  unfold dFdiv
  simp only [h, Nat.ble_eq_true_of_le h2, decide_true, Bool.and_self, if_true]
theorem o_pow {m n : Int} (h : (decide (0 ≤ n) && Nat.ble ((m.natAbs.log2 + 1) * n.toNat) 1000000) = true) : dPow (.int m) (.int n) st = .ok (.int (m ^ n.toNat)) st := by
  unfold dPow
  simp only [h, if_true]
theorem o_ix {n : Int} {xs : List D} (hv : items st a = some xs) (h : atI xs n = some d) : dIx a (.int n) st = .ok d st := by
  unfold items at hv
  unfold dIx
  cases q : vw st a <;> rw [q] at hv <;> simp only [Option.some.injEq, reduceCtorEq] at hv <;> subst hv <;> simp only [h]
theorem o_ixT {n : Int} (h : atI ds n = some d) : dIx (.tup ds) (.int n) st = .ok d st := o_ix (xs := ds) rfl h
theorem o_ixL {n : Int} (h : atI ds n = some d) : dIx (.lst ds) (.int n) st = .ok d st := o_ix (xs := ds) rfl h
theorem o_lenT : dLen [.tup ds] st = .ok (.int ds.length) st := (rfl)
theorem o_lenL : dLen [.lst ds] st = .ok (.int ds.length) st := (rfl)
theorem o_len {xs : List D} (hv : items st a = some xs) : dLen [a] st = .ok (.int xs.length) st := by
  unfold items at hv
  unfold dLen
  cases q : vw st a <;> rw [q] at hv <;> simp only [Option.some.injEq, reduceCtorEq] at hv <;> subst hv <;> simp only [q]
theorem o_abs {m : Int} : dAbs [.int m] st = .ok (.int (m.natAbs : Int)) st := by
  have e : (if m < 0 then -m else m) = (m.natAbs : Int) := by split <;> omega
  show Res.ok (D.int (if m < 0 then -m else m)) st = _
  rw [e]
theorem o_int1 {m : Int} : dInt1 [.int m] st = .ok (.int m) st := (rfl)
theorem o_intB {c : Bool} : dInt1 [.bl c] st = .ok (.int (if c then 1 else 0)) st := (rfl)
theorem o_max {m n : Int} : dMax2 [.int m, .int n] st = .ok (.int (if n > m then n else m)) st := (rfl)
theorem o_min {m n : Int} : dMin2 [.int m, .int n] st = .ok (.int (if n < m then n else m)) st := (rfl)
theorem o_eq (h1 : dat 30 (vw st a) = true) (h2 : dat 30 (vw st b) = true) : dEqV a b st = .ok (.bl (dEq (vw st a) (vw st b))) st := by
  unfold dEqV
  split
  · rename_i e1 e2
    rw [e1, e2, dEq]
  · simp only [h1, h2, Bool.and_self, if_true]
theorem o_ne (h1 : dat 30 (vw st a) = true) (h2 : dat 30 (vw st b) = true) : dNeV a b st = .ok (.bl (!dEq (vw st a) (vw st b))) st := by
  unfold dNeV
  split
  · rename_i e1 e2
    rw [e1, e2, dEq]
  · simp only [h1, h2, Bool.and_self, if_true]
theorem o_eqS {x y : List Nat} : dEqV (.str x) (.str y) st = .ok (.bl (eqNs x y)) st := (rfl)
theorem o_neS {x y : List Nat} : dNeV (.str x) (.str y) st = .ok (.bl (!eqNs x y)) st := (rfl)
theorem o_eqI {m n : Int} : dEqV (.int m) (.int n) st = .ok (.bl (m == n)) st := (rfl)
theorem o_neI {m n : Int} : dNeV (.int m) (.int n) st = .ok (.bl (!(m == n))) st := (rfl)
theorem o_isI {m : Int} {y : Ty} : dIsi [.int m, .ty y] st = .ok (.bl (isT .int y)) st := (rfl)
theorem o_isB {c : Bool} {y : Ty} : dIsi [.bl c, .ty y] st = .ok (.bl (isT .bool y)) st := (rfl)
theorem o_isT {y : Ty} : dIsi [.tup ds, .ty y] st = .ok (.bl (isT .tuple y)) st := (rfl)
theorem o_isL {y : Ty} : dIsi [.lst ds, .ty y] st = .ok (.bl (isT .list y)) st := (rfl)
theorem o_isN {y : Ty} : dIsi [.non, .ty y] st = .ok (.bl (isT .none y)) st := (rfl)
theorem o_isS {s : List Nat} {y : Ty} : dIsi [.str s, .ty y] st = .ok (.bl (isT .str y)) st := (rfl)
theorem o_tupL : dTuple [.lst ds] st = .ok (.tup ds) st := (rfl)
theorem o_tupT : dTuple [.tup ds] st = .ok (.tup ds) st := (rfl)
theorem o_rev : dRev (.lst ds) st = .ok (.lst ds.reverse) st := (rfl)
/-! ### statements -/
def RS.thn (r : RS) (h : EvS) : RS := match r with
  | .ok (.nx ρ') st' => h ρ' st'
  | r => r
theorem s_seq : sSeq G H ρ st = (G ρ st).thn H := (rfl)
theorem s_thn : (RS.ok (.nx ρ) st).thn H = H ρ st := (rfl)
theorem s_thnR : (RS.ok (.rt d) st).thn H = .ok (.rt d) st := (rfl)
theorem s_thnB : (RS.ok (.bk ρ) st).thn H = .ok (.bk ρ) st := (rfl)
theorem s_thnC : (RS.ok (.ct ρ) st).thn H = .ok (.ct ρ) st := (rfl)
theorem s_thnX : (RS.exc x ρ st).thn H = .exc x ρ st := (rfl)
theorem s_nil : sNil ρ st = .ok (.nx ρ) st := (rfl)
theorem s_brk : sBrk ρ st = .ok (.bk ρ) st := (rfl)
theorem s_cnt : sCnt ρ st = .ok (.ct ρ) st := (rfl)
def retR (ρ : Env) (r : Res D) : RS := r.into ρ fun d st1 => .ok (.rt d) st1
theorem s_ret : sRet f ρ st = retR ρ (f ρ st) := (rfl)
theorem s_retR : retR ρ (.ok d st) = .ok (.rt d) st := (rfl)
theorem s_retN : sRetN ρ st = .ok (.rt .non) st := (rfl)
def expR (ρ : Env) (r : Res D) : RS := r.into ρ fun _ st1 => .ok (.nx ρ) st1
theorem s_exp : sExp f ρ st = expR ρ (f ρ st) := (rfl)
theorem s_expR : expR ρ (.ok d st) = .ok (.nx ρ) st := (rfl)
def ifR (r : Res Bool) (g h : EvS) (ρ : Env) : RS := r.into ρ fun b st1 => match b with
  | true => g ρ st1
  | false => h ρ st1
theorem s_if : sIf t G H ρ st = ifR (t ρ st) G H ρ := (rfl)
theorem s_ifT : ifR (.ok true st) G H ρ = G ρ st := (rfl)
theorem s_ifF : ifR (.ok false st) G H ρ = H ρ st := (rfl)
def setR (i : Nat) (ρ : Env) (r : Res D) : RS := r.into ρ fun d st1 => .ok (.nx (ρ.set i (some d))) st1
theorem s_set : sSet i f ρ st = setR i ρ (f ρ st) := (rfl)
theorem s_setR : setR i ρ (.ok d st) = .ok (.nx (ρ.set i (some d))) st := (rfl)
def parR (i j : Nat) (ρ : Env) (r : Res (List D)) : RS := r.into ρ fun ds st1 => match ds with
  | [d, e] => .ok (.nx ((ρ.set i (some d)).set j (some e))) st1
  | _ => .bad
theorem s_par : sPar i j fs ρ st = parR i j ρ (fs ρ st) := (rfl)
theorem s_parR : parR i j ρ (.ok [d, e] st) = .ok (.nx ((ρ.set i (some d)).set j (some e))) st := (rfl)
def par3R (i j l : Nat) (ρ : Env) (r : Res (List D)) : RS := r.into ρ fun ds st1 => match ds with
  | [d, e, f] => .ok (.nx (((ρ.set i (some d)).set j (some e)).set l (some f))) st1
  | _ => .bad
theorem s_par3 : sPar3 i j l fs ρ st = par3R i j l ρ (fs ρ st) := (rfl)
theorem s_par3R : par3R i j l ρ (.ok [a, b, d] st) = .ok (.nx (((ρ.set i (some a)).set j (some b)).set l (some d))) st := (rfl)
def asgR (g : EvG) (ρ : Env) (r : Res D) : RS := r.into ρ fun d st1 => match g d ρ with
  | some ρ' => .ok (.nx ρ') st1
  | none => .bad
theorem s_asg {γ : EvG} : sAsg f γ ρ st = asgR γ ρ (f ρ st) := (rfl)
theorem s_asgR {γ : EvG} {ρ' : Env} (h : γ d ρ = some ρ') : asgR γ ρ (.ok d st) = .ok (.nx ρ') st := by
  show (match γ d ρ with
    | some ρ' => RS.ok (.nx ρ') st
    | none => .bad) = _
  rw [h]
def asgR2 (o : Option Env) (st : Sto) : RS := match o with
  | some ρ' => .ok (.nx ρ') st
  | none => .bad
theorem s_asgQ {γ : EvG} : asgR γ ρ (.ok d st) = asgR2 (γ d ρ) st := (rfl)
theorem s_asg2 : asgR2 (some ρ) st = .ok (.nx ρ) st := (rfl)
def subR (r : Res D) (fo fi : Ev) (ρ : Env) : RS := r.into ρ fun d st1 => (fo ρ st1).into ρ fun o st2 => (fi ρ st2).into ρ fun i st3 => match dPut o i d st3 with
  | some st4 => .ok (.nx ρ) st4
  | none => .bad
def subR2 (d : D) (r : Res D) (fi : Ev) (ρ : Env) : RS := r.into ρ fun o st2 => (fi ρ st2).into ρ fun i st3 => match dPut o i d st3 with
  | some st4 => .ok (.nx ρ) st4
  | none => .bad
def subR3 (d o : D) (r : Res D) (ρ : Env) : RS := r.into ρ fun i st3 => match dPut o i d st3 with
  | some st4 => .ok (.nx ρ) st4
  | none => .bad
def putR (r : Option Sto) (ρ : Env) : RS := match r with
  | some st4 => .ok (.nx ρ) st4
  | none => .bad
theorem s_sub : sSub f g h ρ st = subR (f ρ st) g h ρ := (rfl)
theorem s_subR : subR (.ok d st) g h ρ = subR2 d (g ρ st) h ρ := (rfl)
theorem s_subR2 : subR2 d (.ok a st) h ρ = subR3 d a (h ρ st) ρ := (rfl)
theorem s_subR3 : subR3 d a (.ok b st) ρ = putR (dPut a b d st) ρ := (rfl)
theorem s_putR {st4 : Sto} : putR (some st4) ρ = .ok (.nx ρ) st4 := (rfl)
theorem s_put {n k : Nat} {m : Int} (h : st[n]? = some (.lst ds)) (h2 : ixN ds.length m = some k) : dPut (.ref n) (.int m) d st = some (st.set n (.lst (ds.set k d))) := by
  unfold dPut
  simp only [h, h2]
theorem s_fin : RS.fin (.ok (.rt d) st) = .ok d st := (rfl)
theorem s_finN : RS.fin (.ok (.nx ρ) st) = .ok .non st := (rfl)
theorem s_finX : RS.fin (.exc x ρ st) = .exc x st := (rfl)
theorem f_fn {n : Nat} {body : EvS} : fnD n body ds st = (body (ds.map some ++ List.replicate (n - ds.length) none) st).fin := (rfl)
/-! ### loops -/
theorem i_seq {fi : EvI} : cSeqI f ρ st = (f ρ st).bind fun d st1 => match d with
  | .lst xs => .ok xs st1
  | .tup xs => .ok xs st1
  | .str z => .ok (z.map fun c => .str [c]) st1
  | _ => .bad := (rfl)
def seqR (r : Res D) : Res (List D) := r.bind fun d st1 => match d with
  | .lst xs => .ok xs st1
  | .tup xs => .ok xs st1
  | .str z => .ok (z.map fun c => .str [c]) st1
  | _ => .bad
theorem e_seqI : cSeqI f ρ st = seqR (f ρ st) := (rfl)
theorem e_seqL : seqR (.ok (.lst ds) st) = .ok ds st := (rfl)
theorem e_seqT : seqR (.ok (.tup ds) st) = .ok ds st := (rfl)
def rng1R (r : Res (List D)) : Res (List D) := r.bind fun ds st1 => match ds with
  | [.int j] => if decide (j < 4000000) && decide (-4000000 < j) then .ok (rng 0 j.toNat) st1 else .bad
  | _ => .bad
theorem e_rng1 : cRng1 fs ρ st = rng1R (fs ρ st) := (rfl)
theorem e_rng1R {n : Int} (h : (decide (n < 4000000) && decide (-4000000 < n)) = true) : rng1R (.ok [.int n] st) = .ok (rng 0 n.toNat) st := if_pos h
def rng2R (r : Res (List D)) : Res (List D) := r.bind fun ds st1 => match ds with
  | [.int i, .int j] => if decide (j < 4000000) && decide (-4000000 < j) && decide (i < 4000000) && decide (-4000000 < i) then .ok (rng i (j - i).toNat) st1 else .bad
  | _ => .bad
theorem e_rng2 : cRng2 fs ρ st = rng2R (fs ρ st) := (rfl)
theorem e_rng2R {m n : Int} (h : (decide (n < 4000000) && decide (-4000000 < n) && decide (m < 4000000) && decide (-4000000 < m)) = true) : rng2R (.ok [.int m, .int n] st) = .ok (rng m (n - m).toNat) st := if_pos h
def zipR (r : Res (List D)) : Res (List D) := r.bind fun ds st1 => match ds with
  | [.lst xs, .lst ys] => .ok (zipD xs ys) st1
  | [.tup xs, .tup ys] => .ok (zipD xs ys) st1
  | _ => .bad
theorem e_zip : cZip fs ρ st = zipR (fs ρ st) := (rfl)
theorem e_zipL {xs ys : List D} : zipR (.ok [.lst xs, .lst ys] st) = .ok (zipD xs ys) st := (rfl)
theorem e_zipT {xs ys : List D} : zipR (.ok [.tup xs, .tup ys] st) = .ok (zipD xs ys) st := (rfl)
def forR (r : Res (List D)) (g : EvG) (body : EvS) (ρ : Env) : RS := r.into ρ fun xs st1 => forD g body xs ρ st1
theorem s_for {fi : EvI} {γ : EvG} : sFor fi γ G ρ st = forR (fi ρ st) γ G ρ := (rfl)
theorem s_forR {γ : EvG} {xs : List D} : forR (.ok xs st) γ G ρ = forD γ G xs ρ st := (rfl)
theorem for_nil {γ : EvG} : forD γ G [] ρ st = .ok (.nx ρ) st := (rfl)
def forS (r : RS) (γ : EvG) (G : EvS) (xs : List D) : RS := match r with
  | .ok (.nx ρ2) st2 => forD γ G xs ρ2 st2
  | .ok (.ct ρ2) st2 => forD γ G xs ρ2 st2
  | .ok (.bk ρ2) st2 => .ok (.nx ρ2) st2
  | r => r
theorem for_cons {γ : EvG} {v : D} {xs : List D} {ρ1 : Env} (h : γ v ρ = some ρ1) : forD γ G (v :: xs) ρ st = forS (G ρ1 st) γ G xs := by
  rw [forD, h]
  rfl
theorem for_nx {γ : EvG} {xs : List D} : forS (.ok (.nx ρ) st) γ G xs = forD γ G xs ρ st := (rfl)
theorem for_ct {γ : EvG} {xs : List D} : forS (.ok (.ct ρ) st) γ G xs = forD γ G xs ρ st := (rfl)
theorem for_bk {γ : EvG} {xs : List D} : forS (.ok (.bk ρ) st) γ G xs = .ok (.nx ρ) st := (rfl)
theorem for_rt {γ : EvG} {xs : List D} : forS (.ok (.rt d) st) γ G xs = .ok (.rt d) st := (rfl)
theorem g_N : gN i d ρ = some (ρ.set i (some d)) := (rfl)
def whR (r : Res Bool) (t : EvT) (G : EvS) (n : Nat) (ρ : Env) : RS := r.into ρ fun b st1 => match b with
  | false => .ok (.nx ρ) st1
  | true => (match G ρ st1 with
    | .ok (.nx ρ2) st2 => whileD t G n ρ2 st2
    | .ok (.ct ρ2) st2 => whileD t G n ρ2 st2
    | .ok (.bk ρ2) st2 => .ok (.nx ρ2) st2
    | r => r)
def whS (r : RS) (t : EvT) (G : EvS) (n : Nat) : RS := match r with
  | .ok (.nx ρ2) st2 => whileD t G n ρ2 st2
  | .ok (.ct ρ2) st2 => whileD t G n ρ2 st2
  | .ok (.bk ρ2) st2 => .ok (.nx ρ2) st2
  | r => r
theorem w_step {n : Nat} : whileD t G (n + 1) ρ st = whR (t ρ st) t G n ρ := (rfl)
theorem w_F {n : Nat} : whR (.ok false st) t G n ρ = .ok (.nx ρ) st := (rfl)
theorem w_T {n : Nat} : whR (.ok true st) t G n ρ = whS (G ρ st) t G n := (rfl)
theorem w_nx {n : Nat} : whS (.ok (.nx ρ) st) t G n = whileD t G n ρ st := (rfl)
/-! ### comprehensions that change nothing -/
def lcR (r : Res (List D)) (g : EvG) (t : EvT) (f : Ev) (vs : List Nat) (ρ : Env) : Res D := r.bind fun xs st1 => (lcD g t f (wipeD ρ vs) xs [] st1).bind fun ds st2 => .ok (.lst ds) st2
theorem e_lc {fi : EvI} {γ : EvG} {vs : List Nat} : cLc fi γ t f vs ρ st = lcR (fi ρ st) γ t f vs ρ := (rfl)
def lcR2 (r : Res (List D)) : Res D := r.bind fun ds st2 => .ok (.lst ds) st2
theorem e_lcR {γ : EvG} {vs : List Nat} {xs : List D} : lcR (.ok xs st) γ t f vs ρ = lcR2 (lcD γ t f (wipeD ρ vs) xs [] st) := (rfl)
theorem e_lcR2 : lcR2 (.ok ds st) = .ok (.lst ds) st := (rfl)
/-- each item's value, the store as it was -/
theorem lc_map {γ : EvG} {f : Ev} {ρ : Env} {st : Sto} (F : D → D) : ∀ (xs acc : List D), (∀ x ∈ xs, ∃ ρ1, γ x ρ = some ρ1 ∧ f ρ1 st = .ok (F x) st) → acc.length + xs.length ≤ 100000 → lcD γ tYesD f ρ xs acc st = .ok (acc ++ xs.map F) st
  | [], acc, _, _ => by
    rw [lcD, List.map_nil, List.append_nil]
  | x :: xs, acc, h, hl => by
    obtain ⟨ρ1, e1, e2⟩ := h x (.head _)
    rw [List.length_cons] at hl
    have hb : big (acc.length + 1) = true := Nat.ble_eq_true_of_le (by omega)
    rw [lcD, e1]
    simp only [tYesD, e2, hb, if_true]
    rw [lc_map F xs (acc ++ [F x]) (fun y hy => h y (.tail _ hy)) (by rw [List.length_append, List.length_singleton]; omega), List.map_cons, List.append_assoc]
    rfl
/-- .. those that a test lets by -/
theorem lc_filter {γ : EvG} {t : EvT} {f : Ev} {ρ : Env} {st : Sto} (F : D → D) (p : D → Bool) : ∀ (xs acc : List D), (∀ x ∈ xs, ∃ ρ1, γ x ρ = some ρ1 ∧ t ρ1 st = .ok (p x) st ∧ (p x = true → f ρ1 st = .ok (F x) st)) → acc.length + xs.length ≤ 100000 → lcD γ t f ρ xs acc st = .ok (acc ++ (xs.filter p).map F) st
  | [], acc, _, _ => by
    rw [lcD, List.filter_nil, List.map_nil, List.append_nil]
  | x :: xs, acc, h, hl => by
    obtain ⟨ρ1, e1, e2, e3⟩ := h x (.head _)
    rw [List.length_cons] at hl
    have hb : big (acc.length + 1) = true := Nat.ble_eq_true_of_le (by omega)
    rw [lcD, e1]
    cases q : p x
    · simp only [e2, q]
      rw [lc_filter F p xs acc (fun y hy => h y (.tail _ hy)) (by omega), List.filter_cons_of_neg (by rw [q]; decide)]
    · simp only [e2, q, e3 q, hb, if_true]
      rw [lc_filter F p xs (acc ++ [F x]) (fun y hy => h y (.tail _ hy)) (by rw [List.length_append, List.length_singleton]; omega), List.filter_cons_of_pos q, List.map_cons, List.append_assoc]
      rfl
end
end G

set_option Elab.async false
set_option linter.all false
set_option maxRecDepth 100000
set_option maxHeartbeats 4000000
/-! Numbers: the pairs as rationals, their sizes; the common divisor's loop. -/
namespace G
open PySem PySem.Spec PyProof.Rows L2
theorem log_le {m k : Nat} (h : m < 2 ^ k) (hk : 0 < k) : m.log2 ≤ k - 1 := by
  by_cases z : m = 0
  · rw [z]
    simp
  · have := (Nat.log2_lt z).2 h
    omega
theorem log_le' {m k : Nat} (h : m < 2 ^ k) : m.log2 ≤ k := by
  by_cases z : k = 0
  · subst z
    have : m = 0 := by omega
    rw [this]
    decide
  · have := log_le h (by omega)
    omega
/-- a rational as the program's pair -/
def dq (q : Rat) : D := .tup [.int q.num, .int (q.den : Int)]
/-- of at most so many digits to the base 2 -/
structure Sm (k : Nat) (q : Rat) : Prop where
  num : q.num.natAbs < 2 ^ k
  den : q.den < 2 ^ k
theorem Sm.mono {k l : Nat} {q : Rat} (h : Sm k q) (hl : k ≤ l) : Sm l q :=
  ⟨Nat.lt_of_lt_of_le h.num (Nat.pow_le_pow_right (by decide) hl), Nat.lt_of_lt_of_le h.den (Nat.pow_le_pow_right (by decide) hl)⟩
theorem natAbs_div_le (a : Int) (b : Nat) : (a / (b : Int)).natAbs ≤ a.natAbs := by
  by_cases hb : b = 0
  · subst hb
    simp
  · have h1 : 0 < (b : Int) := by omega
    rcases Int.le_total 0 a with h | h
    · have e1 : 0 ≤ a / (b : Int) := Int.ediv_nonneg h (by omega)
      have e2 : a / (b : Int) ≤ a := Int.ediv_le_self _ h
      omega
    · have e1 : a ≤ a / (b : Int) := by
        rw [Int.le_ediv_iff_mul_le h1]
        have : a * (b : Int) ≤ a * 1 := Int.mul_le_mul_of_nonpos_left h (by omega)
        omega
      have e2 : a / (b : Int) ≤ 0 := Int.ediv_nonpos_of_nonpos_of_neg h h1 |> fun z => z
      omega

theorem set_self {α : Type} : ∀ {l : List α} {i : Nat} {x : α}, l[i]? = some x → l.set i x = l
  | [], i, x, h => rfl
  | a :: l, 0, x, h => by
    rw [List.getElem?_cons_zero] at h
    cases h
    rfl
  | a :: l, i + 1, x, h => by
    rw [List.getElem?_cons_succ] at h
    rw [List.set_cons_succ, set_self h]
theorem lt_of_get {α : Type} {l : List α} {i : Nat} {x : α} (h : l[i]? = some x) : i < l.length := by
  rcases Nat.lt_or_ge i l.length with q | q
  · exact q
  · rw [List.getElem?_eq_none q] at h
    cases h
theorem set_get {α : Type} {l : List α} {i : Nat} {x y : α} (h : l[i]? = some x) : (l.set i y)[i]? = some y := by
  rw [List.getElem?_set_self (lt_of_get h)]
theorem set_ne {α : Type} {l : List α} {i j : Nat} {y : α} (h : i ≠ j) : (l.set i y)[j]? = l[j]? := List.getElem?_set_ne h
abbrev gcdT (j : Nat) : EvT := cB (cBin (dCmp fun i j => decide (j < i)) (cVar j) (cC (.int 0)))
abbrev gcdB (i j : Nat) : EvS := sPar i j (cCons (cVar j) (cCons (cBin dMod (cVar i) (cVar j)) cNil))
theorem gcd_end {i j n a : Nat} {ρ : Env} {st : Sto} (hi : ρ[i]? = some (some (.int (a : Nat)))) (hj : ρ[j]? = some (some (.int ((0 : Nat) : Int)))) :
    whileD (gcdT j) (gcdB i j) (n + 1) ρ st = .ok (.nx ((ρ.set i (some (.int (a : Nat)))).set j (some (.int 0)))) st := by
  rw [w_step, (show gcdT j ρ st = Res.bool (cBin (dCmp fun i j => decide (j < i)) (cVar j) (cC (.int 0)) ρ st) from rfl), e_bin, e_var hj, e_binR, e_con, e_binR2, o_cmp, e_bool, set_self hi]
  have : decide ((0 : Int) < ((0 : Nat) : Int)) = false := by decide
  rw [this, w_F, set_self (by rw [hj]; rfl)]
theorem gcd_step {i j n a b : Nat} {ρ : Env} {st : Sto} (hb : 0 < b) (hi : ρ[i]? = some (some (.int (a : Nat)))) (hj : ρ[j]? = some (some (.int (b : Nat)))) :
    whileD (gcdT j) (gcdB i j) (n + 1) ρ st = whileD (gcdT j) (gcdB i j) n ((ρ.set i (some (.int (b : Nat)))).set j (some (.int ((a % b : Nat) : Int)))) st := by
  have h0 : (0 : Int) < (b : Int) := by omega
  rw [w_step, (show gcdT j ρ st = Res.bool (cBin (dCmp fun i j => decide (j < i)) (cVar j) (cC (.int 0)) ρ st) from rfl), e_bin, e_var hj, e_binR, e_con, e_binR2, o_cmp, e_bool, decide_eq_true h0, w_T, (show gcdB i j ρ st = parR i j ρ (cCons (cVar j) (cCons (cBin dMod (cVar i) (cVar j)) cNil) ρ st) from rfl), e_cons, e_var hj, e_consR, e_cons, e_bin, e_var hi, e_binR, e_var hj, e_binR2, o_mod h0, e_consR, e_nil, e_consR2, e_consR2, s_parR, w_nx, Int.natCast_emod]
theorem gcd_loop {i j : Nat} (hij : i ≠ j) : ∀ (k n a b : Nat) (ρ : Env) (st : Sto), ρ[i]? = some (some (.int (a : Nat))) → ρ[j]? = some (some (.int (b : Nat))) → b < 2 ^ k → 2 * k + 2 ≤ n →
    whileD (gcdT j) (gcdB i j) n ρ st = .ok (.nx ((ρ.set i (some (.int (Nat.gcd a b : Nat)))).set j (some (.int 0)))) st
  | 0, n, a, b, ρ, st, hi, hj, hb, hn => by
    obtain rfl : b = 0 := by
      have : b < 1 := hb
      omega
    obtain ⟨n, rfl⟩ : ∃ m, n = m + 1 := ⟨n - 1, by omega⟩
    rw [gcd_end hi hj, Nat.gcd_zero_right]
  | k + 1, n, a, b, ρ, st, hi, hj, hb, hn => by
    obtain ⟨n, rfl⟩ : ∃ m, n = m + 2 := ⟨n - 2, by omega⟩
    have pw : 2 ^ (k + 1) = 2 * 2 ^ k := by rw [Nat.pow_succ, Nat.mul_comm]
    rcases Nat.eq_zero_or_pos b with z | z
    · subst z
      rw [gcd_end hi hj, Nat.gcd_zero_right]
    · rw [gcd_step z hi hj]
      have hj1 : ((ρ.set i (some (.int (b : Nat)))).set j (some (D.int ((a % b : Nat) : Int))))[j]? = some (some (.int ((a % b : Nat) : Int))) := set_get (by rw [set_ne hij]; exact hj)
      have hi1 : ((ρ.set i (some (.int (b : Nat)))).set j (some (D.int ((a % b : Nat) : Int))))[i]? = some (some (.int (b : Nat))) := by
        rw [set_ne (Ne.symm hij)]
        exact set_get hi
      have hlt : a % b < b := Nat.mod_lt _ z
      have fin : ∀ (x y z w : Option D), ((((ρ.set i x).set j y).set i z).set j w) = ((ρ.set i z).set j w) := by
        intro x y z w
        rw [List.set_comm x y hij, List.set_set, List.set_comm y z (Ne.symm hij), List.set_set]
      rcases Nat.eq_zero_or_pos (a % b) with z2 | z2
      · rw [z2] at hj1 hi1 ⊢
        rw [gcd_end hi1 hj1, fin]
        rw [Nat.gcd_comm a b, Nat.gcd_rec b a, z2, Nat.gcd_zero_left]
      · rw [gcd_step z2 hi1 hj1]
        have h2 : b % (a % b) < a % b := Nat.mod_lt _ z2
        have h3 : b % (a % b) < 2 ^ k := by
          have := Nat.div_add_mod b (a % b)
          have q : 1 ≤ b / (a % b) := Nat.div_pos (Nat.le_of_lt hlt) z2
          have : a % b * 1 ≤ a % b * (b / (a % b)) := Nat.mul_le_mul_left _ q
          omega
        rw [gcd_loop hij k n _ _ _ st ?_ ?_ h3 (by omega), fin, fin]
        · rw [Nat.gcd_comm a b, Nat.gcd_rec b a, Nat.gcd_comm (a % b) b, Nat.gcd_comm b (a % b), Nat.gcd_rec (a % b) b, Nat.gcd_comm]
        · rw [set_ne (Ne.symm hij)]
          exact set_get hi1
        · exact set_get (by rw [set_ne hij]; exact hj1)
theorem divInt_nat (t : Int) {b : Nat} (h : b ≠ 0) : (Rat.divInt t b).num = t / ((t.natAbs.gcd b : Nat) : Int) ∧ (Rat.divInt t b).den = b / t.natAbs.gcd b := by
  have e : Rat.divInt t b = Rat.normalize t b h := by
    rw [Rat.normalize_eq_mkRat]
    rfl
  rw [e, Rat.normalize_eq]
  exact ⟨rfl, rfl⟩
theorem Sm.divInt {k l : Nat} {t : Int} {b : Nat} (ht : t.natAbs < 2 ^ k) (hb : b < 2 ^ l) (h0 : b ≠ 0) : (Rat.divInt t b).num.natAbs < 2 ^ k ∧ (Rat.divInt t b).den < 2 ^ l := by
  obtain ⟨e1, e2⟩ := divInt_nat t h0
  rw [e1, e2]
  exact ⟨Nat.lt_of_le_of_lt (natAbs_div_le _ _) ht, Nat.lt_of_le_of_lt (Nat.div_le_self _ _) hb⟩
theorem mul_lt {a b k l : Nat} (ha : a < 2 ^ k) (hb : b < 2 ^ l) : a * b < 2 ^ (k + l) := by
  rw [Nat.pow_add]
  exact Nat.mul_lt_mul'' ha hb
theorem Sm.divI {k l : Nat} {t : Int} {b : Int} (ht : t.natAbs < 2 ^ k) (hb : b.natAbs < 2 ^ l) (h0 : b ≠ 0) : (Rat.divInt t b).num.natAbs < 2 ^ k ∧ (Rat.divInt t b).den < 2 ^ l := by
  rcases Int.lt_or_gt_of_ne h0 with h | h
  · have e : Rat.divInt t b = Rat.divInt (-t) (b.natAbs : Int) := by
      rw [Rat.divInt_eq_divInt_iff h0 (by omega)]
      have : (b.natAbs : Int) = - b := by omega
      rw [this, Int.mul_neg, Int.neg_mul]
    rw [e]
    exact Sm.divInt (by omega) hb (by omega)
  · have e : b = (b.natAbs : Int) := by omega
    rw [e]
    exact Sm.divInt ht hb (by omega)
theorem add_eq (x y : Rat) : x + y = Rat.divInt (x.num * y.den + y.num * x.den) ((x.den : Int) * y.den) := by
  conv => lhs; rw [← Rat.num_divInt_den x, ← Rat.num_divInt_den y]
  rw [Rat.divInt_add_divInt _ _ (by have := x.den_nz; omega) (by have := y.den_nz; omega)]
theorem mul_eq (x y : Rat) : x * y = Rat.divInt (x.num * y.num) ((x.den : Int) * y.den) := by
  conv => lhs; rw [← Rat.num_divInt_den x, ← Rat.num_divInt_den y]
  rw [Rat.divInt_mul_divInt]
theorem neg_num (x : Rat) : (-x).num = -x.num ∧ (-x).den = x.den := ⟨rfl, rfl⟩
theorem div_eq (x y : Rat) (h : y ≠ 0) : x / y = Rat.divInt (x.num * y.den) ((x.den : Int) * y.num) := by
  rw [Rat.div_def, Rat.inv_def]
  conv => lhs; rw [← Rat.num_divInt_den x]
  rw [Rat.divInt_mul_divInt]
theorem sub_eq (x y : Rat) : x - y = Rat.divInt (x.num * y.den - y.num * x.den) ((x.den : Int) * y.den) := by
  rw [Rat.sub_eq_add_neg, add_eq, (neg_num y).1, (neg_num y).2, Int.neg_mul, ← Int.sub_eq_add_neg]
section
variable {x y : Rat} {a b : Nat}
theorem Sm.add (hx : Sm a x) (hy : Sm b y) : Sm (a + b + 1) (x + y) := by
  have h1 := mul_lt hx.num hy.den
  have h2 := mul_lt hy.num hx.den
  have h3 := mul_lt hx.den hy.den
  rw [Nat.add_comm b a] at h2
  have dx := x.den_nz
  have dy := y.den_nz
  have pw : 2 ^ (a + b + 1) = 2 * 2 ^ (a + b) := by rw [Nat.pow_succ, Nat.mul_comm]
  have hz : (x.den : Int) * y.den ≠ 0 := Int.mul_ne_zero (by omega) (by omega)
  have := Sm.divI (t := x.num * y.den + y.num * x.den) (b := (x.den : Int) * y.den) (k := a + b + 1) (l := a + b + 1) ?_ ?_ hz
  · rw [← add_eq] at this
    exact ⟨this.1, this.2⟩
  · have e1 : (x.num * y.den).natAbs = x.num.natAbs * y.den := by rw [Int.natAbs_mul]; rfl
    have e2 : (y.num * x.den).natAbs = y.num.natAbs * x.den := by rw [Int.natAbs_mul]; rfl
    have := Int.natAbs_add_le (x.num * y.den) (y.num * x.den)
    omega
  · rw [Int.natAbs_mul]
    show x.den * y.den < _
    omega
theorem Sm.neg (hx : Sm a x) : Sm a (-x) := ⟨by rw [(neg_num x).1, Int.natAbs_neg]; exact hx.num, hx.den⟩
theorem Sm.sub (hx : Sm a x) (hy : Sm b y) : Sm (a + b + 1) (x - y) := by
  rw [Rat.sub_eq_add_neg]
  exact hx.add hy.neg
theorem Sm.mul (hx : Sm a x) (hy : Sm b y) : Sm (a + b) (x * y) := by
  have h1 := mul_lt hx.num hy.num
  have h3 := mul_lt hx.den hy.den
  have dx := x.den_nz
  have dy := y.den_nz
  have hz : (x.den : Int) * y.den ≠ 0 := Int.mul_ne_zero (by omega) (by omega)
  have := Sm.divI (t := x.num * y.num) (b := (x.den : Int) * y.den) (k := a + b) (l := a + b) ?_ ?_ hz
  · rw [← mul_eq] at this
    exact ⟨this.1, this.2⟩
  · rw [Int.natAbs_mul]
    exact h1
  · rw [Int.natAbs_mul]
    exact h3
theorem num_ne (h : y ≠ 0) : y.num ≠ 0 := fun z => h (Rat.num_eq_zero.1 z)
theorem Sm.div (hx : Sm a x) (hy : Sm b y) (h0 : y ≠ 0) : Sm (a + b) (x / y) := by
  have h1 := mul_lt hx.num hy.den
  have h3 := mul_lt hx.den hy.num
  have dx := x.den_nz
  have dy := y.den_nz
  have hz : (x.den : Int) * y.num ≠ 0 := Int.mul_ne_zero (by omega) (num_ne h0)
  have := Sm.divI (t := x.num * y.den) (b := (x.den : Int) * y.num) (k := a + b) (l := a + b) ?_ ?_ hz
  · rw [← div_eq x y h0] at this
    exact ⟨this.1, this.2⟩
  · rw [Int.natAbs_mul]
    exact h1
  · rw [Int.natAbs_mul]
    exact h3
end
theorem dq_zero : dq 0 = .tup [.int 0, .int 1] := rfl
theorem dq_one : dq 1 = .tup [.int 1, .int 1] := rfl
/-! ### what equality and repr say of numbers -/
theorem dq_dat (n : Nat) (q : Rat) : dat (n + 1) (dq q) = true := by cases n <;> rfl
theorem int_beq (i j : Int) : (i == j) = decide (i = j) := by
  by_cases h : i = j
  · rw [decide_eq_true h, h]
    exact beq_self_eq_true j
  · rw [decide_eq_false h]
    exact beq_eq_false_iff_ne.2 h
theorem dq_eq (p q : Rat) : dEq (dq p) (dq q) = decide (p = q) := by
  unfold dq
  rw [dEq, dEqs, dEqs, dEqs, dEq, dEq, Bool.and_true, int_beq, int_beq]
  by_cases h : p = q
  · subst h
    simp
  · rw [decide_eq_false h]
    by_cases h1 : p.num = q.num
    · have h2 : ¬ (p.den : Int) = (q.den : Int) := fun z => h (Rat.ext h1 (by omega))
      rw [decide_eq_false h2, Bool.and_false]
    · rw [decide_eq_false h1, Bool.false_and]
theorem shw_dq {q : Rat} (h : Sm 1919 q) : shw (dq q) = true := by
  have h1 := log_le' h.num
  have h2 := log_le' h.den
  unfold dq
  rw [shw, shws, shws, shws, shw, shw, Bool.and_true]
  have e1 : Nat.blt q.num.natAbs.log2 1920 = true := Nat.ble_eq_true_of_le (by omega)
  have e2 : Nat.blt (q.den : Int).natAbs.log2 1920 = true := Nat.ble_eq_true_of_le (by show q.den.log2 + 1 ≤ 1920; omega)
  rw [e1, e2]
  rfl
theorem wt_dq (q : Rat) : wt (dq q) = 3874 := rfl
end G

set_option Elab.async false
set_option linter.all false
set_option maxRecDepth 100000
set_option maxHeartbeats 4000000
/-! Dice: a list of three integers that each roll changes. -/
namespace G
open PySem PySem.Spec PyProof.Rows L2
theorem ix_ref {st : Sto} {n : Nat} {ds : List D} {m : Int} {d : D} (h : st[n]? = some (.lst ds)) (h2 : atI ds m = some d) : dIx (.ref n) (.int m) st = .ok d st := by
  refine o_ix (xs := ds) ?_ h2
  unfold items vw
  simp only [h]
theorem len_ref {st : Sto} {n : Nat} {ds : List D} (h : st[n]? = some (.lst ds)) : dLen [.ref n] st = .ok (.int ds.length) st := by
  refine o_len (xs := ds) ?_
  unfold items vw
  simp only [h]
/-- the dice at n, after at most N rolls -/
def Dice (n N : Nat) (st : Sto) : Prop := ∃ g s : Int, ∃ c : Nat, st[n]? = some (.lst [.int g, .int s, .int (c : Int)]) ∧ 0 ≤ g ∧ c ≤ N
theorem Dice.mono {n N M : Nat} {st : Sto} (h : Dice n N st) (hm : N ≤ M) : Dice n M st := by
  obtain ⟨g, s, c, e, h1, h2⟩ := h
  exact ⟨g, s, c, e, h1, Nat.le_trans h2 hm⟩
/-- the store behind a roll -/
structure Rolled (n N : Nat) (st st' : Sto) : Prop where
  dice : Dice n N st'
  len : st'.length = st.length
  frame : ∀ m, m ≠ n → st'[m]? = st[m]?
theorem Rolled.trans {n N M : Nat} {st st1 st2 : Sto} (h : Rolled n N st st1) (k : Rolled n M st1 st2) : Rolled n M st st2 :=
  ⟨k.dice, k.len.trans h.len, fun m hm => (k.frame m hm).trans (h.frame m hm)⟩
theorem Rolled.mono {n N M : Nat} {st st1 : Sto} (h : Rolled n N st st1) (hm : N ≤ M) : Rolled n M st st1 := ⟨h.dice.mono hm, h.len, h.frame⟩
theorem Rolled.refl {n N : Nat} {st : Sto} (h : Dice n N st) : Rolled n N st st := ⟨h, rfl, fun _ _ => rfl⟩
def rollF : Fn := fnD 5 (sSeq (sIf (cB (cBin dGt (cBin dIx (cVar 0) (cC (.int 0))) (cC (.int 0)))) (sSeq (sSet 2 (cBin dMod (cBin dIx (cVar 0) (cC (.int 0))) (cVar 1))) (sSeq (sSub (cBin dFdiv (cBin dIx (cVar 0) (cC (.int 0))) (cVar 1)) (cVar 0) (cC (.int 0))) (sRet (cArgs dInt1 (cCons (cVar 2) (cNil)))))) (sNil)) (sSeq (sSub (cBin dAdd (cBin dIx (cVar 0) (cC (.int 2))) (cC (.int 1))) (cVar 0) (cC (.int 2))) (sSeq (sSet 3 (cBin dMod (cBin dAdd (cBin dIx (cVar 0) (cC (.int 1))) (cBin dMul (cC (.int 49979687)) (cBin dIx (cVar 0) (cC (.int 2))))) (cC (.int 2305843009213693951)))) (sSeq (sSet 4 (cBin dAdd (cBin dMul (cBin dMod (cBin dAdd (cBin dMul (cVar 3) (cVar 3)) (cBin dMul (cC (.int 131)) (cBin dIx (cVar 0) (cC (.int 2))))) (cC (.int 2305843009213693921))) (cC (.int 32452843))) (cVar 3))) (sRet (cBin dMod (cArgs dInt1 (cCons (cBin dFdiv (cVar 4) (cC (.int 65587))) (cNil))) (cVar 1)))))))
theorem small_log {m : Int} {k : Nat} (h : m.natAbs < 2 ^ k) : m.natAbs.log2 ≤ k := log_le' h
theorem roll_ok {n N : Nat} {st : Sto} {many : Int} (hd : Dice n N st) (hN : N < 1000000) (h0 : 0 < many) (h1 : many.natAbs.log2 ≤ 8999) :
    ∃ (r : Int) (st' : Sto), rollF [.ref n, .int many] st = .ok (.int r) st' ∧ 0 ≤ r ∧ r < many ∧ Rolled n (N + 1) st st' := by
  obtain ⟨g, s, c, e, hg, hc⟩ := hd
  have x0 := ix_ref (m := 0) e rfl
  have x1 := ix_ref (m := 1) e rfl
  have x2 := ix_ref (m := 2) e rfl
  by_cases hz : 0 < g
  · refine ⟨g % many, st.set n (.lst [.int (g / many), .int s, .int (c : Int)]), ?_, Int.emod_nonneg _ (by omega), Int.emod_lt_of_pos _ h0, ?_⟩
    · unfold rollF
      simp only [G.e_vr, G.e_vrS, G.e_con, G.e_bin, G.e_binR, G.e_binR2, G.e_un, G.e_unR, G.e_B, G.e_bool, G.e_ch, G.e_chR, G.e_chR2, G.e_chR3t, G.e_chR3f, G.e_tru, G.e_truR, G.e_truB, G.e_truI, G.e_truN, G.e_truL, G.e_truT, G.e_not, G.e_notR, G.e_and, G.e_andT, G.e_andF, G.e_or, G.e_orT, G.e_orF, G.e_andV, G.e_andVT, G.e_andVF, G.e_orV, G.e_orVT, G.e_orVF, G.e_notV, G.e_notVR, G.e_if, G.e_ifT, G.e_ifF, G.e_nil, G.e_cons, G.e_consR, G.e_consR2, G.e_tup, G.e_tupR, G.e_lst, G.e_lstR, G.e_new, G.e_newR, G.e_args, G.e_argR, G.e_call, G.e_callR, G.o_add, G.o_addB, G.o_sub, G.o_neg, G.o_cmp, G.o_lt, G.o_gt, G.o_ge, G.o_le, G.o_mod, G.o_mul, G.o_div, G.o_pow, G.o_ixT, G.o_ixL, G.o_lenT, G.o_lenL, G.o_abs, G.o_int1, G.o_intB, G.o_max, G.o_min, G.o_eqS, G.o_neS, G.o_eqI, G.o_neI, G.o_isI, G.o_isB, G.o_isT, G.o_isL, G.o_isN, G.o_isS, G.o_tupL, G.o_tupT, G.o_rev, G.s_seq, G.s_thn, G.s_thnR, G.s_thnB, G.s_thnC, G.s_thnX, G.s_nil, G.s_brk, G.s_cnt, G.s_ret, G.s_retR, G.s_retN, G.s_exp, G.s_expR, G.s_if, G.s_ifT, G.s_ifF, G.s_set, G.s_setR, G.s_par, G.s_parR, G.s_par3, G.s_par3R, G.s_asg, G.s_asgQ, G.s_asg2, G.s_sub, G.s_subR, G.s_subR2, G.s_subR3, G.s_putR, G.s_fin, G.s_finN, G.s_finX, G.f_fn, G.e_seqI, G.e_seqL, G.e_seqT, G.e_rng1, G.e_rng1R, G.e_rng2, G.e_rng2R, G.e_zip, G.e_zipL, G.e_zipT, G.s_for, G.s_forR, G.for_nil, G.for_nx, G.for_ct, G.for_bk, G.for_rt, G.g_N, G.w_F, G.w_T, G.w_nx, G.e_lc, G.e_lcR, G.e_lcR2, List.map_cons, List.map_nil, List.length_cons, List.length_nil, List.replicate, List.cons_append, List.nil_append, List.append_nil, List.getElem?_cons_zero, List.getElem?_cons_succ, List.set_cons_zero, List.set_cons_succ, Nat.reduceAdd, Nat.reduceSub, if_true, if_false, Bool.not_true, Bool.not_false, decide_true, decide_false, Nat.zero_add, x0, hz, o_mod h0, o_div h0 h1, s_put (m := 0) (k := 0) e rfl]
    · refine ⟨⟨g / many, s, c, set_get e, Int.ediv_nonneg hg (by omega), by omega⟩, List.length_set, fun m hm => set_ne (Ne.symm hm)⟩
  · have y : ∀ (m : Int) (d : D), atI [.int g, .int s, .int ((c : Int) + 1)] m = some d → dIx (.ref n) (.int m) (st.set n (.lst [.int g, .int s, .int ((c : Int) + 1)])) = .ok d (st.set n (.lst [.int g, .int s, .int ((c : Int) + 1)])) := fun m d h => ix_ref (set_get e) h
    have y1 := y 1 _ rfl
    have y2 := y 2 _ rfl
    have c1 : ((c : Int) + 1).natAbs < 2 ^ 20 := by omega
    have L1 := small_log c1
    have m1 : (49979687 : Int).natAbs.log2 + ((c : Int) + 1).natAbs.log2 ≤ 999998 := by
      have : (49979687 : Int).natAbs.log2 = 25 := by decide
      omega
    have m2 : (131 : Int).natAbs.log2 + ((c : Int) + 1).natAbs.log2 ≤ 999998 := by
      have : (131 : Int).natAbs.log2 = 7 := by decide
      omega
    obtain ⟨one, ho⟩ : ∃ one : Int, one = (s + 49979687 * ((c : Int) + 1)) % 2305843009213693951 := ⟨_, rfl⟩
    have o1 : 0 ≤ one := by rw [ho]; exact Int.emod_nonneg _ (by decide)
    have o2 : one < 2305843009213693951 := by rw [ho]; exact Int.emod_lt_of_pos _ (by decide)
    have L2 := small_log (m := one) (k := 62) (by omega)
    have m3 : one.natAbs.log2 + one.natAbs.log2 ≤ 999998 := by omega
    obtain ⟨two, ht⟩ : ∃ two : Int, two = (one * one + 131 * ((c : Int) + 1)) % 2305843009213693921 := ⟨_, rfl⟩
    have t1 : 0 ≤ two := by rw [ht]; exact Int.emod_nonneg _ (by decide)
    have t2 : two < 2305843009213693921 := by rw [ht]; exact Int.emod_lt_of_pos _ (by decide)
    have L3 := small_log (m := two) (k := 62) (by omega)
    have m4 : two.natAbs.log2 + (32452843 : Int).natAbs.log2 ≤ 999998 := by
      have : (32452843 : Int).natAbs.log2 = 24 := by decide
      omega
    refine ⟨(two * 32452843 + one) / 65587 % many, st.set n (.lst [.int g, .int s, .int ((c : Int) + 1)]), ?_, Int.emod_nonneg _ (by omega), Int.emod_lt_of_pos _ h0, ?_⟩
    · unfold rollF
      simp only [G.e_vr, G.e_vrS, G.e_con, G.e_bin, G.e_binR, G.e_binR2, G.e_un, G.e_unR, G.e_B, G.e_bool, G.e_ch, G.e_chR, G.e_chR2, G.e_chR3t, G.e_chR3f, G.e_tru, G.e_truR, G.e_truB, G.e_truI, G.e_truN, G.e_truL, G.e_truT, G.e_not, G.e_notR, G.e_and, G.e_andT, G.e_andF, G.e_or, G.e_orT, G.e_orF, G.e_andV, G.e_andVT, G.e_andVF, G.e_orV, G.e_orVT, G.e_orVF, G.e_notV, G.e_notVR, G.e_if, G.e_ifT, G.e_ifF, G.e_nil, G.e_cons, G.e_consR, G.e_consR2, G.e_tup, G.e_tupR, G.e_lst, G.e_lstR, G.e_new, G.e_newR, G.e_args, G.e_argR, G.e_call, G.e_callR, G.o_add, G.o_addB, G.o_sub, G.o_neg, G.o_cmp, G.o_lt, G.o_gt, G.o_ge, G.o_le, G.o_mod, G.o_mul, G.o_div, G.o_pow, G.o_ixT, G.o_ixL, G.o_lenT, G.o_lenL, G.o_abs, G.o_int1, G.o_intB, G.o_max, G.o_min, G.o_eqS, G.o_neS, G.o_eqI, G.o_neI, G.o_isI, G.o_isB, G.o_isT, G.o_isL, G.o_isN, G.o_isS, G.o_tupL, G.o_tupT, G.o_rev, G.s_seq, G.s_thn, G.s_thnR, G.s_thnB, G.s_thnC, G.s_thnX, G.s_nil, G.s_brk, G.s_cnt, G.s_ret, G.s_retR, G.s_retN, G.s_exp, G.s_expR, G.s_if, G.s_ifT, G.s_ifF, G.s_set, G.s_setR, G.s_par, G.s_parR, G.s_par3, G.s_par3R, G.s_asg, G.s_asgQ, G.s_asg2, G.s_sub, G.s_subR, G.s_subR2, G.s_subR3, G.s_putR, G.s_fin, G.s_finN, G.s_finX, G.f_fn, G.e_seqI, G.e_seqL, G.e_seqT, G.e_rng1, G.e_rng1R, G.e_rng2, G.e_rng2R, G.e_zip, G.e_zipL, G.e_zipT, G.s_for, G.s_forR, G.for_nil, G.for_nx, G.for_ct, G.for_bk, G.for_rt, G.g_N, G.w_F, G.w_T, G.w_nx, G.e_lc, G.e_lcR, G.e_lcR2, List.map_cons, List.map_nil, List.length_cons, List.length_nil, List.replicate, List.cons_append, List.nil_append, List.append_nil, List.getElem?_cons_zero, List.getElem?_cons_succ, List.set_cons_zero, List.set_cons_succ, Nat.reduceAdd, Nat.reduceSub, if_true, if_false, Bool.not_true, Bool.not_false, decide_true, decide_false, Nat.zero_add, x0, x1, x2, hz, s_put (m := 2) (k := 2) e rfl, y1, y2, o_mul m1, o_mul m2, o_mod (n := 2305843009213693951) (by decide), ← ho, o_mul m3, o_mod (n := 2305843009213693921) (by decide), ← ht, o_mul m4, o_div (n := 65587) (by decide) (by decide), o_mod h0]
    · refine ⟨⟨g, s, c + 1, set_get e, hg, by omega⟩, List.length_set, fun m hm => set_ne (Ne.symm hm)⟩
def pickF : Fn := fnD 2 (sRet (cBin dIx (cVar 1) (cCall rollF [] (cCons (cVar 0) (cCons (cArgs dLen (cCons (cVar 1) (cNil))) (cNil))))))
theorem pick_ok {n N : Nat} {st : Sto} {items : List D} (hd : Dice n N st) (hN : N < 1000000) (h0 : 0 < items.length) (h1 : items.length < 1000000) :
    ∃ (d : D) (st' : Sto), d ∈ items ∧ pickF [.ref n, .lst items] st = .ok d st' ∧ Rolled n (N + 1) st st' := by
  obtain ⟨r, st', e, r0, r1, R⟩ := roll_ok (many := (items.length : Int)) hd hN (by omega) (Nat.le_trans (log_le' (show (items.length : Int).natAbs < 2 ^ 20 by omega)) (by decide))
  have hr : r.toNat < items.length := by omega
  refine ⟨items[r.toNat], st', List.getElem_mem hr, ?_, R⟩
  have ha : atI items r = some items[r.toNat] := by
    have z := L2.atI_nat (xs := items) (j := r.toNat) (List.getElem?_eq_getElem hr)
    rwa [show ((r.toNat : Nat) : Int) = r by omega] at z
  unfold pickF
  simp only [G.e_vr, G.e_vrS, G.e_con, G.e_bin, G.e_binR, G.e_binR2, G.e_un, G.e_unR, G.e_B, G.e_bool, G.e_ch, G.e_chR, G.e_chR2, G.e_chR3t, G.e_chR3f, G.e_tru, G.e_truR, G.e_truB, G.e_truI, G.e_truN, G.e_truL, G.e_truT, G.e_not, G.e_notR, G.e_and, G.e_andT, G.e_andF, G.e_or, G.e_orT, G.e_orF, G.e_andV, G.e_andVT, G.e_andVF, G.e_orV, G.e_orVT, G.e_orVF, G.e_notV, G.e_notVR, G.e_if, G.e_ifT, G.e_ifF, G.e_nil, G.e_cons, G.e_consR, G.e_consR2, G.e_tup, G.e_tupR, G.e_lst, G.e_lstR, G.e_new, G.e_newR, G.e_args, G.e_argR, G.e_call, G.e_callR, G.o_add, G.o_addB, G.o_sub, G.o_neg, G.o_cmp, G.o_lt, G.o_gt, G.o_ge, G.o_le, G.o_mod, G.o_mul, G.o_div, G.o_pow, G.o_ixT, G.o_ixL, G.o_lenT, G.o_lenL, G.o_abs, G.o_int1, G.o_intB, G.o_max, G.o_min, G.o_eqS, G.o_neS, G.o_eqI, G.o_neI, G.o_isI, G.o_isB, G.o_isT, G.o_isL, G.o_isN, G.o_isS, G.o_tupL, G.o_tupT, G.o_rev, G.s_seq, G.s_thn, G.s_thnR, G.s_thnB, G.s_thnC, G.s_thnX, G.s_nil, G.s_brk, G.s_cnt, G.s_ret, G.s_retR, G.s_retN, G.s_exp, G.s_expR, G.s_if, G.s_ifT, G.s_ifF, G.s_set, G.s_setR, G.s_par, G.s_parR, G.s_par3, G.s_par3R, G.s_asg, G.s_asgQ, G.s_asg2, G.s_sub, G.s_subR, G.s_subR2, G.s_subR3, G.s_putR, G.s_fin, G.s_finN, G.s_finX, G.f_fn, G.e_seqI, G.e_seqL, G.e_seqT, G.e_rng1, G.e_rng1R, G.e_rng2, G.e_rng2R, G.e_zip, G.e_zipL, G.e_zipT, G.s_for, G.s_forR, G.for_nil, G.for_nx, G.for_ct, G.for_bk, G.for_rt, G.g_N, G.w_F, G.w_T, G.w_nx, G.e_lc, G.e_lcR, G.e_lcR2, List.map_cons, List.map_nil, List.length_cons, List.length_nil, List.replicate, List.cons_append, List.nil_append, List.append_nil, List.getElem?_cons_zero, List.getElem?_cons_succ, List.set_cons_zero, List.set_cons_succ, Nat.reduceAdd, Nat.reduceSub, if_true, if_false, Bool.not_true, Bool.not_false, decide_true, decide_false, Nat.zero_add, o_lenL, e, o_ixL ha]
/-- one thing in the store: the dice -/
theorem Rolled.one {M : Nat} {st st' : Sto} (R : Rolled 0 M st st') (h : st.length = 1) : ∃ g s : Int, ∃ c : Nat, st' = [.lst [.int g, .int s, .int (c : Int)]] := by
  obtain ⟨g, s, c, e, _, _⟩ := R.dice
  have hl := R.len.trans h
  match st', hl, e with
  | [o], _, e =>
    have e : some o = _ := e
    cases e
    exact ⟨g, s, c, rfl⟩
/-- something of all of a list -/
def HoldAll {α : Type} (p : α → Prop) : List α → Prop
  | [] => True
  | x :: l => p x ∧ HoldAll p l
theorem HoldAll.mem {α : Type} {p : α → Prop} : ∀ {l : List α}, HoldAll p l → ∀ a ∈ l, p a
  | x :: l, h, a, m => by
    rcases List.mem_cons.mp m with rfl | m
    · exact h.1
    · exact HoldAll.mem h.2 a m
theorem map_at {α β : Type} {f h : α → β} : ∀ {l : List α}, l.map f = l.map h → ∀ a ∈ l, f a = h a
  | x :: l, e, a, m => by
    rw [List.map_cons, List.map_cons] at e
    injection e with e1 e2
    rcases List.mem_cons.mp m with rfl | m
    · exact e1
    · exact map_at e2 a m
end G

set_option Elab.async false
set_option linter.all false
set_option maxRecDepth 100000
set_option maxHeartbeats 4000000
/-! The dice of a cell, the loop over the cells. -/
namespace G
open PySem PySem.Spec PyProof.Rows L2
theorem rng_ok {n : Nat} (h : n ≤ 1000) : (decide ((n : Int) < 4000000) && decide (-4000000 < (n : Int))) = true := by
  have h1 : (n : Int) < 4000000 := by omega
  have h2 : -4000000 < (n : Int) := by omega
  rw [decide_eq_true h1, decide_eq_true h2]
  rfl
theorem rng_mem {lo : Int} {n : Nat} {x : D} (h : x ∈ rng lo n) : ∃ k : Nat, k < n ∧ x = .int (lo + k) := by
  unfold rng at h
  obtain ⟨k, hk, rfl⟩ := List.mem_map.1 h
  exact ⟨k, List.mem_range.1 hk, rfl⟩
theorem rng_len {lo : Int} {n : Nat} : (rng lo n).length = n := by
  unfold rng
  rw [List.length_map, List.length_range]
theorem big3 : big 3 = true := (rfl)
theorem big2 : big 2 = true := (rfl)
def diceF : Fn := fnD 5 (sSeq (sSet 2 (cIf (cB (cBin dLt (cVar 1) (cArgs dLen (cCons (cVar 0) (cNil))))) (cArgs dInt1 (cCons (cBin dIx (cVar 0) (cVar 1)) (cNil))) (cBin dAdd (cBin dMul (cC (.int 131)) (cVar 1)) (cC (.int 37))))) (sSeq (sSet 3 (cBin dMod (cArgs dInt1 (cCons (cArgs dAbs (cCons (cVar 2) (cNil))) (cNil))) (cBin dPow (cBin dPow (cC (.int 10)) (cC (.int 53))) (cC (.int 6))))) (sSeq (sSet 4 (cBin dAdd (cBin dAdd (cBin dAdd (cBin dMul (cBin dMod (cVar 3) (cC (.int 2305843009213693907))) (cC (.int 73))) (cBin dMul (cC (.int 619)) (cVar 1))) (cBin dMul (cC (.int 41)) (cArgs dInt1 (cCons (cBin dLt (cVar 2) (cC (.int 0))) (cNil))))) (cC (.int 17)))) (sRet (cNew (cCons (cArgs dMax2 (cCons (cC (.int 0)) (cCons (cBin dSub (cVar 3) (cBin dPow (cC (.int 10)) (cC (.int 16)))) (cNil)))) (cCons (cVar 4) (cCons (cC (.int 0)) (cNil)))))))))
theorem dice_ok {ns : List Int} {spot : Nat} {st : Sto} (hs : spot < 1000) :
    ∃ st', diceF [.lst (ns.map D.int), .int spot] st = .ok (.ref st.length) st' ∧ Dice st.length 0 st' ∧ st'.length = st.length + 1 := by
  have g2 : (131 : Int).natAbs.log2 + (spot : Int).natAbs.log2 ≤ 999998 := by
    have := small_log (m := (spot : Int)) (k := 10) (by omega)
    have : (131 : Int).natAbs.log2 = 7 := by decide
    omega
  have g3 : (619 : Int).natAbs.log2 + (spot : Int).natAbs.log2 ≤ 999998 := by
    have := small_log (m := (spot : Int)) (k := 10) (by omega)
    have : (619 : Int).natAbs.log2 = 9 := by decide
    omega
  have fin : ∀ cell : Int, (cIf (cB (cBin dLt (cVar 1) (cArgs dLen (cCons (cVar 0) (cNil))))) (cArgs dInt1 (cCons (cBin dIx (cVar 0) (cVar 1)) (cNil))) (cBin dAdd (cBin dMul (cC (.int 131)) (cVar 1)) (cC (.int 37)))) [some (.lst (ns.map D.int)), some (.int spot), none, none, none] st = .ok (.int cell) st →
      ∃ st', diceF [.lst (ns.map D.int), .int spot] st = .ok (.ref st.length) st' ∧ Dice st.length 0 st' ∧ st'.length = st.length + 1 := by
    intro cell hc
    obtain ⟨M, hM⟩ : ∃ M : Int, M = ((10 : Int) ^ (53 : Int).toNat) ^ (6 : Int).toNat := ⟨_, rfl⟩
    have hM0 : 0 < M := by rw [hM]; decide +kernel
    obtain ⟨great, hg⟩ : ∃ g : Int, g = (cell.natAbs : Int) % M := ⟨_, rfl⟩
    obtain ⟨a, ha⟩ : ∃ a : Int, a = great % 2305843009213693907 := ⟨_, rfl⟩
    have a1 : a.natAbs < 2 ^ 62 := by
      have := Int.emod_nonneg great (show (2305843009213693907 : Int) ≠ 0 by decide)
      have := Int.emod_lt_of_pos great (show (0 : Int) < 2305843009213693907 by decide)
      omega
    have g1 : a.natAbs.log2 + (73 : Int).natAbs.log2 ≤ 999998 := by
      have := small_log a1
      have : (73 : Int).natAbs.log2 = 6 := by decide
      omega
    have g4 : ∀ c : Bool, (41 : Int).natAbs.log2 + (if c = true then (1 : Int) else 0).natAbs.log2 ≤ 999998 := by decide
    refine ⟨st ++ [.lst [.int (if great - 10 ^ (16 : Int).toNat > 0 then great - 10 ^ (16 : Int).toNat else 0), .int (a * 73 + 619 * spot + 41 * (if decide (cell < 0) = true then 1 else 0) + 17), .int 0]], ?_, ?_, by rw [List.length_append]; rfl⟩
    · unfold diceF
      simp only [f_fn, s_seq, s_set, List.map_cons, List.map_nil, List.length_cons, List.length_nil, List.replicate, List.cons_append, List.nil_append, Nat.reduceAdd, Nat.reduceSub, hc]
      simp only [G.e_vr, G.e_vrS, G.e_con, G.e_bin, G.e_binR, G.e_binR2, G.e_un, G.e_unR, G.e_B, G.e_bool, G.e_ch, G.e_chR, G.e_chR2, G.e_chR3t, G.e_chR3f, G.e_tru, G.e_truR, G.e_truB, G.e_truI, G.e_truN, G.e_truL, G.e_truT, G.e_not, G.e_notR, G.e_and, G.e_andT, G.e_andF, G.e_or, G.e_orT, G.e_orF, G.e_andV, G.e_andVT, G.e_andVF, G.e_orV, G.e_orVT, G.e_orVF, G.e_notV, G.e_notVR, G.e_if, G.e_ifT, G.e_ifF, G.e_nil, G.e_cons, G.e_consR, G.e_consR2, G.e_tup, G.e_tupR, G.e_lst, G.e_lstR, G.e_new, G.e_newR, G.e_args, G.e_argR, G.e_call, G.e_callR, G.o_add, G.o_addB, G.o_sub, G.o_neg, G.o_cmp, G.o_lt, G.o_gt, G.o_ge, G.o_le, G.o_mod, G.o_mul, G.o_div, G.o_pow, G.o_ixT, G.o_ixL, G.o_lenT, G.o_lenL, G.o_abs, G.o_int1, G.o_intB, G.o_max, G.o_min, G.o_eqS, G.o_neS, G.o_eqI, G.o_neI, G.o_isI, G.o_isB, G.o_isT, G.o_isL, G.o_isN, G.o_isS, G.o_tupL, G.o_tupT, G.o_rev, G.s_seq, G.s_thn, G.s_thnR, G.s_thnB, G.s_thnC, G.s_thnX, G.s_nil, G.s_brk, G.s_cnt, G.s_ret, G.s_retR, G.s_retN, G.s_exp, G.s_expR, G.s_if, G.s_ifT, G.s_ifF, G.s_set, G.s_setR, G.s_par, G.s_parR, G.s_par3, G.s_par3R, G.s_asg, G.s_asgQ, G.s_asg2, G.s_sub, G.s_subR, G.s_subR2, G.s_subR3, G.s_putR, G.s_fin, G.s_finN, G.s_finX, G.f_fn, G.e_seqI, G.e_seqL, G.e_seqT, G.e_rng1, G.e_rng1R, G.e_rng2, G.e_rng2R, G.e_zip, G.e_zipL, G.e_zipT, G.s_for, G.s_forR, G.for_nil, G.for_nx, G.for_ct, G.for_bk, G.for_rt, G.g_N, G.w_F, G.w_T, G.w_nx, G.e_lc, G.e_lcR, G.e_lcR2, List.map_cons, List.map_nil, List.length_cons, List.length_nil, List.replicate, List.cons_append, List.nil_append, List.append_nil, List.getElem?_cons_zero, List.getElem?_cons_succ, List.set_cons_zero, List.set_cons_succ, Nat.reduceAdd, Nat.reduceSub, if_true, if_false, Bool.not_true, Bool.not_false, decide_true, decide_false, Nat.zero_add, o_pow (m := 10) (n := 53) (by decide), o_pow (m := (10 : Int) ^ (53 : Int).toNat) (n := 6) (by decide +kernel), ← hM, o_mod hM0, ← hg, o_mod (n := 2305843009213693907) (by decide), ← ha, o_mul g1, o_mul g3, o_mul (g4 _), o_pow (m := 10) (n := 16) (by decide), big3]
    · refine ⟨_, _, 0, List.getElem?_concat_length, ?_, Nat.le_refl _⟩
      split <;> omega
  by_cases h : spot < ns.length
  · have h2 : spot < (ns.map D.int).length := by rw [List.length_map]; exact h
    have e : atI (ns.map D.int) (spot : Int) = some (.int ns[spot]) := by
      refine L2.atI_nat ?_
      rw [List.getElem?_map, List.getElem?_eq_getElem h]
      rfl
    refine fin ns[spot] ?_
    have : ((spot : Int) < ((ns.map D.int).length : Int)) := by omega
    simp only [G.e_vr, G.e_vrS, G.e_con, G.e_bin, G.e_binR, G.e_binR2, G.e_un, G.e_unR, G.e_B, G.e_bool, G.e_ch, G.e_chR, G.e_chR2, G.e_chR3t, G.e_chR3f, G.e_tru, G.e_truR, G.e_truB, G.e_truI, G.e_truN, G.e_truL, G.e_truT, G.e_not, G.e_notR, G.e_and, G.e_andT, G.e_andF, G.e_or, G.e_orT, G.e_orF, G.e_andV, G.e_andVT, G.e_andVF, G.e_orV, G.e_orVT, G.e_orVF, G.e_notV, G.e_notVR, G.e_if, G.e_ifT, G.e_ifF, G.e_nil, G.e_cons, G.e_consR, G.e_consR2, G.e_tup, G.e_tupR, G.e_lst, G.e_lstR, G.e_new, G.e_newR, G.e_args, G.e_argR, G.e_call, G.e_callR, G.o_add, G.o_addB, G.o_sub, G.o_neg, G.o_cmp, G.o_lt, G.o_gt, G.o_ge, G.o_le, G.o_mod, G.o_mul, G.o_div, G.o_pow, G.o_ixT, G.o_ixL, G.o_lenT, G.o_lenL, G.o_abs, G.o_int1, G.o_intB, G.o_max, G.o_min, G.o_eqS, G.o_neS, G.o_eqI, G.o_neI, G.o_isI, G.o_isB, G.o_isT, G.o_isL, G.o_isN, G.o_isS, G.o_tupL, G.o_tupT, G.o_rev, G.s_seq, G.s_thn, G.s_thnR, G.s_thnB, G.s_thnC, G.s_thnX, G.s_nil, G.s_brk, G.s_cnt, G.s_ret, G.s_retR, G.s_retN, G.s_exp, G.s_expR, G.s_if, G.s_ifT, G.s_ifF, G.s_set, G.s_setR, G.s_par, G.s_parR, G.s_par3, G.s_par3R, G.s_asg, G.s_asgQ, G.s_asg2, G.s_sub, G.s_subR, G.s_subR2, G.s_subR3, G.s_putR, G.s_fin, G.s_finN, G.s_finX, G.f_fn, G.e_seqI, G.e_seqL, G.e_seqT, G.e_rng1, G.e_rng1R, G.e_rng2, G.e_rng2R, G.e_zip, G.e_zipL, G.e_zipT, G.s_for, G.s_forR, G.for_nil, G.for_nx, G.for_ct, G.for_bk, G.for_rt, G.g_N, G.w_F, G.w_T, G.w_nx, G.e_lc, G.e_lcR, G.e_lcR2, List.map_cons, List.map_nil, List.length_cons, List.length_nil, List.replicate, List.cons_append, List.nil_append, List.append_nil, List.getElem?_cons_zero, List.getElem?_cons_succ, List.set_cons_zero, List.set_cons_succ, Nat.reduceAdd, Nat.reduceSub, if_true, if_false, Bool.not_true, Bool.not_false, decide_true, decide_false, Nat.zero_add, this, o_ixL e]
  · refine fin (131 * spot + 37) ?_
    have : ¬ ((spot : Int) < ((ns.map D.int).length : Int)) := by rw [List.length_map]; omega
    simp only [G.e_vr, G.e_vrS, G.e_con, G.e_bin, G.e_binR, G.e_binR2, G.e_un, G.e_unR, G.e_B, G.e_bool, G.e_ch, G.e_chR, G.e_chR2, G.e_chR3t, G.e_chR3f, G.e_tru, G.e_truR, G.e_truB, G.e_truI, G.e_truN, G.e_truL, G.e_truT, G.e_not, G.e_notR, G.e_and, G.e_andT, G.e_andF, G.e_or, G.e_orT, G.e_orF, G.e_andV, G.e_andVT, G.e_andVF, G.e_orV, G.e_orVT, G.e_orVF, G.e_notV, G.e_notVR, G.e_if, G.e_ifT, G.e_ifF, G.e_nil, G.e_cons, G.e_consR, G.e_consR2, G.e_tup, G.e_tupR, G.e_lst, G.e_lstR, G.e_new, G.e_newR, G.e_args, G.e_argR, G.e_call, G.e_callR, G.o_add, G.o_addB, G.o_sub, G.o_neg, G.o_cmp, G.o_lt, G.o_gt, G.o_ge, G.o_le, G.o_mod, G.o_mul, G.o_div, G.o_pow, G.o_ixT, G.o_ixL, G.o_lenT, G.o_lenL, G.o_abs, G.o_int1, G.o_intB, G.o_max, G.o_min, G.o_eqS, G.o_neS, G.o_eqI, G.o_neI, G.o_isI, G.o_isB, G.o_isT, G.o_isL, G.o_isN, G.o_isS, G.o_tupL, G.o_tupT, G.o_rev, G.s_seq, G.s_thn, G.s_thnR, G.s_thnB, G.s_thnC, G.s_thnX, G.s_nil, G.s_brk, G.s_cnt, G.s_ret, G.s_retR, G.s_retN, G.s_exp, G.s_expR, G.s_if, G.s_ifT, G.s_ifF, G.s_set, G.s_setR, G.s_par, G.s_parR, G.s_par3, G.s_par3R, G.s_asg, G.s_asgQ, G.s_asg2, G.s_sub, G.s_subR, G.s_subR2, G.s_subR3, G.s_putR, G.s_fin, G.s_finN, G.s_finX, G.f_fn, G.e_seqI, G.e_seqL, G.e_seqT, G.e_rng1, G.e_rng1R, G.e_rng2, G.e_rng2R, G.e_zip, G.e_zipL, G.e_zipT, G.s_for, G.s_forR, G.for_nil, G.for_nx, G.for_ct, G.for_bk, G.for_rt, G.g_N, G.w_F, G.w_T, G.w_nx, G.e_lc, G.e_lcR, G.e_lcR2, List.map_cons, List.map_nil, List.length_cons, List.length_nil, List.replicate, List.cons_append, List.nil_append, List.append_nil, List.getElem?_cons_zero, List.getElem?_cons_succ, List.set_cons_zero, List.set_cons_succ, Nat.reduceAdd, Nat.reduceSub, if_true, if_false, Bool.not_true, Bool.not_false, decide_true, decide_false, Nat.zero_add, this, o_mul g2]
/-- a loop that keeps something -/
theorem for_keep {γ : EvG} {G : EvS} (I : List D → Env → Sto → Prop)
    (h : ∀ x xs (ρ : Env) st, I (x :: xs) ρ st → ∃ ρ1, γ x ρ = some ρ1 ∧ ∃ ρ2 st2, G ρ1 st = .ok (.nx ρ2) st2 ∧ I xs ρ2 st2) :
    ∀ (xs : List D) (ρ : Env) (st : Sto), I xs ρ st → ∃ ρ' st', forD γ G xs ρ st = .ok (.nx ρ') st' ∧ I [] ρ' st'
  | [], ρ, st, hI => ⟨ρ, st, rfl, hI⟩
  | x :: xs, ρ, st, hI => by
    obtain ⟨ρ1, e1, ρ2, st2, e2, hI2⟩ := h x xs ρ st hI
    obtain ⟨ρ', st', e3, hI3⟩ := for_keep I h xs ρ2 st2 hI2
    exact ⟨ρ', st', by rw [for_cons e1, e2, for_nx, e3], hI3⟩
/-- a turn of a law: right with any dice, R rolls at most -/
def RightOk (right : Fn) (R : Nat) : Prop := ∀ {st : Sto} {N : Nat}, Dice 0 N st → N < 900000 → st.length = 1 → ∃ st' : Sto, right [.ref 0] st = .ok (.bl true) st' ∧ Rolled 0 (N + R) st st'
abbrev turnS (right : Fn) : EvS := sIf (cNot (cTru (cCall right [] (cCons (cVar 2) (cNil))))) (sRet (cC (.bl false))) (sNil)
abbrev cellS (right : Fn) (T : Int) : EvS := sSeq (sSet 2 (cCall diceF [] (cCons (cVar 0) (cCons (cVar 1) (cNil))))) (sFor (cRng1 (cCons (cC (.int T)) (cNil))) (gN 3) (turnS right))
section
variable {right : Fn} {R : Nat}
theorem turns_ok (h : RightOk right R) {N : Nat} {xs : List D} {ρ : Env} {st : Sto} (hd : Dice 0 N st) (hl : st.length = 1) (hN : N + R * xs.length < 900000) (h2 : ρ[2]? = some (some (.ref 0))) :
    ∃ ρ' st', forD (gN 3) (turnS right) xs ρ st = .ok (.nx ρ') st' ∧ ρ'[0]? = ρ[0]? ∧ ρ'.length = ρ.length ∧ st'.length = 1 := by
  obtain ⟨ρ', st', e, ⟨N', _, _, _, h4, h5, h6⟩⟩ := for_keep (γ := gN 3) (G := turnS right) (fun xs ρ1 st1 => ∃ N', Dice 0 N' st1 ∧ N' + R * xs.length < 900000 ∧ ρ1[2]? = some (some (.ref 0)) ∧ ρ1[0]? = ρ[0]? ∧ ρ1.length = ρ.length ∧ st1.length = 1) (fun x xs ρ1 st1 hI => by
    obtain ⟨N', i1, i2, i3, i4, i5, i6⟩ := hI
    rw [List.length_cons, Nat.mul_succ] at i2
    obtain ⟨st2, e, hr⟩ := h i1 (by omega) i6
    have q : (ρ1.set 3 (some x))[2]? = some (some (.ref 0)) := by rw [set_ne (by decide)]; exact i3
    refine ⟨_, rfl, ρ1.set 3 (some x), st2, ?_, N' + R, hr.dice, by omega, q, by rw [set_ne (by decide)]; exact i4, by rw [List.length_set]; exact i5, hr.len.trans i6⟩
    simp only [G.e_vr, G.e_vrS, G.e_con, G.e_bin, G.e_binR, G.e_binR2, G.e_un, G.e_unR, G.e_B, G.e_bool, G.e_ch, G.e_chR, G.e_chR2, G.e_chR3t, G.e_chR3f, G.e_tru, G.e_truR, G.e_truB, G.e_truI, G.e_truN, G.e_truL, G.e_truT, G.e_not, G.e_notR, G.e_and, G.e_andT, G.e_andF, G.e_or, G.e_orT, G.e_orF, G.e_andV, G.e_andVT, G.e_andVF, G.e_orV, G.e_orVT, G.e_orVF, G.e_notV, G.e_notVR, G.e_if, G.e_ifT, G.e_ifF, G.e_nil, G.e_cons, G.e_consR, G.e_consR2, G.e_tup, G.e_tupR, G.e_lst, G.e_lstR, G.e_new, G.e_newR, G.e_args, G.e_argR, G.e_call, G.e_callR, G.o_add, G.o_addB, G.o_sub, G.o_neg, G.o_cmp, G.o_lt, G.o_gt, G.o_ge, G.o_le, G.o_mod, G.o_mul, G.o_div, G.o_pow, G.o_ixT, G.o_ixL, G.o_lenT, G.o_lenL, G.o_abs, G.o_int1, G.o_intB, G.o_max, G.o_min, G.o_eqS, G.o_neS, G.o_eqI, G.o_neI, G.o_isI, G.o_isB, G.o_isT, G.o_isL, G.o_isN, G.o_isS, G.o_tupL, G.o_tupT, G.o_rev, G.s_seq, G.s_thn, G.s_thnR, G.s_thnB, G.s_thnC, G.s_thnX, G.s_nil, G.s_brk, G.s_cnt, G.s_ret, G.s_retR, G.s_retN, G.s_exp, G.s_expR, G.s_if, G.s_ifT, G.s_ifF, G.s_set, G.s_setR, G.s_par, G.s_parR, G.s_par3, G.s_par3R, G.s_asg, G.s_asgQ, G.s_asg2, G.s_sub, G.s_subR, G.s_subR2, G.s_subR3, G.s_putR, G.s_fin, G.s_finN, G.s_finX, G.f_fn, G.e_seqI, G.e_seqL, G.e_seqT, G.e_rng1, G.e_rng1R, G.e_rng2, G.e_rng2R, G.e_zip, G.e_zipL, G.e_zipT, G.s_for, G.s_forR, G.for_nil, G.for_nx, G.for_ct, G.for_bk, G.for_rt, G.g_N, G.w_F, G.w_T, G.w_nx, G.e_lc, G.e_lcR, G.e_lcR2, List.map_cons, List.map_nil, List.length_cons, List.length_nil, List.replicate, List.cons_append, List.nil_append, List.append_nil, List.getElem?_cons_zero, List.getElem?_cons_succ, List.set_cons_zero, List.set_cons_succ, Nat.reduceAdd, Nat.reduceSub, if_true, if_false, Bool.not_true, Bool.not_false, decide_true, decide_false, Nat.zero_add, q, e]) xs ρ st ⟨N, hd, hN, h2, rfl, rfl, hl⟩
  exact ⟨ρ', st', e, h4, h5, h6⟩
theorem low_ints : ∀ {ns : List Int}, lows 0 (ns.map D.int) = true
  | [] => rfl
  | n :: ns => by
    rw [List.map_cons, lows, low_ints]
    rfl
theorem cells_ok (h : RightOk right R) {T : Nat} (hT : R * T < 900000) (hT2 : T ≤ 1000) {L : Nat} {ns : List Int} : ∀ {xs : List D} {ρ : Env}, (∀ x ∈ xs, ∃ k : Nat, k < 1000 ∧ x = .int k) → ρ.length = L + 4 → ρ[0]? = some (some (.lst (ns.map D.int))) →
    ∃ ρ', forD (gN 1) (sGC (cellS right T)) xs ρ [] = .ok (.nx ρ') [] ∧ ρ'.length = L + 4 ∧ ρ'[0]? = some (some (.lst (ns.map D.int))) := by
  intro xs ρ hx hl h0
  obtain ⟨ρ', st', e, q1, q2, q3, q4⟩ := for_keep (γ := gN 1) (G := sGC (cellS right T)) (fun xs ρ1 st1 => st1 = [] ∧ (∀ x ∈ xs, ∃ k : Nat, k < 1000 ∧ x = .int k) ∧ ρ1.length = L + 4 ∧ ρ1[0]? = some (some (.lst (ns.map D.int)))) (fun x xs ρ1 st1 hI => by
    obtain ⟨rfl, i1, i2, i3⟩ := hI
    obtain ⟨k, hk, rfl⟩ := i1 x (.head _)
    obtain ⟨st2, e1, hd, l2⟩ := dice_ok (ns := ns) (spot := k) (st := []) hk
    match ρ1, i2, i3 with
    | a :: b :: c :: d :: r, i2, i3 =>
      rw [List.getElem?_cons_zero] at i3
      cases i3
      obtain ⟨ρ2, st3, e2, z0, zl, _⟩ := turns_ok (xs := rng 0 T) (ρ := some (.lst (ns.map D.int)) :: some (.int k) :: some (.ref 0) :: d :: r) h hd l2 (by rw [rng_len]; omega) rfl
      have eb : cellS right T (some (.lst (ns.map D.int)) :: some (.int k) :: c :: d :: r) [] = .ok (.nx ρ2) st3 := by
        simp only [G.e_vr, G.e_vrS, G.e_con, G.e_bin, G.e_binR, G.e_binR2, G.e_un, G.e_unR, G.e_B, G.e_bool, G.e_ch, G.e_chR, G.e_chR2, G.e_chR3t, G.e_chR3f, G.e_tru, G.e_truR, G.e_truB, G.e_truI, G.e_truN, G.e_truL, G.e_truT, G.e_not, G.e_notR, G.e_and, G.e_andT, G.e_andF, G.e_or, G.e_orT, G.e_orF, G.e_andV, G.e_andVT, G.e_andVF, G.e_orV, G.e_orVT, G.e_orVF, G.e_notV, G.e_notVR, G.e_if, G.e_ifT, G.e_ifF, G.e_nil, G.e_cons, G.e_consR, G.e_consR2, G.e_tup, G.e_tupR, G.e_lst, G.e_lstR, G.e_new, G.e_newR, G.e_args, G.e_argR, G.e_call, G.e_callR, G.o_add, G.o_addB, G.o_sub, G.o_neg, G.o_cmp, G.o_lt, G.o_gt, G.o_ge, G.o_le, G.o_mod, G.o_mul, G.o_div, G.o_pow, G.o_ixT, G.o_ixL, G.o_lenT, G.o_lenL, G.o_abs, G.o_int1, G.o_intB, G.o_max, G.o_min, G.o_eqS, G.o_neS, G.o_eqI, G.o_neI, G.o_isI, G.o_isB, G.o_isT, G.o_isL, G.o_isN, G.o_isS, G.o_tupL, G.o_tupT, G.o_rev, G.s_seq, G.s_thn, G.s_thnR, G.s_thnB, G.s_thnC, G.s_thnX, G.s_nil, G.s_brk, G.s_cnt, G.s_ret, G.s_retR, G.s_retN, G.s_exp, G.s_expR, G.s_if, G.s_ifT, G.s_ifF, G.s_set, G.s_setR, G.s_par, G.s_parR, G.s_par3, G.s_par3R, G.s_asg, G.s_asgQ, G.s_asg2, G.s_sub, G.s_subR, G.s_subR2, G.s_subR3, G.s_putR, G.s_fin, G.s_finN, G.s_finX, G.f_fn, G.e_seqI, G.e_seqL, G.e_seqT, G.e_rng1, G.e_rng1R, G.e_rng2, G.e_rng2R, G.e_zip, G.e_zipL, G.e_zipT, G.s_for, G.s_forR, G.for_nil, G.for_nx, G.for_ct, G.for_bk, G.for_rt, G.g_N, G.w_F, G.w_T, G.w_nx, G.e_lc, G.e_lcR, G.e_lcR2, List.map_cons, List.map_nil, List.length_cons, List.length_nil, List.replicate, List.cons_append, List.nil_append, List.append_nil, List.getElem?_cons_zero, List.getElem?_cons_succ, List.set_cons_zero, List.set_cons_succ, Nat.reduceAdd, Nat.reduceSub, if_true, if_false, Bool.not_true, Bool.not_false, decide_true, decide_false, Nat.zero_add, e1, e_rng1R (rng_ok hT2), Int.toNat_natCast, e2]
      refine ⟨_, rfl, ρ2.map (keepLow 0), [], ?_, rfl, fun y hy => i1 y (.tail _ hy), ?_, ?_⟩
      · show sGC (cellS right T) (some (.lst (ns.map D.int)) :: some (.int k) :: c :: d :: r) [] = _
        unfold sGC
        rw [eb]
        rfl
      · rw [List.length_map, zl]
        exact i2
      · rw [List.getElem?_map, z0]
        show some (keepLow 0 (some (.lst (ns.map D.int)))) = _
        exact congrArg some (if_pos (show low 0 (.lst (ns.map D.int)) = true from low_ints))) xs ρ [] ⟨rfl, hx, hl, h0⟩
  subst q1
  exact ⟨ρ', e, q3, q4⟩
/-- for spot in range(max(1, min(C, len(script)))) -/
abbrev spotsS (C : Int) (body : EvS) : EvS := sFor (cRng1 (cCons (cArgs dMax2 (cCons (cC (.int 1)) (cCons (cArgs dMin2 (cCons (cC (.int C)) (cCons (cArgs dLen (cCons (cVar 0) (cNil))) (cNil)))) (cNil)))) (cNil))) (gN 1) body
theorem spots_ok (h : RightOk right R) {T C : Nat} (hT : R * T < 900000) (hT2 : T ≤ 1000) (hC : C ≤ 100) {L : Nat} {ns : List Int} {ρ : Env} (hl : ρ.length = L + 4) (h0 : ρ[0]? = some (some (.lst (ns.map D.int)))) :
    ∃ ρ', spotsS C (sGC (cellS right T)) ρ [] = .ok (.nx ρ') [] ∧ ρ'.length = L + 4 ∧ ρ'[0]? = some (some (.lst (ns.map D.int))) := by
  obtain ⟨m, hm0, hm⟩ : ∃ m : Nat, m ≤ 101 ∧ (if (if ((ns.length : Nat) : Int) < C then ((ns.length : Nat) : Int) else C) > 1 then (if ((ns.length : Nat) : Int) < C then ((ns.length : Nat) : Int) else C) else 1) = (m : Int) := by
    refine ⟨(if (if ((ns.length : Nat) : Int) < C then ((ns.length : Nat) : Int) else C) > 1 then (if ((ns.length : Nat) : Int) < C then ((ns.length : Nat) : Int) else C) else 1).toNat, ?_, ?_⟩ <;> split <;> split <;> omega
  obtain ⟨ρ', e, q1, q2⟩ := cells_ok h hT hT2 (xs := rng 0 m) (ρ := ρ) (fun x hx => by
    obtain ⟨k, hk, rfl⟩ := rng_mem hx
    exact ⟨k, by omega, by rw [Int.zero_add]⟩) hl h0
  have hln : (ns.map D.int).length = ns.length := List.length_map _
  refine ⟨ρ', ?_, q1, q2⟩
  have r : rng1R ((cCons (cArgs dMax2 (cCons (cC (.int 1)) (cCons (cArgs dMin2 (cCons (cC (.int C)) (cCons (cArgs dLen (cCons (cVar 0) (cNil))) (cNil)))) (cNil)))) (cNil)) ρ []) = .ok (rng 0 m) [] := by
    simp only [G.e_vr, G.e_vrS, G.e_con, G.e_bin, G.e_binR, G.e_binR2, G.e_un, G.e_unR, G.e_B, G.e_bool, G.e_ch, G.e_chR, G.e_chR2, G.e_chR3t, G.e_chR3f, G.e_tru, G.e_truR, G.e_truB, G.e_truI, G.e_truN, G.e_truL, G.e_truT, G.e_not, G.e_notR, G.e_and, G.e_andT, G.e_andF, G.e_or, G.e_orT, G.e_orF, G.e_andV, G.e_andVT, G.e_andVF, G.e_orV, G.e_orVT, G.e_orVF, G.e_notV, G.e_notVR, G.e_if, G.e_ifT, G.e_ifF, G.e_nil, G.e_cons, G.e_consR, G.e_consR2, G.e_tup, G.e_tupR, G.e_lst, G.e_lstR, G.e_new, G.e_newR, G.e_args, G.e_argR, G.e_call, G.e_callR, G.o_add, G.o_addB, G.o_sub, G.o_neg, G.o_cmp, G.o_lt, G.o_gt, G.o_ge, G.o_le, G.o_mod, G.o_mul, G.o_div, G.o_pow, G.o_ixT, G.o_ixL, G.o_lenT, G.o_lenL, G.o_abs, G.o_int1, G.o_intB, G.o_max, G.o_min, G.o_eqS, G.o_neS, G.o_eqI, G.o_neI, G.o_isI, G.o_isB, G.o_isT, G.o_isL, G.o_isN, G.o_isS, G.o_tupL, G.o_tupT, G.o_rev, G.s_seq, G.s_thn, G.s_thnR, G.s_thnB, G.s_thnC, G.s_thnX, G.s_nil, G.s_brk, G.s_cnt, G.s_ret, G.s_retR, G.s_retN, G.s_exp, G.s_expR, G.s_if, G.s_ifT, G.s_ifF, G.s_set, G.s_setR, G.s_par, G.s_parR, G.s_par3, G.s_par3R, G.s_asg, G.s_asgQ, G.s_asg2, G.s_sub, G.s_subR, G.s_subR2, G.s_subR3, G.s_putR, G.s_fin, G.s_finN, G.s_finX, G.f_fn, G.e_seqI, G.e_seqL, G.e_seqT, G.e_rng1, G.e_rng1R, G.e_rng2, G.e_rng2R, G.e_zip, G.e_zipL, G.e_zipT, G.s_for, G.s_forR, G.for_nil, G.for_nx, G.for_ct, G.for_bk, G.for_rt, G.g_N, G.w_F, G.w_T, G.w_nx, G.e_lc, G.e_lcR, G.e_lcR2, List.map_cons, List.map_nil, List.length_cons, List.length_nil, List.replicate, List.cons_append, List.nil_append, List.append_nil, List.getElem?_cons_zero, List.getElem?_cons_succ, List.set_cons_zero, List.set_cons_succ, Nat.reduceAdd, Nat.reduceSub, if_true, if_false, Bool.not_true, Bool.not_false, decide_true, decide_false, Nat.zero_add, h0, hln, hm, e_rng1R (rng_ok (show m ≤ 1000 by omega)), Int.toNat_natCast]
  unfold spotsS
  rw [s_for, e_rng1, r, s_forR, e]
end
end G

set_option Elab.async false
set_option linter.all false
set_option maxRecDepth 100000
set_option maxHeartbeats 4000000
/-! A turn of a law, in pieces: picks, and what is run for each pick. -/
namespace G
open PySem PySem.Spec PyProof.Rows L2
def maskE : List Bool → Env → Env
  | true :: m, x :: r => x :: maskE m r
  | false :: m, _ :: r => none :: maskE m r
  | [], r => r
  | _ :: _, [] => []
/-- what a piece leaves: the slots that count, the store -/
def outK (m : List Bool) (r : RS) : Option (Env × Sto) := match r with
  | .ok (.nx ρ) st => some (maskE m ρ, st)
  | _ => none
def envK (r : RS) : Env := match r with
  | .ok (.nx ρ) _ => ρ
  | _ => []
def stoK (r : RS) : Sto := match r with
  | .ok (.nx _) st => st
  | _ => []
def menuK (r : Res (List D)) : List D := match r with
  | .ok [_, .lst ds] _ => ds
  | _ => []
theorem out_some {m : List Bool} {r : RS} {b : Env} {st : Sto} (h : outK m r = some (b, st)) : ∃ ρ, r = .ok (.nx ρ) st ∧ maskE m ρ = b := by
  unfold outK at h
  split at h
  · cases h
    exact ⟨_, rfl, rfl⟩
  · cases h
theorem mask_len : ∀ {m : List Bool} {ρ b : Env}, maskE m ρ = b → m.length = b.length → ρ.length = b.length
  | true :: m, x :: r, b, h, l => by
    subst h
    rw [maskE, List.length_cons, List.length_cons] at *
    exact congrArg (· + 1) (mask_len (m := m) rfl (by simpa using l))
  | false :: m, x :: r, b, h, l => by
    subst h
    rw [maskE, List.length_cons, List.length_cons] at *
    exact congrArg (· + 1) (mask_len (m := m) rfl (by simpa using l))
  | [], r, b, h, _ => by
    have h : r = b := h
    rw [h]
  | _ :: _, [], b, h, l => by
    subst h
    simp [maskE] at l
theorem seq_assoc (a b c : EvS) : sSeq (sSeq a b) c = sSeq a (sSeq b c) := by
  funext ρ st
  unfold sSeq
  cases a ρ st with
  | ok o st1 => cases o <;> rfl
  | exc x ρ1 st1 => rfl
  | bad => rfl
theorem seq_step {g h : EvS} {ρ ρ1 : Env} {st st1 : Sto} (e : g ρ st = .ok (.nx ρ1) st1) : sSeq g h ρ st = h ρ1 st1 := by
  unfold sSeq
  rw [e]
abbrev dcO (g s c : Int) : SO := .lst [.int g, .int s, .int c]
theorem Dice.objs {N : Nat} {o : SO} {a b : Sto} (h : Dice 0 N (o :: a)) : Dice 0 N (o :: b) := by
  obtain ⟨g, s, c, e, h1, h2⟩ := h
  exact ⟨g, s, c, e, h1, h2⟩
theorem pick_at {objs : Sto} {items : List D} {g s c : Int} {N : Nat} (hd : Dice 0 N (dcO g s c :: objs)) (hN : N < 1000000) (h0 : 0 < items.length) (h1 : items.length < 1000000) :
    ∃ (d : D) (g2 s2 c2 : Int), d ∈ items ∧ pickF [.ref 0, .lst items] (dcO g s c :: objs) = .ok d (dcO g2 s2 c2 :: objs) ∧ Dice 0 (N + 1) (dcO g2 s2 c2 :: objs) := by
  obtain ⟨d, st, m, e, R⟩ := pick_ok hd hN h0 h1
  obtain ⟨g2, s2, c2, e2, h2, h3⟩ := R.dice
  have hl : st.length = objs.length + 1 := R.len
  match st, e2, hl, R, e with
  | o :: r, e2, hl, R, e =>
    rw [List.getElem?_cons_zero] at e2
    cases e2
    have er : r = objs := by
      apply List.ext_getElem?
      intro i
      have z := R.frame (i + 1) (by omega)
      rwa [List.getElem?_cons_succ, List.getElem?_cons_succ] at z
    subst er
    exact ⟨d, g2, s2, c2, m, e, ⟨g2, s2, c2, rfl, h2, h3⟩⟩
theorem pick_stmt {i : Nat} {fs : EvA} {ρ : Env} {st st2 : Sto} {items : List D} {d : D} (ha : fs ρ st = .ok [.ref 0, .lst items] st) (hp : pickF [.ref 0, .lst items] st = .ok d st2) : sSet i (cCall pickF [] fs) ρ st = .ok (.nx (ρ.set i (some d))) st2 := by
  have e : cCall pickF [] fs ρ st = .ok d st2 := by
    unfold cCall
    rw [ha]
    show pickF ([.ref 0, .lst items] ++ []) st = _
    rw [List.append_nil, hp]
  unfold sSet
  rw [e]
  rfl
theorem rolled_one {N M : Nat} {a b : SO} (h : Dice 0 M [b]) : Rolled 0 M [a] [b] := ⟨h, rfl, fun m hm => by
  cases m with
  | zero => exact absurd rfl hm
  | succ m => rfl⟩
end G

set_option Elab.async false
set_option linter.all false
set_option maxRecDepth 100000
set_option maxHeartbeats 0
namespace Kx
open PySem PySem.Spec PyProof.Rows L2 G LamX NdefX
abbrev PW : Program := PySem.Challenge.pw_amongliars_k29_errors_of_works_as_object
abbrev RWl : PySem.W.OpenLaw := PySem.Challenge.rw_amongliars_k29_errors_of_works_as_object
def top (i : Nat) : Stmt := PW.main.body.getD i (.Pass ⟨0, 0, 0, 0⟩)
def ini (i j : Nat) : Stmt := match top i with
  | .ClassDef _ _ _ b _ _ _ _ _ _ _ => b.getD j (.Pass ⟨0, 0, 0, 0⟩)
  | _ => .Pass ⟨0, 0, 0, 0⟩
abbrev bm_KeyError : List Value := [.type "KeyError", .type "LookupError", .type "Exception", .type "BaseException", .type "object"]
abbrev bm_ValueError : List Value := [.type "ValueError", .type "Exception", .type "BaseException", .type "object"]
abbrev cls : List Str := [Str.ofString "Works", Str.ofString "InvalidTable", Str.ofString "InvalidOperation", Str.ofString "InvalidWorks", Str.ofString "InvalidRow", Str.ofString "UnknownName"]
abbrev cmat : List (List Bool) := [[false, false, false, false, false, false], [false, true, false, false, false, false], [false, false, true, false, false, false], [false, false, false, true, false, false], [false, false, false, false, true, false], [false, false, false, false, false, true]]
abbrev pks : List Nat := [0]
abbrev tfs : List Str := [Str.ofString "law", Str.ofString "_law_right"]
def c_LETTERS : D := .str [97, 98, 99, 100, 101, 102, 103, 104, 105, 106, 107, 108, 109, 110, 111, 112, 113, 114, 115, 116, 117, 118, 119, 120, 121, 122]
def c_MAX_HANDS : D := .int 4
def c_MAX_LETTERS : D := .int 12
def c_MAX_PLACES : D := .int 6
def c_MAX_TOLD : D := .int 1000000
def c_NOUGHT : D := .tup [.int 0, .int 1]
def c_ONE : D := .tup [.int 1, .int 1]
def c_SIGNS : D := .str [97, 98, 99, 100, 101, 102, 103, 104, 105, 106, 107, 108, 109, 110, 111, 112, 113, 114, 115, 116, 117, 118, 119, 120, 121, 122, 48, 49, 50, 51, 52, 53, 54, 55, 56, 57, 46]
structure InitAt (K : PySem.W.Frag) (x fld : Str) (st : Stmt) (B initId : String) : Prop where
  ex : PySem.W.takerIn K (He.ga K x) fld = some none ∧ ∃ (cc : Addr) (F : NF), F.params = defArgs st ∧ F.body = defBody st ∧ F.scope = defScope st ∧ XM PW K (He.ga K x) (He.ma K (He.ga K x) (Str.ofString "__init__")) cc F B initId
abbrev p_Works_places : List Str := [Str.ofString "self"]
abbrev p_Works_hands : List Str := [Str.ofString "self"]
abbrev p_Works_table : List Str := [Str.ofString "self"]
structure Facts (K : PySem.W.Frag) (mg : Str → Option Value) where
  f_abs : mg (Str.ofString "abs") = none
  f_all : mg (Str.ofString "all") = none
  f_any : mg (Str.ofString "any") = none
  f_bool : mg (Str.ofString "bool") = none
  f_dict : mg (Str.ofString "dict") = none
  f_enumerate : mg (Str.ofString "enumerate") = none
  f_int : mg (Str.ofString "int") = none
  f_isinstance : mg (Str.ofString "isinstance") = none
  f_len : mg (Str.ofString "len") = none
  f_max : mg (Str.ofString "max") = none
  f_min : mg (Str.ofString "min") = none
  f_range : mg (Str.ofString "range") = none
  f_repr : mg (Str.ofString "repr") = none
  f_sorted : mg (Str.ofString "sorted") = none
  f_str : mg (Str.ofString "str") = none
  f_super : mg (Str.ofString "super") = none
  f_tuple : mg (Str.ofString "tuple") = none
  f_zip : mg (Str.ofString "zip") = none
  k_LETTERS : ConAt K mg (glOf K cls) (Str.ofString "LETTERS") c_LETTERS
  k_MAX_HANDS : ConAt K mg (glOf K cls) (Str.ofString "MAX_HANDS") c_MAX_HANDS
  k_MAX_LETTERS : ConAt K mg (glOf K cls) (Str.ofString "MAX_LETTERS") c_MAX_LETTERS
  k_MAX_PLACES : ConAt K mg (glOf K cls) (Str.ofString "MAX_PLACES") c_MAX_PLACES
  k_MAX_TOLD : ConAt K mg (glOf K cls) (Str.ofString "MAX_TOLD") c_MAX_TOLD
  k_NOUGHT : ConAt K mg (glOf K cls) (Str.ofString "NOUGHT") c_NOUGHT
  k_ONE : ConAt K mg (glOf K cls) (Str.ofString "ONE") c_ONE
  k_SIGNS : ConAt K mg (glOf K cls) (Str.ofString "SIGNS") c_SIGNS
  g_Works : mg (Str.ofString "Works") = some (.ref (He.ga K (Str.ofString "Works")))
  c_Works : Cls K (He.ga K (Str.ofString "Works"))
  mk_Works : Mk K (He.ga K (Str.ofString "Works")) (He.ma K (He.ga K (Str.ofString "Works")) (Str.ofString "__init__"))
  na_Works_own_columns : NoAttr K (He.ga K (Str.ofString "Works")) (Str.ofString "own_columns")
  na_Works_own_free : NoAttr K (He.ga K (Str.ofString "Works")) (Str.ofString "own_free")
  na_Works_own_hands : NoAttr K (He.ga K (Str.ofString "Works")) (Str.ofString "own_hands")
  na_Works_own_places : NoAttr K (He.ga K (Str.ofString "Works")) (Str.ofString "own_places")
  na_Works_own_table : NoAttr K (He.ga K (Str.ofString "Works")) (Str.ofString "own_table")
  na_Works_own_wide : NoAttr K (He.ga K (Str.ofString "Works")) (Str.ofString "own_wide")
  na_Works_own_width : NoAttr K (He.ga K (Str.ofString "Works")) (Str.ofString "own_width")
  mt_Works_next : Meth K (He.ga K (Str.ofString "Works")) (Str.ofString "next") (He.ma K (He.ga K (Str.ofString "Works")) (Str.ofString "next"))
  mt_Works_recast : Meth K (He.ga K (Str.ofString "Works")) (Str.ofString "recast") (He.ma K (He.ga K (Str.ofString "Works")) (Str.ofString "recast"))
  mt_Works_renamed : Meth K (He.ga K (Str.ofString "Works")) (Str.ofString "renamed") (He.ma K (He.ga K (Str.ofString "Works")) (Str.ofString "renamed"))
  mt_Works_turned : Meth K (He.ga K (Str.ofString "Works")) (Str.ofString "turned") (He.ma K (He.ga K (Str.ofString "Works")) (Str.ofString "turned"))
  mt_Works_without : Meth K (He.ga K (Str.ofString "Works")) (Str.ofString "without") (He.ma K (He.ga K (Str.ofString "Works")) (Str.ofString "without"))
  isi : ∀ k ∈ pks, IsiAt K (glOf K cls) pks k
  g_InvalidTable : mg (Str.ofString "InvalidTable") = some (.ref (He.ga K (Str.ofString "InvalidTable")))
  x_InvalidTable : XP K mg (Str.ofString "InvalidTable") "ValueError.__new__" bm_ValueError
  g_InvalidOperation : mg (Str.ofString "InvalidOperation") = some (.ref (He.ga K (Str.ofString "InvalidOperation")))
  x_InvalidOperation : XP K mg (Str.ofString "InvalidOperation") "ValueError.__new__" bm_ValueError
  g_InvalidWorks : mg (Str.ofString "InvalidWorks") = some (.ref (He.ga K (Str.ofString "InvalidWorks")))
  x_InvalidWorks : XP K mg (Str.ofString "InvalidWorks") "ValueError.__new__" bm_ValueError
  g_InvalidRow : mg (Str.ofString "InvalidRow") = some (.ref (He.ga K (Str.ofString "InvalidRow")))
  x_InvalidRow : XP K mg (Str.ofString "InvalidRow") "ValueError.__new__" bm_ValueError
  g_UnknownName : mg (Str.ofString "UnknownName") = some (.ref (He.ga K (Str.ofString "UnknownName")))
  x_UnknownName : XC K (He.ga K (Str.ofString "UnknownName")) "LookupError.__new__" bm_KeyError
  i_UnknownName : InitAt K (Str.ofString "UnknownName") (Str.ofString "wanted") (ini 7 0) "KeyError" "KeyError.__init__"
  u_UnknownName : XfC K (He.ga K (Str.ofString "UnknownName"))
  n_UnknownName : PySem.W.findIn K (.ref (He.ga K (Str.ofString "UnknownName"))) (Str.ofString "wanted") = some none
  s_sub : SubOk K (glOf K cls) (subN cmat)
  a_is_integer : Addr
  d_is_integer : FuncData
  t_is_integer : DefAt K mg (Str.ofString "is_integer") (top 14) [] a_is_integer d_is_integer
  a_common_divisor : Addr
  d_common_divisor : FuncData
  t_common_divisor : DefAt K mg (Str.ofString "common_divisor") (top 16) [] a_common_divisor d_common_divisor
  a_is_number : Addr
  d_is_number : FuncData
  t_is_number : DefAt K mg (Str.ofString "is_number") (top 17) [] a_is_number d_is_number
  a_is_plain_row : Addr
  d_is_plain_row : FuncData
  t_is_plain_row : DefAt K mg (Str.ofString "is_plain_row") (top 22) [] a_is_plain_row d_is_plain_row
  a_is_plain_table : Addr
  d_is_plain_table : FuncData
  t_is_plain_table : DefAt K mg (Str.ofString "is_plain_table") (top 23) [] a_is_plain_table d_is_plain_table
  a_rest_row : Addr
  d_rest_row : FuncData
  t_rest_row : DefAt K mg (Str.ofString "rest_row") (top 24) [] a_rest_row d_rest_row
  a_reduced : Addr
  d_reduced : FuncData
  t_reduced : DefAt K mg (Str.ofString "reduced") (top 18) [] a_reduced d_reduced
  a_added : Addr
  d_added : FuncData
  t_added : DefAt K mg (Str.ofString "added") (top 19) [] a_added d_added
  a_sum_of_rows : Addr
  d_sum_of_rows : FuncData
  t_sum_of_rows : DefAt K mg (Str.ofString "sum_of_rows") (top 27) [] a_sum_of_rows d_sum_of_rows
  a_multiplied : Addr
  d_multiplied : FuncData
  t_multiplied : DefAt K mg (Str.ofString "multiplied") (top 20) [] a_multiplied d_multiplied
  a_times_row : Addr
  d_times_row : FuncData
  t_times_row : DefAt K mg (Str.ofString "times_row") (top 28) [] a_times_row d_times_row
  a_led_told : Addr
  d_led_told : FuncData
  t_led_told : DefAt K mg (Str.ofString "led_told") (top 31) [] a_led_told d_led_told
  a_table_behind : Addr
  d_table_behind : FuncData
  t_table_behind : DefAt K mg (Str.ofString "table_behind") (top 33) [] a_table_behind d_table_behind
  a_unit_row : Addr
  d_unit_row : FuncData
  t_unit_row : DefAt K mg (Str.ofString "unit_row") (top 25) [] a_unit_row d_unit_row
  a_unit_table : Addr
  d_unit_table : FuncData
  t_unit_table : DefAt K mg (Str.ofString "unit_table") (top 26) [] a_unit_table d_unit_table
  a_are_undone : Addr
  d_are_undone : FuncData
  t_are_undone : DefAt K mg (Str.ofString "are_undone") (top 41) [] a_are_undone d_are_undone
  a_require_undone : Addr
  d_require_undone : FuncData
  t_require_undone : DefAt K mg (Str.ofString "require_undone") (top 42) [] a_require_undone d_require_undone
  a_is_name : Addr
  d_is_name : FuncData
  t_is_name : DefAt K mg (Str.ofString "is_name") (top 15) [] a_is_name d_is_name
  a_are_names : Addr
  d_are_names : FuncData
  t_are_names : DefAt K mg (Str.ofString "are_names") (top 38) [] a_are_names d_are_names
  a_names_fault : Addr
  d_names_fault : FuncData
  t_names_fault : DefAt K mg (Str.ofString "names_fault") (top 39) [] a_names_fault d_names_fault
  a_works_fault : Addr
  d_works_fault : FuncData
  t_works_fault : DefAt K mg (Str.ofString "works_fault") (top 40) [] a_works_fault d_works_fault
  a_columns_of : Addr
  d_columns_of : FuncData
  t_columns_of : DefAt K mg (Str.ofString "columns_of") (top 32) [] a_columns_of d_columns_of
  d_Works___init__ : FuncData
  t_Works___init__ : MethAt K (Str.ofString "Works") (Str.ofString "__init__") (Str.ofString "Works.__init__") (ini 47 0) [] d_Works___init__
  d_Works_turned : FuncData
  t_Works_turned : MethAt K (Str.ofString "Works") (Str.ofString "turned") (Str.ofString "Works.turned") (ini 47 12) [] d_Works_turned
  a_require_standing : Addr
  d_require_standing : FuncData
  t_require_standing : DefAt K mg (Str.ofString "require_standing") (top 44) [] a_require_standing d_require_standing
  a_require_turn : Addr
  d_require_turn : FuncData
  t_require_turn : DefAt K mg (Str.ofString "require_turn") (top 45) [] a_require_turn d_require_turn
  a_product_of : Addr
  d_product_of : FuncData
  t_product_of : DefAt K mg (Str.ofString "product_of") (top 29) [] a_product_of d_product_of
  a_led_row : Addr
  d_led_row : FuncData
  t_led_row : DefAt K mg (Str.ofString "led_row") (top 30) [] a_led_row d_led_row
  a_next_of : Addr
  d_next_of : FuncData
  t_next_of : DefAt K mg (Str.ofString "next_of") (top 46) [] a_next_of d_next_of
  d_Works_next : FuncData
  t_Works_next : MethAt K (Str.ofString "Works") (Str.ofString "next") (Str.ofString "Works.next") (ini 47 8) [] d_Works_next
  a_require_hands : Addr
  d_require_hands : FuncData
  t_require_hands : DefAt K mg (Str.ofString "require_hands") (top 43) [] a_require_hands d_require_hands
  d_Works_without : FuncData
  t_Works_without : MethAt K (Str.ofString "Works") (Str.ofString "without") (Str.ofString "Works.without") (ini 47 9) [] d_Works_without
  a__law_dice : Addr
  d__law_dice : FuncData
  t__law_dice : DefAt K mg (Str.ofString "_law_dice") (top 49) [] a__law_dice d__law_dice
  d_Works_renamed : FuncData
  t_Works_renamed : MethAt K (Str.ofString "Works") (Str.ofString "renamed") (Str.ofString "Works.renamed") (ini 47 10) [] d_Works_renamed
  d_Works_recast : FuncData
  t_Works_recast : MethAt K (Str.ofString "Works") (Str.ofString "recast") (Str.ofString "Works.recast") (ini 47 11) [] d_Works_recast
  a__law_roll : Addr
  d__law_roll : FuncData
  t__law_roll : DefAt K mg (Str.ofString "_law_roll") (top 50) [] a__law_roll d__law_roll
  a__law_pick : Addr
  d__law_pick : FuncData
  t__law_pick : DefAt K mg (Str.ofString "_law_pick") (top 51) [] a__law_pick d__law_pick
  a__law_word : Addr
  d__law_word : FuncData
  t__law_word : DefAt K mg (Str.ofString "_law_word") (top 52) [] a__law_word d__law_word
  d_Works_places : FuncData
  t_Works_places : GetAt K (Str.ofString "Works") (Str.ofString "places") (Str.ofString "Works.places") (ini 47 1) d_Works_places
  b_Works_places : Binds K d_Works_places p_Works_places []
  d_Works_hands : FuncData
  t_Works_hands : GetAt K (Str.ofString "Works") (Str.ofString "hands") (Str.ofString "Works.hands") (ini 47 2) d_Works_hands
  b_Works_hands : Binds K d_Works_hands p_Works_hands []
  d_Works_table : FuncData
  t_Works_table : GetAt K (Str.ofString "Works") (Str.ofString "table") (Str.ofString "Works.table") (ini 47 3) d_Works_table
  b_Works_table : Binds K d_Works_table p_Works_table []
  a__law_right : Addr
  d__law_right : FuncData
  t__law_right : DefAt K mg (Str.ofString "_law_right") (top 53) [] a__law_right d__law_right
  c__law_right : d__law_right.code = .ref (He.codeOf K (Str.ofString "_law_right", none))
  a_law : Addr
  d_law : FuncData
  t_law : DefAt K mg (Str.ofString "law") (top 54) [] a_law d_law
  c_law : d_law.code = .ref (He.codeOf K (Str.ofString "law", none))
  b_Works___init___4 : ∃ ds, Vals ((([] : List D).map dvD).map (He.Dv.v K)) ds ∧ Binds K d_Works___init__ [Str.ofString "self", Str.ofString "places", Str.ofString "hands", Str.ofString "table"] ds
  b_Works_next_3 : ∃ ds, Vals ((([] : List D).map dvD).map (He.Dv.v K)) ds ∧ Binds K d_Works_next [Str.ofString "self", Str.ofString "standing", Str.ofString "turn"] ds
  b_Works_recast_3 : ∃ ds, Vals ((([] : List D).map dvD).map (He.Dv.v K)) ds ∧ Binds K d_Works_recast [Str.ofString "self", Str.ofString "table", Str.ofString "back"] ds
  b_Works_renamed_2 : ∃ ds, Vals ((([] : List D).map dvD).map (He.Dv.v K)) ds ∧ Binds K d_Works_renamed [Str.ofString "self", Str.ofString "names"] ds
  b_Works_turned_3 : ∃ ds, Vals ((([] : List D).map dvD).map (He.Dv.v K)) ds ∧ Binds K d_Works_turned [Str.ofString "self", Str.ofString "table", Str.ofString "back"] ds
  b_Works_without_2 : ∃ ds, Vals ((([] : List D).map dvD).map (He.Dv.v K)) ds ∧ Binds K d_Works_without [Str.ofString "self", Str.ofString "hands"] ds
  b__law_dice_2 : ∃ ds, Vals ((([] : List D).map dvD).map (He.Dv.v K)) ds ∧ Binds K d__law_dice [Str.ofString "script", Str.ofString "spot"] ds
  b__law_pick_2 : ∃ ds, Vals ((([] : List D).map dvD).map (He.Dv.v K)) ds ∧ Binds K d__law_pick [Str.ofString "dice", Str.ofString "things"] ds
  b__law_right_1 : ∃ ds, Vals ((([] : List D).map dvD).map (He.Dv.v K)) ds ∧ Binds K d__law_right [Str.ofString "dice"] ds
  b__law_roll_2 : ∃ ds, Vals ((([] : List D).map dvD).map (He.Dv.v K)) ds ∧ Binds K d__law_roll [Str.ofString "dice", Str.ofString "total"] ds
  b__law_word_1 : ∃ ds, Vals ((([] : List D).map dvD).map (He.Dv.v K)) ds ∧ Binds K d__law_word [Str.ofString "call"] ds
  b_added_2 : ∃ ds, Vals ((([] : List D).map dvD).map (He.Dv.v K)) ds ∧ Binds K d_added [Str.ofString "one", Str.ofString "other"] ds
  b_are_names_3 : ∃ ds, Vals ((([] : List D).map dvD).map (He.Dv.v K)) ds ∧ Binds K d_are_names [Str.ofString "value", Str.ofString "least", Str.ofString "most"] ds
  b_are_undone_3 : ∃ ds, Vals ((([] : List D).map dvD).map (He.Dv.v K)) ds ∧ Binds K d_are_undone [Str.ofString "width", Str.ofString "table", Str.ofString "back"] ds
  b_columns_of_2 : ∃ ds, Vals ((([] : List D).map dvD).map (He.Dv.v K)) ds ∧ Binds K d_columns_of [Str.ofString "table", Str.ofString "width"] ds
  b_common_divisor_2 : ∃ ds, Vals ((([] : List D).map dvD).map (He.Dv.v K)) ds ∧ Binds K d_common_divisor [Str.ofString "one", Str.ofString "other"] ds
  b_is_integer_1 : ∃ ds, Vals ((([] : List D).map dvD).map (He.Dv.v K)) ds ∧ Binds K d_is_integer [Str.ofString "value"] ds
  b_is_name_1 : ∃ ds, Vals ((([] : List D).map dvD).map (He.Dv.v K)) ds ∧ Binds K d_is_name [Str.ofString "value"] ds
  b_is_number_1 : ∃ ds, Vals ((([] : List D).map dvD).map (He.Dv.v K)) ds ∧ Binds K d_is_number [Str.ofString "value"] ds
  b_is_plain_row_2 : ∃ ds, Vals ((([] : List D).map dvD).map (He.Dv.v K)) ds ∧ Binds K d_is_plain_row [Str.ofString "width", Str.ofString "value"] ds
  b_is_plain_table_3 : ∃ ds, Vals ((([] : List D).map dvD).map (He.Dv.v K)) ds ∧ Binds K d_is_plain_table [Str.ofString "height", Str.ofString "width", Str.ofString "value"] ds
  b_led_row_2 : ∃ ds, Vals ((([] : List D).map dvD).map (He.Dv.v K)) ds ∧ Binds K d_led_row [Str.ofString "table", Str.ofString "row"] ds
  b_led_told_3 : ∃ ds, Vals ((([] : List D).map dvD).map (He.Dv.v K)) ds ∧ Binds K d_led_told [Str.ofString "width", Str.ofString "table", Str.ofString "told"] ds
  b_multiplied_2 : ∃ ds, Vals ((([] : List D).map dvD).map (He.Dv.v K)) ds ∧ Binds K d_multiplied [Str.ofString "one", Str.ofString "other"] ds
  b_names_fault_2 : ∃ ds, Vals ((([] : List D).map dvD).map (He.Dv.v K)) ds ∧ Binds K d_names_fault [Str.ofString "places", Str.ofString "hands"] ds
  b_next_of_3 : ∃ ds, Vals ((([] : List D).map dvD).map (He.Dv.v K)) ds ∧ Binds K d_next_of [Str.ofString "works", Str.ofString "standing", Str.ofString "turn"] ds
  b_product_of_2 : ∃ ds, Vals ((([] : List D).map dvD).map (He.Dv.v K)) ds ∧ Binds K d_product_of [Str.ofString "one", Str.ofString "other"] ds
  b_reduced_2 : ∃ ds, Vals ((([] : List D).map dvD).map (He.Dv.v K)) ds ∧ Binds K d_reduced [Str.ofString "top", Str.ofString "bottom"] ds
  b_require_hands_2 : ∃ ds, Vals ((([] : List D).map dvD).map (He.Dv.v K)) ds ∧ Binds K d_require_hands [Str.ofString "thing", Str.ofString "hands"] ds
  b_require_standing_2 : ∃ ds, Vals ((([] : List D).map dvD).map (He.Dv.v K)) ds ∧ Binds K d_require_standing [Str.ofString "thing", Str.ofString "row"] ds
  b_require_turn_2 : ∃ ds, Vals ((([] : List D).map dvD).map (He.Dv.v K)) ds ∧ Binds K d_require_turn [Str.ofString "thing", Str.ofString "row"] ds
  b_require_undone_3 : ∃ ds, Vals ((([] : List D).map dvD).map (He.Dv.v K)) ds ∧ Binds K d_require_undone [Str.ofString "width", Str.ofString "table", Str.ofString "back"] ds
  b_rest_row_1 : ∃ ds, Vals ((([] : List D).map dvD).map (He.Dv.v K)) ds ∧ Binds K d_rest_row [Str.ofString "width"] ds
  b_sum_of_rows_2 : ∃ ds, Vals ((([] : List D).map dvD).map (He.Dv.v K)) ds ∧ Binds K d_sum_of_rows [Str.ofString "one", Str.ofString "other"] ds
  b_table_behind_3 : ∃ ds, Vals ((([] : List D).map dvD).map (He.Dv.v K)) ds ∧ Binds K d_table_behind [Str.ofString "one", Str.ofString "other", Str.ofString "width"] ds
  b_times_row_2 : ∃ ds, Vals ((([] : List D).map dvD).map (He.Dv.v K)) ds ∧ Binds K d_times_row [Str.ofString "number", Str.ofString "row"] ds
  b_unit_row_2 : ∃ ds, Vals ((([] : List D).map dvD).map (He.Dv.v K)) ds ∧ Binds K d_unit_row [Str.ofString "width", Str.ofString "index"] ds
  b_unit_table_1 : ∃ ds, Vals ((([] : List D).map dvD).map (He.Dv.v K)) ds ∧ Binds K d_unit_table [Str.ofString "width"] ds
  b_works_fault_3 : ∃ ds, Vals ((([] : List D).map dvD).map (He.Dv.v K)) ds ∧ Binds K d_works_fault [Str.ofString "places", Str.ofString "hands", Str.ofString "table"] ds
section
variable {w : World} {K : PySem.W.Frag} {mg : Str → Option Value} {base : Heap}
theorem e_UnknownName (T : Facts K mg) : XK1 PW w K mg base 1 (He.ga K (Str.ofString "UnknownName")) (Str.ofString "wanted") (fun y H => ReprOk K y H) := by
  obtain ⟨ht, cc, F, e1, e2, e3, M⟩ := T.i_UnknownName.ex
  obtain ⟨nm, qn, pars, bdy, sc, cl, c⟩ := F
  dsimp only at e1 e2 e3
  subst e1 e2 e3
  refine xk_of G.excB_KeyError G.store_KeyError G.kxs_KeyError T.x_UnknownName M (.behind (Str.ofString " is not there") _ _ _ _ _ (by decide)) (show NScope _ _ _ (defScope (ini 7 0)) from nscope_by (by decide +kernel)) rfl rfl rfl ?_ rfl T.f_super ht ?_ ?_ ?_ ?_ (by decide) (by decide)
  · intro doc pm ct us hl
    match us, hl with
    | [_, _], _ => rfl
  · exact fun L => rfl
  · exact fun env => rfl
  · exact fun env => rfl
  · exact fun env => ⟨_, rfl⟩
abbrev n_is_integer : List Str := [Str.ofString "value"]
abbrev p_is_integer : List Str := [Str.ofString "value"]
theorem s_is_integer : FnScope n_is_integer p_is_integer (defScope (top 14)) := ⟨rfl, rfl, rfl, by decide +kernel, rfl, by decide +kernel, by decide +kernel⟩
def m_is_integer : Fn := fnD 1 (sRet (cAndV (cArgs (dIsiG pks) (cCons (cVar 0) (cCons (cC (.ty .int)) (cNil)))) (cNotV (cArgs (dIsiG pks) (cCons (cVar 0) (cCons (cC (.ty .bool)) (cNil)))))))
theorem o_is_integer (T : Facts K mg) (TK : TabK K mg base tfs) : FnG PW w K mg base (glOf K cls) (tbOf K tfs) 1 T.a_is_integer T.d_is_integer p_is_integer m_is_integer :=
  FnG.of T.t_is_integer.fn s_is_integer (fun cdv A outer s H E hot lam hr hgd => SB.one (SS.ret (SE.and (SE.callB call_isi (dIsiG_ok T.isi) rfl T.f_isinstance bb_isinstance (SA.cons (SE.var 0) (SA.cons (SE.bltn (n := .int) rfl T.f_int bt_int) (SA.nil)))) (SE.one (SE.not (SE.callB call_isi (dIsiG_ok T.isi) rfl T.f_isinstance bb_isinstance (SA.cons (SE.var 0) (SA.cons (SE.bltn (n := .bool) rfl T.f_bool bt_bool) (SA.nil)))))))))
abbrev n_common_divisor : List Str := [Str.ofString "one", Str.ofString "other"]
abbrev p_common_divisor : List Str := [Str.ofString "one", Str.ofString "other"]
theorem s_common_divisor : FnScope n_common_divisor p_common_divisor (defScope (top 16)) := ⟨rfl, rfl, rfl, by decide +kernel, rfl, by decide +kernel, by decide +kernel⟩
def m_common_divisor : Fn := fnD 2 (sSeq (sPar 0 1 (cCons (cArgs dAbs (cCons (cVar 0) (cNil))) (cCons (cArgs dAbs (cCons (cVar 1) (cNil))) (cNil)))) (sSeq (whileD (cB (cBin dGt (cVar 1) (cC (.int 0)))) (sPar 0 1 (cCons (cVar 1) (cCons (cBin dMod (cVar 0) (cVar 1)) (cNil)))) 100000) (sRet (cVar 0))))
theorem o_common_divisor (T : Facts K mg) (TK : TabK K mg base tfs) : FnG PW w K mg base (glOf K cls) (tbOf K tfs) 1 T.a_common_divisor T.d_common_divisor p_common_divisor m_common_divisor :=
  FnG.of T.t_common_divisor.fn s_common_divisor (fun cdv A outer s H E hot lam hr hgd => SB.cons (SS.par 0 1 s_common_divisor.nd rfl (SA.cons (SE.callB call_abs dAbs_ok rfl T.f_abs bb_abs (SA.cons (SE.var 0) (SA.nil))) (SA.cons (SE.callB call_abs dAbs_ok rfl T.f_abs bb_abs (SA.cons (SE.var 1) (SA.nil))) (SA.nil)))) (SB.cons (SS.while_ 100000 (passes_of rfl) (ST.cmp op_gtAll dGt_ok (SE.var 1) (SE.int) (nomark _)) (SB.one (SS.par 0 1 s_common_divisor.nd rfl (SA.cons (SE.var 1) (SA.cons (SE.op op_mod dMod_ok (SE.var 0) (SE.var 1)) (SA.nil)))))) (SB.one (SS.ret (SE.var 0)))))
abbrev n_is_number : List Str := [Str.ofString "value", Str.ofString "one"]
abbrev p_is_number : List Str := [Str.ofString "value"]
theorem s_is_number : FnScope n_is_number p_is_number (defScope (top 17)) := ⟨rfl, rfl, rfl, by decide +kernel, rfl, by decide +kernel, by decide +kernel⟩
def m_is_number : Fn := fnD 2 (sSeq (sIf (cOr (cNot (cTru (cArgs (dIsiG pks) (cCons (cVar 0) (cCons (cC (.ty .tuple)) (cNil)))))) (cOr (cB (cBin dNeV (cArgs dLen (cCons (cVar 0) (cNil))) (cC (.int 2)))) (cNot (cTru (cArgs dAll (cCons (cLc (cSeqI (cVar 0)) (gN 1) (tYesD) (cCall m_is_integer [] (cCons (cVar 1) (cNil))) [1]) (cNil))))))) (sRet (cC (.bl false))) (sNil)) (sRet (cAndV (cBin dGe (cBin dIx (cVar 0) (cC (.int 1))) (cC (.int 1))) (cBin dEqV (cCall m_common_divisor [] (cCons (cBin dIx (cVar 0) (cC (.int 0))) (cCons (cBin dIx (cVar 0) (cC (.int 1))) (cNil)))) (cC (.int 1))))))
theorem o_is_number (T : Facts K mg) (TK : TabK K mg base tfs) : FnG PW w K mg base (glOf K cls) (tbOf K tfs) 2 T.a_is_number T.d_is_number p_is_number m_is_number :=
  FnG.of T.t_is_number.fn s_is_number (fun cdv A outer s H E hot lam hr hgd => SB.cons (SS.if_ (ST.of (SW.or (ST.not (ST.tru rfl (SE.callB call_isi (dIsiG_ok T.isi) rfl T.f_isinstance bb_isinstance (SA.cons (SE.var 0) (SA.cons (SE.bltn (n := .tuple) rfl T.f_tuple bt_tuple) (SA.nil)))))) (SW.or (ST.cmp (op_neAll hr.units) dNeV_ok (SE.callB call_len dLen_ok rfl T.f_len bb_len (SA.cons (SE.var 0) (SA.nil))) (SE.int) (nomark _)) (SW.or1 (ST.not (ST.tru rfl (SE.callB (cr_all rfl) dAll_ok rfl T.f_all bb_all (SA.cons (SE.lc (own := [(Str.ofString "one", 1)]) (o1 := [1]) rfl s_is_number.nd (SI.seq rfl (SE.var 0)) (blkOk_by (by kernel_rfl)) (by decide) (fun _ _ _ _ _ _ => SG.name 1 s_is_number.nd) (fun _ _ _ _ _ _ => STs.nil) (fun _ _ _ _ _ _ => SE.fn (dd := []) (o_is_integer T TK) T.t_is_integer rfl (hr.mono (by decide)) hgd (T.b_is_integer_1) rfl (SA.cons (SE.var 1) (SA.nil)) rfl (cCons_len cNil_len))) (SA.nil))))))))) (SB.one (SS.ret (SE.bl))) (SB.nil)) (SB.one (SS.ret (SE.and (SE.cmp op_geAll dGe_ok (SE.ix rfl (SE.var 0) (SE.int)) (SE.int) (nomark _)) (SE.one (SE.cmp (op_eqAll hr.units) dEqV_ok (SE.fn (dd := []) (o_common_divisor T TK) T.t_common_divisor rfl (hr.mono (by decide)) hgd (T.b_common_divisor_2) rfl (SA.cons (SE.ix rfl (SE.var 0) (SE.int)) (SA.cons (SE.ix rfl (SE.var 0) (SE.int)) (SA.nil))) rfl (cCons_len (cCons_len cNil_len))) (SE.int) (nomark _)))))))
abbrev n_is_plain_row : List Str := [Str.ofString "width", Str.ofString "value", Str.ofString "one"]
abbrev p_is_plain_row : List Str := [Str.ofString "width", Str.ofString "value"]
theorem s_is_plain_row : FnScope n_is_plain_row p_is_plain_row (defScope (top 22)) := ⟨rfl, rfl, rfl, by decide +kernel, rfl, by decide +kernel, by decide +kernel⟩
def m_is_plain_row : Fn := fnD 3 (sRet (cAndV (cArgs (dIsiG pks) (cCons (cVar 1) (cCons (cC (.ty .tuple)) (cNil)))) (cAndV (cBin dEqV (cArgs dLen (cCons (cVar 1) (cNil))) (cVar 0)) (cArgs dAll (cCons (cLc (cSeqI (cVar 1)) (gN 2) (tYesD) (cCall m_is_number [] (cCons (cVar 2) (cNil))) [2]) (cNil))))))
theorem o_is_plain_row (T : Facts K mg) (TK : TabK K mg base tfs) : FnG PW w K mg base (glOf K cls) (tbOf K tfs) 3 T.a_is_plain_row T.d_is_plain_row p_is_plain_row m_is_plain_row :=
  FnG.of T.t_is_plain_row.fn s_is_plain_row (fun cdv A outer s H E hot lam hr hgd => SB.one (SS.ret (SE.and (SE.callB call_isi (dIsiG_ok T.isi) rfl T.f_isinstance bb_isinstance (SA.cons (SE.var 1) (SA.cons (SE.bltn (n := .tuple) rfl T.f_tuple bt_tuple) (SA.nil)))) (SE.and (SE.cmp (op_eqAll hr.units) dEqV_ok (SE.callB call_len dLen_ok rfl T.f_len bb_len (SA.cons (SE.var 1) (SA.nil))) (SE.var 0) (nomark _)) (SE.one (SE.callB (cr_all rfl) dAll_ok rfl T.f_all bb_all (SA.cons (SE.lc (own := [(Str.ofString "one", 2)]) (o1 := [2]) rfl s_is_plain_row.nd (SI.seq rfl (SE.var 1)) (blkOk_by (by kernel_rfl)) (by decide) (fun _ _ _ _ _ _ => SG.name 2 s_is_plain_row.nd) (fun _ _ _ _ _ _ => STs.nil) (fun _ _ _ _ _ _ => SE.fn (dd := []) (o_is_number T TK) T.t_is_number rfl (hr.mono (by decide)) hgd (T.b_is_number_1) rfl (SA.cons (SE.var 2) (SA.nil)) rfl (cCons_len cNil_len))) (SA.nil))))))))
abbrev n_is_plain_table : List Str := [Str.ofString "height", Str.ofString "width", Str.ofString "value", Str.ofString "row"]
abbrev p_is_plain_table : List Str := [Str.ofString "height", Str.ofString "width", Str.ofString "value"]
theorem s_is_plain_table : FnScope n_is_plain_table p_is_plain_table (defScope (top 23)) := ⟨rfl, rfl, rfl, by decide +kernel, rfl, by decide +kernel, by decide +kernel⟩
def m_is_plain_table : Fn := fnD 4 (sRet (cAndV (cArgs (dIsiG pks) (cCons (cVar 2) (cCons (cC (.ty .tuple)) (cNil)))) (cAndV (cBin dEqV (cArgs dLen (cCons (cVar 2) (cNil))) (cVar 0)) (cArgs dAll (cCons (cLc (cSeqI (cVar 2)) (gN 3) (tYesD) (cCall m_is_plain_row [] (cCons (cVar 1) (cCons (cVar 3) (cNil)))) [3]) (cNil))))))
theorem o_is_plain_table (T : Facts K mg) (TK : TabK K mg base tfs) : FnG PW w K mg base (glOf K cls) (tbOf K tfs) 4 T.a_is_plain_table T.d_is_plain_table p_is_plain_table m_is_plain_table :=
  FnG.of T.t_is_plain_table.fn s_is_plain_table (fun cdv A outer s H E hot lam hr hgd => SB.one (SS.ret (SE.and (SE.callB call_isi (dIsiG_ok T.isi) rfl T.f_isinstance bb_isinstance (SA.cons (SE.var 2) (SA.cons (SE.bltn (n := .tuple) rfl T.f_tuple bt_tuple) (SA.nil)))) (SE.and (SE.cmp (op_eqAll hr.units) dEqV_ok (SE.callB call_len dLen_ok rfl T.f_len bb_len (SA.cons (SE.var 2) (SA.nil))) (SE.var 0) (nomark _)) (SE.one (SE.callB (cr_all rfl) dAll_ok rfl T.f_all bb_all (SA.cons (SE.lc (own := [(Str.ofString "row", 3)]) (o1 := [3]) rfl s_is_plain_table.nd (SI.seq rfl (SE.var 2)) (blkOk_by (by kernel_rfl)) (by decide) (fun _ _ _ _ _ _ => SG.name 3 s_is_plain_table.nd) (fun _ _ _ _ _ _ => STs.nil) (fun _ _ _ _ _ _ => SE.fn (dd := []) (o_is_plain_row T TK) T.t_is_plain_row rfl (hr.mono (by decide)) hgd (T.b_is_plain_row_2) rfl (SA.cons (SE.var 1) (SA.cons (SE.var 3) (SA.nil))) rfl (cCons_len (cCons_len cNil_len)))) (SA.nil))))))))
abbrev n_rest_row : List Str := [Str.ofString "width"]
abbrev p_rest_row : List Str := [Str.ofString "width"]
theorem s_rest_row : FnScope n_rest_row p_rest_row (defScope (top 24)) := ⟨rfl, rfl, rfl, by decide +kernel, rfl, by decide +kernel, by decide +kernel⟩
def m_rest_row : Fn := fnD 1 (sRet (cBin dMulA (cTup (cCons (cC c_NOUGHT) (cNil))) (cVar 0)))
theorem o_rest_row (T : Facts K mg) (TK : TabK K mg base tfs) : FnG PW w K mg base (glOf K cls) (tbOf K tfs) 1 T.a_rest_row T.d_rest_row p_rest_row m_rest_row :=
  FnG.of T.t_rest_row.fn s_rest_row (fun cdv A outer s H E hot lam hr hgd => SB.one (SS.ret (SE.op op_mulAll dMulA_ok (SE.tup (SA.cons (SE.con T.k_NOUGHT rfl) (SA.nil))) (SE.var 0))))
abbrev n_reduced : List Str := [Str.ofString "top", Str.ofString "bottom", Str.ofString "divisor"]
abbrev p_reduced : List Str := [Str.ofString "top", Str.ofString "bottom"]
theorem s_reduced : FnScope n_reduced p_reduced (defScope (top 18)) := ⟨rfl, rfl, rfl, by decide +kernel, rfl, by decide +kernel, by decide +kernel⟩
def m_reduced : Fn := fnD 3 (sSeq (sIf (cB (cBin dLt (cVar 1) (cC (.int 0)))) (sPar 0 1 (cCons (cBin dSub (cC (.int 0)) (cVar 0)) (cCons (cBin dSub (cC (.int 0)) (cVar 1)) (cNil)))) (sNil)) (sSeq (sSet 2 (cCall m_common_divisor [] (cCons (cVar 0) (cCons (cVar 1) (cNil))))) (sRet (cTup (cCons (cBin dFdiv (cVar 0) (cVar 2)) (cCons (cBin dFdiv (cVar 1) (cVar 2)) (cNil)))))))
theorem o_reduced (T : Facts K mg) (TK : TabK K mg base tfs) : FnG PW w K mg base (glOf K cls) (tbOf K tfs) 2 T.a_reduced T.d_reduced p_reduced m_reduced :=
  FnG.of T.t_reduced.fn s_reduced (fun cdv A outer s H E hot lam hr hgd => SB.cons (SS.if_ (ST.cmp op_ltAll dLt_ok (SE.var 1) (SE.int) (nomark _)) (SB.one (SS.par 0 1 s_reduced.nd rfl (SA.cons (SE.op op_sub dSub_ok (SE.int) (SE.var 0)) (SA.cons (SE.op op_sub dSub_ok (SE.int) (SE.var 1)) (SA.nil))))) (SB.nil)) (SB.cons (SS.set 2 s_reduced.nd (SE.fn (dd := []) (o_common_divisor T TK) T.t_common_divisor rfl (hr.mono (by decide)) hgd (T.b_common_divisor_2) rfl (SA.cons (SE.var 0) (SA.cons (SE.var 1) (SA.nil))) rfl (cCons_len (cCons_len cNil_len)))) (SB.one (SS.ret (SE.tup (SA.cons (SE.op op_fdivW dFdiv_ok (SE.var 0) (SE.var 2)) (SA.cons (SE.op op_fdivW dFdiv_ok (SE.var 1) (SE.var 2)) (SA.nil))))))))
abbrev n_added : List Str := [Str.ofString "one", Str.ofString "other"]
abbrev p_added : List Str := [Str.ofString "one", Str.ofString "other"]
theorem s_added : FnScope n_added p_added (defScope (top 19)) := ⟨rfl, rfl, rfl, by decide +kernel, rfl, by decide +kernel, by decide +kernel⟩
def m_added : Fn := fnD 2 (sSeq (sIf (cB (cChain dEqV dEqV (cBin dIx (cVar 0) (cC (.int 1))) (cBin dIx (cVar 1) (cC (.int 1))) (cC (.int 1)))) (sRet (cTup (cCons (cBin dAdd (cBin dIx (cVar 0) (cC (.int 0))) (cBin dIx (cVar 1) (cC (.int 0)))) (cCons (cC (.int 1)) (cNil))))) (sNil)) (sRet (cCall m_reduced [] (cCons (cBin dAdd (cBin dMul (cBin dIx (cVar 0) (cC (.int 0))) (cBin dIx (cVar 1) (cC (.int 1)))) (cBin dMul (cBin dIx (cVar 1) (cC (.int 0))) (cBin dIx (cVar 0) (cC (.int 1))))) (cCons (cBin dMul (cBin dIx (cVar 0) (cC (.int 1))) (cBin dIx (cVar 1) (cC (.int 1)))) (cNil))))))
theorem o_added (T : Facts K mg) (TK : TabK K mg base tfs) : FnG PW w K mg base (glOf K cls) (tbOf K tfs) 3 T.a_added T.d_added p_added m_added :=
  FnG.of T.t_added.fn s_added (fun cdv A outer s H E hot lam hr hgd => SB.cons (SS.if_ (ST.chain (op_eqAll hr.units) (op_eqAll hr.units) dEqV_ok dEqV_ok (SE.ix rfl (SE.var 0) (SE.int)) (SE.ix rfl (SE.var 1) (SE.int)) (SE.int)) (SB.one (SS.ret (SE.tup (SA.cons (SE.op op_addAll dAdd_ok (SE.ix rfl (SE.var 0) (SE.int)) (SE.ix rfl (SE.var 1) (SE.int))) (SA.cons (SE.int) (SA.nil)))))) (SB.nil)) (SB.one (SS.ret (SE.fn (dd := []) (o_reduced T TK) T.t_reduced rfl (hr.mono (by decide)) hgd (T.b_reduced_2) rfl (SA.cons (SE.op op_addAll dAdd_ok (SE.op op_mulW dMul_ok (SE.ix rfl (SE.var 0) (SE.int)) (SE.ix rfl (SE.var 1) (SE.int))) (SE.op op_mulW dMul_ok (SE.ix rfl (SE.var 1) (SE.int)) (SE.ix rfl (SE.var 0) (SE.int)))) (SA.cons (SE.op op_mulW dMul_ok (SE.ix rfl (SE.var 0) (SE.int)) (SE.ix rfl (SE.var 1) (SE.int))) (SA.nil))) rfl (cCons_len (cCons_len cNil_len))))))
abbrev n_sum_of_rows : List Str := [Str.ofString "one", Str.ofString "other", Str.ofString "left", Str.ofString "right"]
abbrev p_sum_of_rows : List Str := [Str.ofString "one", Str.ofString "other"]
theorem s_sum_of_rows : FnScope n_sum_of_rows p_sum_of_rows (defScope (top 27)) := ⟨rfl, rfl, rfl, by decide +kernel, rfl, by decide +kernel, by decide +kernel⟩
def m_sum_of_rows : Fn := fnD 4 (sRet (cArgs dTuple (cCons (cLc (cZip (cCons (cVar 0) (cCons (cVar 1) (cNil)))) (gT (gConsD (gN 2) (gConsD (gN 3) (gNilD)))) (tYesD) (cCall m_added [] (cCons (cVar 2) (cCons (cVar 3) (cNil)))) [2, 3]) (cNil))))
theorem o_sum_of_rows (T : Facts K mg) (TK : TabK K mg base tfs) : FnG PW w K mg base (glOf K cls) (tbOf K tfs) 4 T.a_sum_of_rows T.d_sum_of_rows p_sum_of_rows m_sum_of_rows :=
  FnG.of T.t_sum_of_rows.fn s_sum_of_rows (fun cdv A outer s H E hot lam hr hgd => SB.one (SS.ret (SE.callTy call_tuple_of dTuple_ok rfl T.f_tuple bt_tuple (SA.cons (SE.lc (own := [(Str.ofString "left", 2), (Str.ofString "right", 3)]) (o1 := [2, 3]) rfl s_sum_of_rows.nd (SI.zip rfl rfl T.f_zip (SA.cons (SE.var 0) (SA.cons (SE.var 1) (SA.nil)))) (blkOk_by (by kernel_rfl)) (by decide) (fun _ _ _ _ _ _ => SG.tup rfl rfl (SGs.cons (SG.name 2 s_sum_of_rows.nd) (SGs.cons (SG.name 3 s_sum_of_rows.nd) (SGs.nil))) (gConsD_len (gConsD_len gNilD_len))) (fun _ _ _ _ _ _ => STs.nil) (fun _ _ _ _ _ _ => SE.fn (dd := []) (o_added T TK) T.t_added rfl (hr.mono (by decide)) hgd (T.b_added_2) rfl (SA.cons (SE.var 2) (SA.cons (SE.var 3) (SA.nil))) rfl (cCons_len (cCons_len cNil_len)))) (SA.nil)))))
abbrev n_multiplied : List Str := [Str.ofString "one", Str.ofString "other"]
abbrev p_multiplied : List Str := [Str.ofString "one", Str.ofString "other"]
theorem s_multiplied : FnScope n_multiplied p_multiplied (defScope (top 20)) := ⟨rfl, rfl, rfl, by decide +kernel, rfl, by decide +kernel, by decide +kernel⟩
def m_multiplied : Fn := fnD 2 (sSeq (sIf (cB (cChain dEqV dEqV (cBin dIx (cVar 0) (cC (.int 1))) (cBin dIx (cVar 1) (cC (.int 1))) (cC (.int 1)))) (sRet (cTup (cCons (cBin dMul (cBin dIx (cVar 0) (cC (.int 0))) (cBin dIx (cVar 1) (cC (.int 0)))) (cCons (cC (.int 1)) (cNil))))) (sNil)) (sRet (cCall m_reduced [] (cCons (cBin dMul (cBin dIx (cVar 0) (cC (.int 0))) (cBin dIx (cVar 1) (cC (.int 0)))) (cCons (cBin dMul (cBin dIx (cVar 0) (cC (.int 1))) (cBin dIx (cVar 1) (cC (.int 1)))) (cNil))))))
theorem o_multiplied (T : Facts K mg) (TK : TabK K mg base tfs) : FnG PW w K mg base (glOf K cls) (tbOf K tfs) 3 T.a_multiplied T.d_multiplied p_multiplied m_multiplied :=
  FnG.of T.t_multiplied.fn s_multiplied (fun cdv A outer s H E hot lam hr hgd => SB.cons (SS.if_ (ST.chain (op_eqAll hr.units) (op_eqAll hr.units) dEqV_ok dEqV_ok (SE.ix rfl (SE.var 0) (SE.int)) (SE.ix rfl (SE.var 1) (SE.int)) (SE.int)) (SB.one (SS.ret (SE.tup (SA.cons (SE.op op_mulW dMul_ok (SE.ix rfl (SE.var 0) (SE.int)) (SE.ix rfl (SE.var 1) (SE.int))) (SA.cons (SE.int) (SA.nil)))))) (SB.nil)) (SB.one (SS.ret (SE.fn (dd := []) (o_reduced T TK) T.t_reduced rfl (hr.mono (by decide)) hgd (T.b_reduced_2) rfl (SA.cons (SE.op op_mulW dMul_ok (SE.ix rfl (SE.var 0) (SE.int)) (SE.ix rfl (SE.var 1) (SE.int))) (SA.cons (SE.op op_mulW dMul_ok (SE.ix rfl (SE.var 0) (SE.int)) (SE.ix rfl (SE.var 1) (SE.int))) (SA.nil))) rfl (cCons_len (cCons_len cNil_len))))))
abbrev n_times_row : List Str := [Str.ofString "number", Str.ofString "row", Str.ofString "one"]
abbrev p_times_row : List Str := [Str.ofString "number", Str.ofString "row"]
theorem s_times_row : FnScope n_times_row p_times_row (defScope (top 28)) := ⟨rfl, rfl, rfl, by decide +kernel, rfl, by decide +kernel, by decide +kernel⟩
def m_times_row : Fn := fnD 3 (sRet (cArgs dTuple (cCons (cLc (cSeqI (cVar 1)) (gN 2) (tYesD) (cIf (cB (cBin dNeV (cVar 2) (cC c_NOUGHT))) (cCall m_multiplied [] (cCons (cVar 0) (cCons (cVar 2) (cNil)))) (cC c_NOUGHT)) [2]) (cNil))))
theorem o_times_row (T : Facts K mg) (TK : TabK K mg base tfs) : FnG PW w K mg base (glOf K cls) (tbOf K tfs) 4 T.a_times_row T.d_times_row p_times_row m_times_row :=
  FnG.of T.t_times_row.fn s_times_row (fun cdv A outer s H E hot lam hr hgd => SB.one (SS.ret (SE.callTy call_tuple_of dTuple_ok rfl T.f_tuple bt_tuple (SA.cons (SE.lc (own := [(Str.ofString "one", 2)]) (o1 := [2]) rfl s_times_row.nd (SI.seq rfl (SE.var 1)) (blkOk_by (by kernel_rfl)) (by decide) (fun _ _ _ _ _ _ => SG.name 2 s_times_row.nd) (fun _ _ _ _ _ _ => STs.nil) (fun _ _ _ _ _ _ => SE.ifExp (ST.cmp (op_neAll hr.units) dNeV_ok (SE.var 2) (SE.con T.k_NOUGHT rfl) (nomark _)) (SE.fn (dd := []) (o_multiplied T TK) T.t_multiplied rfl (hr.mono (by decide)) hgd (T.b_multiplied_2) rfl (SA.cons (SE.var 0) (SA.cons (SE.var 2) (SA.nil))) rfl (cCons_len (cCons_len cNil_len))) (SE.con T.k_NOUGHT rfl))) (SA.nil)))))
abbrev n_led_told : List Str := [Str.ofString "width", Str.ofString "table", Str.ofString "told", Str.ofString "found", Str.ofString "number", Str.ofString "line"]
abbrev p_led_told : List Str := [Str.ofString "width", Str.ofString "table", Str.ofString "told"]
theorem s_led_told : FnScope n_led_told p_led_told (defScope (top 31)) := ⟨rfl, rfl, rfl, by decide +kernel, rfl, by decide +kernel, by decide +kernel⟩
def m_led_told : Fn := fnD 6 (sSeq (sSet 3 (cCall m_rest_row [] (cCons (cVar 0) (cNil)))) (sSeq (sFor (cZip (cCons (cVar 2) (cCons (cVar 1) (cNil)))) (gT (gConsD (gN 4) (gConsD (gN 5) (gNilD)))) (sIf (cB (cBin dNeV (cVar 4) (cC c_NOUGHT))) (sSet 3 (cCall m_sum_of_rows [] (cCons (cVar 3) (cCons (cCall m_times_row [] (cCons (cVar 4) (cCons (cVar 5) (cNil)))) (cNil))))) (sNil))) (sRet (cVar 3))))
theorem o_led_told (T : Facts K mg) (TK : TabK K mg base tfs) : FnG PW w K mg base (glOf K cls) (tbOf K tfs) 5 T.a_led_told T.d_led_told p_led_told m_led_told :=
  FnG.of T.t_led_told.fn s_led_told (fun cdv A outer s H E hot lam hr hgd => SB.cons (SS.set 3 s_led_told.nd (SE.fn (dd := []) (o_rest_row T TK) T.t_rest_row rfl (hr.mono (by decide)) hgd (T.b_rest_row_1) rfl (SA.cons (SE.var 0) (SA.nil)) rfl (cCons_len cNil_len))) (SB.cons (SS.for_ (passes_of rfl) rfl (SI.zip rfl rfl T.f_zip (SA.cons (SE.var 2) (SA.cons (SE.var 1) (SA.nil)))) (SG.tup rfl rfl (SGs.cons (SG.name 4 s_led_told.nd) (SGs.cons (SG.name 5 s_led_told.nd) (SGs.nil))) (gConsD_len (gConsD_len gNilD_len))) (SB.one (SS.if_ (ST.cmp (op_neAll hr.units) dNeV_ok (SE.var 4) (SE.con T.k_NOUGHT rfl) (nomark _)) (SB.one (SS.set 3 s_led_told.nd (SE.fn (dd := []) (o_sum_of_rows T TK) T.t_sum_of_rows rfl (hr.mono (by decide)) hgd (T.b_sum_of_rows_2) rfl (SA.cons (SE.var 3) (SA.cons (SE.fn (dd := []) (o_times_row T TK) T.t_times_row rfl (hr.mono (by decide)) hgd (T.b_times_row_2) rfl (SA.cons (SE.var 4) (SA.cons (SE.var 5) (SA.nil))) rfl (cCons_len (cCons_len cNil_len))) (SA.nil))) rfl (cCons_len (cCons_len cNil_len))))) (SB.nil)))) (SB.one (SS.ret (SE.var 3)))))
abbrev n_table_behind : List Str := [Str.ofString "one", Str.ofString "other", Str.ofString "width", Str.ofString "line"]
abbrev p_table_behind : List Str := [Str.ofString "one", Str.ofString "other", Str.ofString "width"]
theorem s_table_behind : FnScope n_table_behind p_table_behind (defScope (top 33)) := ⟨rfl, rfl, rfl, by decide +kernel, rfl, by decide +kernel, by decide +kernel⟩
def m_table_behind : Fn := fnD 4 (sRet (cArgs dTuple (cCons (cLc (cSeqI (cVar 0)) (gN 3) (tYesD) (cCall m_led_told [] (cCons (cVar 2) (cCons (cVar 1) (cCons (cVar 3) (cNil))))) [3]) (cNil))))
theorem o_table_behind (T : Facts K mg) (TK : TabK K mg base tfs) : FnG PW w K mg base (glOf K cls) (tbOf K tfs) 6 T.a_table_behind T.d_table_behind p_table_behind m_table_behind :=
  FnG.of T.t_table_behind.fn s_table_behind (fun cdv A outer s H E hot lam hr hgd => SB.one (SS.ret (SE.callTy call_tuple_of dTuple_ok rfl T.f_tuple bt_tuple (SA.cons (SE.lc (own := [(Str.ofString "line", 3)]) (o1 := [3]) rfl s_table_behind.nd (SI.seq rfl (SE.var 0)) (blkOk_by (by kernel_rfl)) (by decide) (fun _ _ _ _ _ _ => SG.name 3 s_table_behind.nd) (fun _ _ _ _ _ _ => STs.nil) (fun _ _ _ _ _ _ => SE.fn (dd := []) (o_led_told T TK) T.t_led_told rfl (hr.mono (by decide)) hgd (T.b_led_told_3) rfl (SA.cons (SE.var 2) (SA.cons (SE.var 1) (SA.cons (SE.var 3) (SA.nil)))) rfl (cCons_len (cCons_len (cCons_len cNil_len))))) (SA.nil)))))
abbrev n_unit_row : List Str := [Str.ofString "width", Str.ofString "index", Str.ofString "place"]
abbrev p_unit_row : List Str := [Str.ofString "width", Str.ofString "index"]
theorem s_unit_row : FnScope n_unit_row p_unit_row (defScope (top 25)) := ⟨rfl, rfl, rfl, by decide +kernel, rfl, by decide +kernel, by decide +kernel⟩
def m_unit_row : Fn := fnD 3 (sRet (cArgs dTuple (cCons (cLc (cRng1 (cCons (cVar 0) (cNil))) (gN 2) (tYesD) (cIf (cB (cBin dEqV (cVar 2) (cVar 1))) (cC c_ONE) (cC c_NOUGHT)) [2]) (cNil))))
theorem o_unit_row (T : Facts K mg) (TK : TabK K mg base tfs) : FnG PW w K mg base (glOf K cls) (tbOf K tfs) 1 T.a_unit_row T.d_unit_row p_unit_row m_unit_row :=
  FnG.of T.t_unit_row.fn s_unit_row (fun cdv A outer s H E hot lam hr hgd => SB.one (SS.ret (SE.callTy call_tuple_of dTuple_ok rfl T.f_tuple bt_tuple (SA.cons (SE.lc (own := [(Str.ofString "place", 2)]) (o1 := [2]) rfl s_unit_row.nd (SI.range1 rfl T.f_range (SA.cons (SE.var 0) (SA.nil))) (blkOk_by (by kernel_rfl)) (by decide) (fun _ _ _ _ _ _ => SG.name 2 s_unit_row.nd) (fun _ _ _ _ _ _ => STs.nil) (fun _ _ _ _ _ _ => SE.ifExp (ST.cmp (op_eqAll hr.units) dEqV_ok (SE.var 2) (SE.var 1) (nomark _)) (SE.con T.k_ONE rfl) (SE.con T.k_NOUGHT rfl))) (SA.nil)))))
abbrev n_unit_table : List Str := [Str.ofString "width", Str.ofString "index"]
abbrev p_unit_table : List Str := [Str.ofString "width"]
theorem s_unit_table : FnScope n_unit_table p_unit_table (defScope (top 26)) := ⟨rfl, rfl, rfl, by decide +kernel, rfl, by decide +kernel, by decide +kernel⟩
def m_unit_table : Fn := fnD 2 (sRet (cArgs dTuple (cCons (cLc (cRng1 (cCons (cVar 0) (cNil))) (gN 1) (tYesD) (cCall m_unit_row [] (cCons (cVar 0) (cCons (cVar 1) (cNil)))) [1]) (cNil))))
theorem o_unit_table (T : Facts K mg) (TK : TabK K mg base tfs) : FnG PW w K mg base (glOf K cls) (tbOf K tfs) 2 T.a_unit_table T.d_unit_table p_unit_table m_unit_table :=
  FnG.of T.t_unit_table.fn s_unit_table (fun cdv A outer s H E hot lam hr hgd => SB.one (SS.ret (SE.callTy call_tuple_of dTuple_ok rfl T.f_tuple bt_tuple (SA.cons (SE.lc (own := [(Str.ofString "index", 1)]) (o1 := [1]) rfl s_unit_table.nd (SI.range1 rfl T.f_range (SA.cons (SE.var 0) (SA.nil))) (blkOk_by (by kernel_rfl)) (by decide) (fun _ _ _ _ _ _ => SG.name 1 s_unit_table.nd) (fun _ _ _ _ _ _ => STs.nil) (fun _ _ _ _ _ _ => SE.fn (dd := []) (o_unit_row T TK) T.t_unit_row rfl (hr.mono (by decide)) hgd (T.b_unit_row_2) rfl (SA.cons (SE.var 0) (SA.cons (SE.var 1) (SA.nil))) rfl (cCons_len (cCons_len cNil_len)))) (SA.nil)))))
abbrev n_are_undone : List Str := [Str.ofString "width", Str.ofString "table", Str.ofString "back"]
abbrev p_are_undone : List Str := [Str.ofString "width", Str.ofString "table", Str.ofString "back"]
theorem s_are_undone : FnScope n_are_undone p_are_undone (defScope (top 41)) := ⟨rfl, rfl, rfl, by decide +kernel, rfl, by decide +kernel, by decide +kernel⟩
def m_are_undone : Fn := fnD 3 (sRet (cBin dEqV (cCall m_table_behind [] (cCons (cVar 1) (cCons (cVar 2) (cCons (cVar 0) (cNil))))) (cCall m_unit_table [] (cCons (cVar 0) (cNil)))))
theorem o_are_undone (T : Facts K mg) (TK : TabK K mg base tfs) : FnG PW w K mg base (glOf K cls) (tbOf K tfs) 7 T.a_are_undone T.d_are_undone p_are_undone m_are_undone :=
  FnG.of T.t_are_undone.fn s_are_undone (fun cdv A outer s H E hot lam hr hgd => SB.one (SS.ret (SE.cmp (op_eqAll hr.units) dEqV_ok (SE.fn (dd := []) (o_table_behind T TK) T.t_table_behind rfl (hr.mono (by decide)) hgd (T.b_table_behind_3) rfl (SA.cons (SE.var 1) (SA.cons (SE.var 2) (SA.cons (SE.var 0) (SA.nil)))) rfl (cCons_len (cCons_len (cCons_len cNil_len)))) (SE.fn (dd := []) (o_unit_table T TK) T.t_unit_table rfl (hr.mono (by decide)) hgd (T.b_unit_table_1) rfl (SA.cons (SE.var 0) (SA.nil)) rfl (cCons_len cNil_len)) (nomark _))))
abbrev n_require_undone : List Str := [Str.ofString "width", Str.ofString "table", Str.ofString "back", Str.ofString "told"]
abbrev p_require_undone : List Str := [Str.ofString "width", Str.ofString "table", Str.ofString "back"]
theorem s_require_undone : FnScope n_require_undone p_require_undone (defScope (top 42)) := ⟨rfl, rfl, rfl, by decide +kernel, rfl, by decide +kernel, by decide +kernel⟩
def m_require_undone : Fn := fnD 4 (sSeq (sFor (cSeqI (cTup (cCons (cVar 1) (cCons (cVar 2) (cNil))))) (gN 3) (sIf (cNot (cTru (cCall m_is_plain_table [] (cCons (cVar 0) (cCons (cVar 0) (cCons (cVar 3) (cNil))))))) (sRaise 1) (sNil))) (sIf (cNot (cTru (cCall m_are_undone [] (cCons (cVar 0) (cCons (cVar 1) (cCons (cVar 2) (cNil))))))) (sRaise 2) (sNil)))
theorem o_require_undone (T : Facts K mg) (TK : TabK K mg base tfs) : FnG PW w K mg base (glOf K cls) (tbOf K tfs) 8 T.a_require_undone T.d_require_undone p_require_undone m_require_undone :=
  FnG.of T.t_require_undone.fn s_require_undone (fun cdv A outer s H E hot lam hr hgd => SB.cons (SS.for_ (passes_of rfl) rfl (SI.seq rfl (SE.tup (SA.cons (SE.var 1) (SA.cons (SE.var 2) (SA.nil))))) (SG.name 3 s_require_undone.nd) (SB.one (SS.if_ (ST.not (ST.tru rfl (SE.fn (dd := []) (o_is_plain_table T TK) T.t_is_plain_table rfl (hr.mono (by decide)) hgd (T.b_is_plain_table_3) rfl (SA.cons (SE.var 0) (SA.cons (SE.var 0) (SA.cons (SE.var 3) (SA.nil)))) rfl (cCons_len (cCons_len (cCons_len cNil_len)))))) (SB.one (SS.raiseP PySem.F.excBase_ValueError T.x_InvalidTable rfl rfl)) (SB.nil)))) (SB.one (SS.if_ (ST.not (ST.tru rfl (SE.fn (dd := []) (o_are_undone T TK) T.t_are_undone rfl (hr.mono (by decide)) hgd (T.b_are_undone_3) rfl (SA.cons (SE.var 0) (SA.cons (SE.var 1) (SA.cons (SE.var 2) (SA.nil)))) rfl (cCons_len (cCons_len (cCons_len cNil_len)))))) (SB.one (SS.raiseP PySem.F.excBase_ValueError T.x_InvalidOperation rfl rfl)) (SB.nil))))
abbrev n_is_name : List Str := [Str.ofString "value", Str.ofString "sign"]
abbrev p_is_name : List Str := [Str.ofString "value"]
theorem s_is_name : FnScope n_is_name p_is_name (defScope (top 15)) := ⟨rfl, rfl, rfl, by decide +kernel, rfl, by decide +kernel, by decide +kernel⟩
def m_is_name : Fn := fnD 2 (sSeq (sIf (cOr (cNot (cTru (cArgs (dIsiG pks) (cCons (cVar 0) (cCons (cC (.ty .str)) (cNil)))))) (cOr (cNot (cB (cChain dLe dLe (cC (.int 1)) (cArgs dLen (cCons (cVar 0) (cNil))) (cC c_MAX_LETTERS)))) (cB (cBin (dInA true) (cBin dIx (cVar 0) (cC (.int 0))) (cC c_LETTERS))))) (sRet (cC (.bl false))) (sNil)) (sRet (cArgs dAll (cCons (cLc (cSeqI (cVar 0)) (gN 1) (tYesD) (cBin (dInA false) (cVar 1) (cC c_SIGNS)) [1]) (cNil)))))
theorem o_is_name (T : Facts K mg) (TK : TabK K mg base tfs) : FnG PW w K mg base (glOf K cls) (tbOf K tfs) 1 T.a_is_name T.d_is_name p_is_name m_is_name :=
  FnG.of T.t_is_name.fn s_is_name (fun cdv A outer s H E hot lam hr hgd => SB.cons (SS.if_ (ST.of (SW.or (ST.not (ST.tru rfl (SE.callB call_isi (dIsiG_ok T.isi) rfl T.f_isinstance bb_isinstance (SA.cons (SE.var 0) (SA.cons (SE.bltn (n := .str) rfl T.f_str bt_str) (SA.nil)))))) (SW.or (ST.not (ST.chain op_leAll op_leAll dLe_ok dLe_ok (SE.int) (SE.callB call_len dLen_ok rfl T.f_len bb_len (SA.cons (SE.var 0) (SA.nil))) (SE.con T.k_MAX_LETTERS rfl))) (SW.or1 (ST.cmp op_notInAll dInA_ok (SE.ix rfl (SE.var 0) (SE.int)) (SE.con T.k_LETTERS rfl) (by rfl)))))) (SB.one (SS.ret (SE.bl))) (SB.nil)) (SB.one (SS.ret (SE.callB (cr_all rfl) dAll_ok rfl T.f_all bb_all (SA.cons (SE.lc (own := [(Str.ofString "sign", 1)]) (o1 := [1]) rfl s_is_name.nd (SI.seq rfl (SE.var 0)) (blkOk_by (by kernel_rfl)) (by decide) (fun _ _ _ _ _ _ => SG.name 1 s_is_name.nd) (fun _ _ _ _ _ _ => STs.nil) (fun _ _ _ _ _ _ => SE.cmp op_inAll dInA_ok (SE.var 1) (SE.con T.k_SIGNS rfl) (by rfl))) (SA.nil))))))
abbrev n_are_names : List Str := [Str.ofString "value", Str.ofString "least", Str.ofString "most", Str.ofString "name", Str.ofString "one", Str.ofString "other"]
abbrev p_are_names : List Str := [Str.ofString "value", Str.ofString "least", Str.ofString "most"]
theorem s_are_names : FnScope n_are_names p_are_names (defScope (top 38)) := ⟨rfl, rfl, rfl, by decide +kernel, rfl, by decide +kernel, by decide +kernel⟩
def m_are_names : Fn := fnD 6 (sSeq (sIf (cOr (cNot (cTru (cArgs (dIsiG pks) (cCons (cVar 0) (cCons (cC (.ty .tuple)) (cNil)))))) (cOr (cNot (cB (cChain dLe dLe (cVar 1) (cArgs dLen (cCons (cVar 0) (cNil))) (cVar 2)))) (cNot (cTru (cArgs dAll (cCons (cLc (cSeqI (cVar 0)) (gN 3) (tYesD) (cCall m_is_name [] (cCons (cVar 3) (cNil))) [3]) (cNil))))))) (sRet (cC (.bl false))) (sNil)) (sRet (cArgs dAll (cCons (cLc (cZip (cCons (cVar 0) (cCons (cSl (cVar 0) (cPart (cC (.int 1))) (cNoP)) (cNil)))) (gT (gConsD (gN 4) (gConsD (gN 5) (gNilD)))) (tYesD) (cBin dLt (cVar 4) (cVar 5)) [4, 5]) (cNil)))))
theorem o_are_names (T : Facts K mg) (TK : TabK K mg base tfs) : FnG PW w K mg base (glOf K cls) (tbOf K tfs) 2 T.a_are_names T.d_are_names p_are_names m_are_names :=
  FnG.of T.t_are_names.fn s_are_names (fun cdv A outer s H E hot lam hr hgd => SB.cons (SS.if_ (ST.of (SW.or (ST.not (ST.tru rfl (SE.callB call_isi (dIsiG_ok T.isi) rfl T.f_isinstance bb_isinstance (SA.cons (SE.var 0) (SA.cons (SE.bltn (n := .tuple) rfl T.f_tuple bt_tuple) (SA.nil)))))) (SW.or (ST.not (ST.chain op_leAll op_leAll dLe_ok dLe_ok (SE.var 1) (SE.callB call_len dLen_ok rfl T.f_len bb_len (SA.cons (SE.var 0) (SA.nil))) (SE.var 2))) (SW.or1 (ST.not (ST.tru rfl (SE.callB (cr_all rfl) dAll_ok rfl T.f_all bb_all (SA.cons (SE.lc (own := [(Str.ofString "name", 3)]) (o1 := [3]) rfl s_are_names.nd (SI.seq rfl (SE.var 0)) (blkOk_by (by kernel_rfl)) (by decide) (fun _ _ _ _ _ _ => SG.name 3 s_are_names.nd) (fun _ _ _ _ _ _ => STs.nil) (fun _ _ _ _ _ _ => SE.fn (dd := []) (o_is_name T TK) T.t_is_name rfl (hr.mono (by decide)) hgd (T.b_is_name_1) rfl (SA.cons (SE.var 3) (SA.nil)) rfl (cCons_len cNil_len))) (SA.nil))))))))) (SB.one (SS.ret (SE.bl))) (SB.nil)) (SB.one (SS.ret (SE.callB (cr_all rfl) dAll_ok rfl T.f_all bb_all (SA.cons (SE.lc (own := [(Str.ofString "one", 4), (Str.ofString "other", 5)]) (o1 := [4, 5]) rfl s_are_names.nd (SI.zip rfl rfl T.f_zip (SA.cons (SE.var 0) (SA.cons (SE.slice rfl (SE.var 0) (SO_.part (SE.int)) (SO_.no)) (SA.nil)))) (blkOk_by (by kernel_rfl)) (by decide) (fun _ _ _ _ _ _ => SG.tup rfl rfl (SGs.cons (SG.name 4 s_are_names.nd) (SGs.cons (SG.name 5 s_are_names.nd) (SGs.nil))) (gConsD_len (gConsD_len gNilD_len))) (fun _ _ _ _ _ _ => STs.nil) (fun _ _ _ _ _ _ => SE.cmp op_ltAll dLt_ok (SE.var 4) (SE.var 5) (nomark _))) (SA.nil))))))
abbrev n_names_fault : List Str := [Str.ofString "places", Str.ofString "hands", Str.ofString "both", Str.ofString "name"]
abbrev p_names_fault : List Str := [Str.ofString "places", Str.ofString "hands"]
theorem s_names_fault : FnScope n_names_fault p_names_fault (defScope (top 39)) := ⟨rfl, rfl, rfl, by decide +kernel, rfl, by decide +kernel, by decide +kernel⟩
def m_names_fault : Fn := fnD 4 (sSeq (sIf (cNot (cTru (cCall m_are_names [] (cCons (cVar 0) (cCons (cC (.int 1)) (cCons (cC c_MAX_PLACES) (cNil))))))) (sRet (cTup (cCons (cC (.str [112, 108, 97, 99, 101, 115])) (cNil)))) (sNil)) (sSeq (sIf (cNot (cTru (cCall m_are_names [] (cCons (cVar 1) (cCons (cC (.int 0)) (cCons (cC c_MAX_HANDS) (cNil))))))) (sRet (cTup (cCons (cC (.str [104, 97, 110, 100, 115])) (cNil)))) (sNil)) (sSeq (sSet 2 (cLc (cSeqI (cVar 0)) (gN 3) (cB (cBin (dInA false) (cVar 3) (cVar 1))) (cVar 3) [3])) (sRet (cIf (cB (cBin dEqV (cVar 2) (cLst (cNil)))) (cC .non) (cTup (cCons (cC (.str [116, 119, 105, 99, 101])) (cCons (cBin dIx (cVar 2) (cC (.int 0))) (cNil)))))))))
theorem o_names_fault (T : Facts K mg) (TK : TabK K mg base tfs) : FnG PW w K mg base (glOf K cls) (tbOf K tfs) 3 T.a_names_fault T.d_names_fault p_names_fault m_names_fault :=
  FnG.of T.t_names_fault.fn s_names_fault (fun cdv A outer s H E hot lam hr hgd => SB.cons (SS.if_ (ST.not (ST.tru rfl (SE.fn (dd := []) (o_are_names T TK) T.t_are_names rfl (hr.mono (by decide)) hgd (T.b_are_names_3) rfl (SA.cons (SE.var 0) (SA.cons (SE.int) (SA.cons (SE.con T.k_MAX_PLACES rfl) (SA.nil)))) rfl (cCons_len (cCons_len (cCons_len cNil_len)))))) (SB.one (SS.ret (SE.tup (SA.cons (SE.str (by decide +kernel)) (SA.nil))))) (SB.nil)) (SB.cons (SS.if_ (ST.not (ST.tru rfl (SE.fn (dd := []) (o_are_names T TK) T.t_are_names rfl (hr.mono (by decide)) hgd (T.b_are_names_3) rfl (SA.cons (SE.var 1) (SA.cons (SE.int) (SA.cons (SE.con T.k_MAX_HANDS rfl) (SA.nil)))) rfl (cCons_len (cCons_len (cCons_len cNil_len)))))) (SB.one (SS.ret (SE.tup (SA.cons (SE.str (by decide +kernel)) (SA.nil))))) (SB.nil)) (SB.cons (SS.setLc 2 (own := [(Str.ofString "name", 3)]) (o1 := [3]) rfl s_names_fault.nd (SI.seq rfl (SE.var 0)) (blkOk_by (by kernel_rfl)) (by decide) (fun _ _ _ _ _ _ => SG.name 3 s_names_fault.nd) (fun _ _ _ _ _ _ => STs.one (ST.cmp op_inAll dInA_ok (SE.var 3) (SE.var 1) (by rfl))) (fun _ _ _ _ _ _ => SE.var 3) (sw_true rfl rfl rfl (by decide +kernel))) (SB.one (SS.ret (SE.ifExp (ST.cmp (op_eqAll hr.units) dEqV_ok (SE.var 2) (SE.lst (SA.nil)) (nomark _)) (SE.non) (SE.tup (SA.cons (SE.str (by decide +kernel)) (SA.cons (SE.ix rfl (SE.var 2) (SE.int)) (SA.nil))))))))))
abbrev n_works_fault : List Str := [Str.ofString "places", Str.ofString "hands", Str.ofString "table", Str.ofString "fault"]
abbrev p_works_fault : List Str := [Str.ofString "places", Str.ofString "hands", Str.ofString "table"]
theorem s_works_fault : FnScope n_works_fault p_works_fault (defScope (top 40)) := ⟨rfl, rfl, rfl, by decide +kernel, rfl, by decide +kernel, by decide +kernel⟩
def m_works_fault : Fn := fnD 4 (sSeq (sSet 3 (cCall m_names_fault [] (cCons (cVar 0) (cCons (cVar 1) (cNil))))) (sSeq (sIf (cB (cBin dNotN (cVar 3) (cC .non))) (sRet (cVar 3)) (sNil)) (sRet (cIf (cTru (cCall m_is_plain_table [] (cCons (cArgs dLen (cCons (cVar 0) (cNil))) (cCons (cBin dAdd (cArgs dLen (cCons (cVar 0) (cNil))) (cArgs dLen (cCons (cVar 1) (cNil)))) (cCons (cVar 2) (cNil)))))) (cC .non) (cTup (cCons (cC (.str [116, 97, 98, 108, 101])) (cNil)))))))
theorem o_works_fault (T : Facts K mg) (TK : TabK K mg base tfs) : FnG PW w K mg base (glOf K cls) (tbOf K tfs) 5 T.a_works_fault T.d_works_fault p_works_fault m_works_fault :=
  FnG.of T.t_works_fault.fn s_works_fault (fun cdv A outer s H E hot lam hr hgd => SB.cons (SS.set 3 s_works_fault.nd (SE.fn (dd := []) (o_names_fault T TK) T.t_names_fault rfl (hr.mono (by decide)) hgd (T.b_names_fault_2) rfl (SA.cons (SE.var 0) (SA.cons (SE.var 1) (SA.nil))) rfl (cCons_len (cCons_len cNil_len)))) (SB.cons (SS.if_ (ST.cmp op_notN dNotN_ok (SE.var 3) (SE.non) (nomark _)) (SB.one (SS.ret (SE.var 3))) (SB.nil)) (SB.one (SS.ret (SE.ifExp (ST.tru rfl (SE.fn (dd := []) (o_is_plain_table T TK) T.t_is_plain_table rfl (hr.mono (by decide)) hgd (T.b_is_plain_table_3) rfl (SA.cons (SE.callB call_len dLen_ok rfl T.f_len bb_len (SA.cons (SE.var 0) (SA.nil))) (SA.cons (SE.op op_addAll dAdd_ok (SE.callB call_len dLen_ok rfl T.f_len bb_len (SA.cons (SE.var 0) (SA.nil))) (SE.callB call_len dLen_ok rfl T.f_len bb_len (SA.cons (SE.var 1) (SA.nil)))) (SA.cons (SE.var 2) (SA.nil)))) rfl (cCons_len (cCons_len (cCons_len cNil_len))))) (SE.non) (SE.tup (SA.cons (SE.str (by decide +kernel)) (SA.nil))))))))
abbrev n_columns_of : List Str := [Str.ofString "table", Str.ofString "width", Str.ofString "index", Str.ofString "line"]
abbrev p_columns_of : List Str := [Str.ofString "table", Str.ofString "width"]
theorem s_columns_of : FnScope n_columns_of p_columns_of (defScope (top 32)) := ⟨rfl, rfl, rfl, by decide +kernel, rfl, by decide +kernel, by decide +kernel⟩
def m_columns_of : Fn := fnD 4 (sRet (cArgs dTuple (cCons (cLc (cRng1 (cCons (cVar 1) (cNil))) (gN 2) (tYesD) (cArgs dTuple (cCons (cLc (cSeqI (cVar 0)) (gN 3) (tYesD) (cBin dIx (cVar 3) (cVar 2)) [3]) (cNil))) [2]) (cNil))))
theorem o_columns_of (T : Facts K mg) (TK : TabK K mg base tfs) : FnG PW w K mg base (glOf K cls) (tbOf K tfs) 1 T.a_columns_of T.d_columns_of p_columns_of m_columns_of :=
  FnG.of T.t_columns_of.fn s_columns_of (fun cdv A outer s H E hot lam hr hgd => SB.one (SS.ret (SE.callTy call_tuple_of dTuple_ok rfl T.f_tuple bt_tuple (SA.cons (SE.lc (own := [(Str.ofString "index", 2)]) (o1 := [2]) rfl s_columns_of.nd (SI.range1 rfl T.f_range (SA.cons (SE.var 1) (SA.nil))) (blkOk_by (by kernel_rfl)) (by decide) (fun _ _ _ _ _ _ => SG.name 2 s_columns_of.nd) (fun _ _ _ _ _ _ => STs.nil) (fun _ _ _ _ _ _ => SE.callTy call_tuple_of dTuple_ok rfl T.f_tuple bt_tuple (SA.cons (SE.lc (own := [(Str.ofString "line", 3)]) (o1 := [3]) rfl s_columns_of.nd (SI.seq rfl (SE.var 0)) (blkOk_by (by kernel_rfl)) (by decide) (fun _ _ _ _ _ _ => SG.name 3 s_columns_of.nd) (fun _ _ _ _ _ _ => STs.nil) (fun _ _ _ _ _ _ => SE.ix rfl (SE.var 3) (SE.var 2))) (SA.nil)))) (SA.nil)))))
abbrev n_Works___init__ : List Str := [Str.ofString "self", Str.ofString "places", Str.ofString "hands", Str.ofString "table", Str.ofString "fault", Str.ofString "row"]
abbrev p_Works___init__ : List Str := [Str.ofString "self", Str.ofString "places", Str.ofString "hands", Str.ofString "table"]
theorem s_Works___init__ : FnScope n_Works___init__ p_Works___init__ (defScope (ini 47 0)) := ⟨rfl, rfl, rfl, by decide +kernel, rfl, by decide +kernel, by decide +kernel⟩
def m_Works___init__ : Fn := fnD 6 (sSeq (sSet 4 (cCall m_works_fault [] (cCons (cVar 1) (cCons (cVar 2) (cCons (cVar 3) (cNil)))))) (sSeq (sIf (cB (cBin dNotN (cVar 4) (cC .non))) (sRaiseE 3 (cBad)) (sNil)) (sSeq (sFldsS [0] [Str.ofString "own_places", Str.ofString "own_hands", Str.ofString "own_table"] (cTup (cCons (cVar 1) (cCons (cVar 2) (cCons (cVar 3) (cNil))))) (cVar 0)) (sSeq (sFldsS [0] [Str.ofString "own_width", Str.ofString "own_wide"] (cTup (cCons (cArgs dLen (cCons (cVar 1) (cNil))) (cCons (cBin dAdd (cArgs dLen (cCons (cVar 1) (cNil))) (cArgs dLen (cCons (cVar 2) (cNil)))) (cNil)))) (cVar 0)) (sSeq (sFldS [0] (Str.ofString "own_free") (cArgs dTuple (cCons (cLc (cSeqI (cVar 3)) (gN 5) (tYesD) (cSl (cVar 5) (cNoP) (cPart (cArgs dLen (cCons (cVar 1) (cNil))))) [5]) (cNil))) (cVar 0)) (sFldS [0] (Str.ofString "own_columns") (cCall m_columns_of [] (cCons (cLc (cSeqI (cVar 3)) (gN 5) (tYesD) (cSl (cVar 5) (cPart (cArgs dLen (cCons (cVar 1) (cNil)))) (cNoP)) [5]) (cCons (cArgs dLen (cCons (cVar 2) (cNil))) (cNil)))) (cVar 0)))))))
theorem o_Works___init__ (T : Facts K mg) (TK : TabK K mg base tfs) : FnG PW w K mg base (glOf K cls) (tbOf K tfs) 6 (He.ma K (He.ga K (Str.ofString "Works")) (Str.ofString "__init__")) T.d_Works___init__ p_Works___init__ m_Works___init__ :=
  FnG.of T.t_Works___init__.fn s_Works___init__ (fun cdv A outer s H E hot lam hr hgd => SB.cons (SS.set 4 s_Works___init__.nd (SE.fn (dd := []) (o_works_fault T TK) T.t_works_fault rfl (hr.mono (by decide)) hgd (T.b_works_fault_3) rfl (SA.cons (SE.var 1) (SA.cons (SE.var 2) (SA.cons (SE.var 3) (SA.nil)))) rfl (cCons_len (cCons_len (cCons_len cNil_len))))) (SB.cons (SS.if_ (ST.cmp op_notN dNotN_ok (SE.var 4) (SE.non) (nomark _)) (SB.one (SS.raisePE PySem.F.excBase_ValueError T.x_InvalidWorks rfl rfl (SE.never))) (SB.nil)) (SB.cons (SS.flds (o := .Name (Str.ofString "self") ⟨0, 0, 0, 0⟩) rfl rfl (SE.tup (SA.cons (SE.var 1) (SA.cons (SE.var 2) (SA.cons (SE.var 3) (SA.nil))))) (.cons (.cons rfl T.c_Works T.na_Works_own_places (.nil)) (SE.var 0) rfl (.cons (.cons rfl T.c_Works T.na_Works_own_hands (.nil)) (SE.var 0) rfl (.cons (.cons rfl T.c_Works T.na_Works_own_table (.nil)) (SE.var 0) rfl (.nil))))) (SB.cons (SS.flds (o := .Name (Str.ofString "self") ⟨0, 0, 0, 0⟩) rfl rfl (SE.tup (SA.cons (SE.callB call_len dLen_ok rfl T.f_len bb_len (SA.cons (SE.var 1) (SA.nil))) (SA.cons (SE.op op_addAll dAdd_ok (SE.callB call_len dLen_ok rfl T.f_len bb_len (SA.cons (SE.var 1) (SA.nil))) (SE.callB call_len dLen_ok rfl T.f_len bb_len (SA.cons (SE.var 2) (SA.nil)))) (SA.nil)))) (.cons (.cons rfl T.c_Works T.na_Works_own_width (.nil)) (SE.var 0) rfl (.cons (.cons rfl T.c_Works T.na_Works_own_wide (.nil)) (SE.var 0) rfl (.nil)))) (SB.cons (SS.fld1 (.cons rfl T.c_Works T.na_Works_own_free (.nil)) (SE.var 0) (SE.callTy call_tuple_of dTuple_ok rfl T.f_tuple bt_tuple (SA.cons (SE.lc (own := [(Str.ofString "row", 5)]) (o1 := [5]) rfl s_Works___init__.nd (SI.seq rfl (SE.var 3)) (blkOk_by (by kernel_rfl)) (by decide) (fun _ _ _ _ _ _ => SG.name 5 s_Works___init__.nd) (fun _ _ _ _ _ _ => STs.nil) (fun _ _ _ _ _ _ => SE.slice rfl (SE.var 5) (SO_.no) (SO_.part (SE.callB call_len dLen_ok rfl T.f_len bb_len (SA.cons (SE.var 1) (SA.nil)))))) (SA.nil)))) (SB.one (SS.fld1 (.cons rfl T.c_Works T.na_Works_own_columns (.nil)) (SE.var 0) (SE.fn (dd := []) (o_columns_of T TK) T.t_columns_of rfl (hr.mono (by decide)) hgd (T.b_columns_of_2) rfl (SA.cons (SE.lc (own := [(Str.ofString "row", 5)]) (o1 := [5]) rfl s_Works___init__.nd (SI.seq rfl (SE.var 3)) (blkOk_by (by kernel_rfl)) (by decide) (fun _ _ _ _ _ _ => SG.name 5 s_Works___init__.nd) (fun _ _ _ _ _ _ => STs.nil) (fun _ _ _ _ _ _ => SE.slice rfl (SE.var 5) (SO_.part (SE.callB call_len dLen_ok rfl T.f_len bb_len (SA.cons (SE.var 1) (SA.nil)))) (SO_.no))) (SA.cons (SE.callB call_len dLen_ok rfl T.f_len bb_len (SA.cons (SE.var 2) (SA.nil))) (SA.nil))) rfl (cCons_len (cCons_len cNil_len))))))))))
abbrev n_Works_turned : List Str := [Str.ofString "self", Str.ofString "table", Str.ofString "back", Str.ofString "many", Str.ofString "told", Str.ofString "rows", Str.ofString "row", Str.ofString "free"]
abbrev p_Works_turned : List Str := [Str.ofString "self", Str.ofString "table", Str.ofString "back"]
theorem s_Works_turned : FnScope n_Works_turned p_Works_turned (defScope (ini 47 12)) := ⟨rfl, rfl, rfl, by decide +kernel, rfl, by decide +kernel, by decide +kernel⟩
def m_Works_turned : Fn := gvD (fnD 8 (sSeq (sSet 3 (cArgs dLen (cCons (cFld [0] (Str.ofString "own_hands") (cVar 0)) (cNil)))) (sSeq (sExp (cCall m_require_undone [] (cCons (cVar 3) (cCons (cVar 1) (cCons (cVar 2) (cNil)))))) (sSeq (sSet 4 (cCall m_table_behind [] (cCons (cArgs dTuple (cCons (cLc (cSeqI (cFld [0] (Str.ofString "own_table") (cVar 0))) (gN 6) (tYesD) (cSl (cVar 6) (cPart (cFld [0] (Str.ofString "own_width") (cVar 0))) (cNoP)) [6]) (cNil))) (cCons (cVar 1) (cCons (cVar 3) (cNil)))))) (sSeq (sSet 5 (cLc (cZip (cCons (cFld [0] (Str.ofString "own_free") (cVar 0)) (cCons (cVar 4) (cNil)))) (gT (gConsD (gN 7) (gConsD (gN 6) (gNilD)))) (tYesD) (cBin dAdd (cVar 7) (cVar 6)) [7, 6])) (sRet (cMake 0 m_Works___init__ [] (cCons (cFld [0] (Str.ofString "own_places") (cVar 0)) (cCons (cFld [0] (Str.ofString "own_hands") (cVar 0)) (cCons (cArgs dTuple (cCons (cVar 5) (cNil))) (cNil)))))))))))
theorem o_Works_turned (T : Facts K mg) (TK : TabK K mg base tfs) : FnG PW w K mg base (glOf K cls) (tbOf K tfs) 9 (He.ma K (He.ga K (Str.ofString "Works")) (Str.ofString "turned")) T.d_Works_turned p_Works_turned m_Works_turned :=
  FnG.give (FnG.of T.t_Works_turned.fn s_Works_turned (fun cdv A outer s H E hot lam hr hgd => SB.cons (SS.set 3 s_Works_turned.nd (SE.callB call_len dLen_ok rfl T.f_len bb_len (SA.cons (SE.fld rfl (.cons rfl T.c_Works T.na_Works_own_hands (.nil)) (SE.var 0)) (SA.nil)))) (SB.cons (SS.expr (SE.fn (dd := []) (o_require_undone T TK) T.t_require_undone rfl (hr.mono (by decide)) hgd (T.b_require_undone_3) rfl (SA.cons (SE.var 3) (SA.cons (SE.var 1) (SA.cons (SE.var 2) (SA.nil)))) rfl (cCons_len (cCons_len (cCons_len cNil_len))))) (SB.cons (SS.set 4 s_Works_turned.nd (SE.fn (dd := []) (o_table_behind T TK) T.t_table_behind rfl (hr.mono (by decide)) hgd (T.b_table_behind_3) rfl (SA.cons (SE.callTy call_tuple_of dTuple_ok rfl T.f_tuple bt_tuple (SA.cons (SE.lc (own := [(Str.ofString "row", 6)]) (o1 := [6]) rfl s_Works_turned.nd (SI.seq rfl (SE.fld rfl (.cons rfl T.c_Works T.na_Works_own_table (.nil)) (SE.var 0))) (blkOk_by (by kernel_rfl)) (by decide) (fun _ _ _ _ _ _ => SG.name 6 s_Works_turned.nd) (fun _ _ _ _ _ _ => STs.nil) (fun _ _ _ _ _ _ => SE.slice rfl (SE.var 6) (SO_.part (SE.fld rfl (.cons rfl T.c_Works T.na_Works_own_width (.nil)) (SE.var 0))) (SO_.no))) (SA.nil))) (SA.cons (SE.var 1) (SA.cons (SE.var 3) (SA.nil)))) rfl (cCons_len (cCons_len (cCons_len cNil_len))))) (SB.cons (SS.setLc 5 (own := [(Str.ofString "free", 7), (Str.ofString "row", 6)]) (o1 := [7, 6]) rfl s_Works_turned.nd (SI.zip rfl rfl T.f_zip (SA.cons (SE.fld rfl (.cons rfl T.c_Works T.na_Works_own_free (.nil)) (SE.var 0)) (SA.cons (SE.var 4) (SA.nil)))) (blkOk_by (by kernel_rfl)) (by decide) (fun _ _ _ _ _ _ => SG.tup rfl rfl (SGs.cons (SG.name 7 s_Works_turned.nd) (SGs.cons (SG.name 6 s_Works_turned.nd) (SGs.nil))) (gConsD_len (gConsD_len gNilD_len))) (fun _ _ _ _ _ _ => STs.nil) (fun _ _ _ _ _ _ => SE.op op_addAll dAdd_ok (SE.var 7) (SE.var 6)) (sw_true rfl rfl rfl (by decide +kernel))) (SB.one (SS.ret (SE.make (dd := []) T.t_Works___init__ T.mk_Works T.g_Works rfl (o_Works___init__ T TK) rfl (hr.mono (by decide)) hgd T.b_Works___init___4 rfl (SA.cons (SE.fld rfl (.cons rfl T.c_Works T.na_Works_own_places (.nil)) (SE.var 0)) (SA.cons (SE.fld rfl (.cons rfl T.c_Works T.na_Works_own_hands (.nil)) (SE.var 0)) (SA.cons (SE.callTy call_tuple_of dTuple_ok rfl T.f_tuple bt_tuple (SA.cons (SE.var 5) (SA.nil))) (SA.nil)))) rfl (cCons_len (cCons_len (cCons_len cNil_len)))))))))))
def l_law_0 : LT := lamAt (defBody (top 54)) [2] 0 [0, 1]
abbrev nl_law_0 : List Str := [Str.ofString "none"]
def g_law_0 : Ev := cMeth (Str.ofString "turned") [(0, m_Works_turned, [])] (cVar 0) (cCons (cTup (cNil)) (cCons (cTup (cNil)) (cNil)))
theorem k_law_0 (T : Facts K mg) (TK : TabK K mg base tfs) : LamOk PW w K mg base (glOf K cls) (tbOf K tfs) 10 (lq (Str.ofString "law")) l_law_0.params l_law_0.body l_law_0.scope nl_law_0 g_law_0 :=
  ⟨nscope_by (by decide +kernel), fun _ _ _ _ => rfl, fun cells c a A outer s H E hot lam hr hgd => SE.meth rfl hgd (SE.var 0) (.cons (MethAt.row (dd := []) T.t_Works_turned rfl T.c_Works T.mt_Works_turned (o_Works_turned T TK) (hr.mono (by decide)) rfl T.b_Works_turned_3 rfl rfl) (.nil)) (SA.cons (SE.tup (SA.nil)) (SA.cons (SE.tup (SA.nil)) (SA.nil))) (cCons_len (cCons_len cNil_len))⟩
abbrev n_require_standing : List Str := [Str.ofString "thing", Str.ofString "row"]
abbrev p_require_standing : List Str := [Str.ofString "thing", Str.ofString "row"]
theorem s_require_standing : FnScope n_require_standing p_require_standing (defScope (top 44)) := ⟨rfl, rfl, rfl, by decide +kernel, rfl, by decide +kernel, by decide +kernel⟩
def m_require_standing : Fn := fnD 2 (sIf (cNot (cTru (cCall m_is_plain_row [] (cCons (cFld [0] (Str.ofString "own_width") (cVar 0)) (cCons (cVar 1) (cNil)))))) (sRaise 4) (sNil))
theorem o_require_standing (T : Facts K mg) (TK : TabK K mg base tfs) : FnG PW w K mg base (glOf K cls) (tbOf K tfs) 4 T.a_require_standing T.d_require_standing p_require_standing m_require_standing :=
  FnG.of T.t_require_standing.fn s_require_standing (fun cdv A outer s H E hot lam hr hgd => SB.one (SS.if_ (ST.not (ST.tru rfl (SE.fn (dd := []) (o_is_plain_row T TK) T.t_is_plain_row rfl (hr.mono (by decide)) hgd (T.b_is_plain_row_2) rfl (SA.cons (SE.fld rfl (.cons rfl T.c_Works T.na_Works_own_width (.nil)) (SE.var 0)) (SA.cons (SE.var 1) (SA.nil))) rfl (cCons_len (cCons_len cNil_len))))) (SB.one (SS.raiseP PySem.F.excBase_ValueError T.x_InvalidRow rfl rfl)) (SB.nil)))
abbrev n_require_turn : List Str := [Str.ofString "thing", Str.ofString "row"]
abbrev p_require_turn : List Str := [Str.ofString "thing", Str.ofString "row"]
theorem s_require_turn : FnScope n_require_turn p_require_turn (defScope (top 45)) := ⟨rfl, rfl, rfl, by decide +kernel, rfl, by decide +kernel, by decide +kernel⟩
def m_require_turn : Fn := fnD 2 (sIf (cNot (cTru (cCall m_is_plain_row [] (cCons (cArgs dLen (cCons (cFld [0] (Str.ofString "own_hands") (cVar 0)) (cNil))) (cCons (cVar 1) (cNil)))))) (sRaise 4) (sNil))
theorem o_require_turn (T : Facts K mg) (TK : TabK K mg base tfs) : FnG PW w K mg base (glOf K cls) (tbOf K tfs) 4 T.a_require_turn T.d_require_turn p_require_turn m_require_turn :=
  FnG.of T.t_require_turn.fn s_require_turn (fun cdv A outer s H E hot lam hr hgd => SB.one (SS.if_ (ST.not (ST.tru rfl (SE.fn (dd := []) (o_is_plain_row T TK) T.t_is_plain_row rfl (hr.mono (by decide)) hgd (T.b_is_plain_row_2) rfl (SA.cons (SE.callB call_len dLen_ok rfl T.f_len bb_len (SA.cons (SE.fld rfl (.cons rfl T.c_Works T.na_Works_own_hands (.nil)) (SE.var 0)) (SA.nil))) (SA.cons (SE.var 1) (SA.nil))) rfl (cCons_len (cCons_len cNil_len))))) (SB.one (SS.raiseP PySem.F.excBase_ValueError T.x_InvalidRow rfl rfl)) (SB.nil)))
abbrev n_product_of : List Str := [Str.ofString "one", Str.ofString "other", Str.ofString "found", Str.ofString "left", Str.ofString "right"]
abbrev p_product_of : List Str := [Str.ofString "one", Str.ofString "other"]
theorem s_product_of : FnScope n_product_of p_product_of (defScope (top 29)) := ⟨rfl, rfl, rfl, by decide +kernel, rfl, by decide +kernel, by decide +kernel⟩
def m_product_of : Fn := fnD 5 (sSeq (sSet 2 (cC c_NOUGHT)) (sSeq (sFor (cZip (cCons (cVar 0) (cCons (cVar 1) (cNil)))) (gT (gConsD (gN 3) (gConsD (gN 4) (gNilD)))) (sIf (cAnd (cB (cBin dNeV (cVar 3) (cC c_NOUGHT))) (cB (cBin dNeV (cVar 4) (cC c_NOUGHT)))) (sSet 2 (cCall m_added [] (cCons (cVar 2) (cCons (cCall m_multiplied [] (cCons (cVar 3) (cCons (cVar 4) (cNil)))) (cNil))))) (sNil))) (sRet (cVar 2))))
theorem o_product_of (T : Facts K mg) (TK : TabK K mg base tfs) : FnG PW w K mg base (glOf K cls) (tbOf K tfs) 4 T.a_product_of T.d_product_of p_product_of m_product_of :=
  FnG.of T.t_product_of.fn s_product_of (fun cdv A outer s H E hot lam hr hgd => SB.cons (SS.set 2 s_product_of.nd (SE.con T.k_NOUGHT rfl)) (SB.cons (SS.for_ (passes_of rfl) rfl (SI.zip rfl rfl T.f_zip (SA.cons (SE.var 0) (SA.cons (SE.var 1) (SA.nil)))) (SG.tup rfl rfl (SGs.cons (SG.name 3 s_product_of.nd) (SGs.cons (SG.name 4 s_product_of.nd) (SGs.nil))) (gConsD_len (gConsD_len gNilD_len))) (SB.one (SS.if_ (ST.of (SW.and (ST.cmp (op_neAll hr.units) dNeV_ok (SE.var 3) (SE.con T.k_NOUGHT rfl) (nomark _)) (SW.and1 (ST.cmp (op_neAll hr.units) dNeV_ok (SE.var 4) (SE.con T.k_NOUGHT rfl) (nomark _))))) (SB.one (SS.set 2 s_product_of.nd (SE.fn (dd := []) (o_added T TK) T.t_added rfl (hr.mono (by decide)) hgd (T.b_added_2) rfl (SA.cons (SE.var 2) (SA.cons (SE.fn (dd := []) (o_multiplied T TK) T.t_multiplied rfl (hr.mono (by decide)) hgd (T.b_multiplied_2) rfl (SA.cons (SE.var 3) (SA.cons (SE.var 4) (SA.nil))) rfl (cCons_len (cCons_len cNil_len))) (SA.nil))) rfl (cCons_len (cCons_len cNil_len))))) (SB.nil)))) (SB.one (SS.ret (SE.var 2)))))
abbrev n_led_row : List Str := [Str.ofString "table", Str.ofString "row", Str.ofString "line"]
abbrev p_led_row : List Str := [Str.ofString "table", Str.ofString "row"]
theorem s_led_row : FnScope n_led_row p_led_row (defScope (top 30)) := ⟨rfl, rfl, rfl, by decide +kernel, rfl, by decide +kernel, by decide +kernel⟩
def m_led_row : Fn := fnD 3 (sRet (cArgs dTuple (cCons (cLc (cSeqI (cVar 0)) (gN 2) (tYesD) (cCall m_product_of [] (cCons (cVar 1) (cCons (cVar 2) (cNil)))) [2]) (cNil))))
theorem o_led_row (T : Facts K mg) (TK : TabK K mg base tfs) : FnG PW w K mg base (glOf K cls) (tbOf K tfs) 5 T.a_led_row T.d_led_row p_led_row m_led_row :=
  FnG.of T.t_led_row.fn s_led_row (fun cdv A outer s H E hot lam hr hgd => SB.one (SS.ret (SE.callTy call_tuple_of dTuple_ok rfl T.f_tuple bt_tuple (SA.cons (SE.lc (own := [(Str.ofString "line", 2)]) (o1 := [2]) rfl s_led_row.nd (SI.seq rfl (SE.var 0)) (blkOk_by (by kernel_rfl)) (by decide) (fun _ _ _ _ _ _ => SG.name 2 s_led_row.nd) (fun _ _ _ _ _ _ => STs.nil) (fun _ _ _ _ _ _ => SE.fn (dd := []) (o_product_of T TK) T.t_product_of rfl (hr.mono (by decide)) hgd (T.b_product_of_2) rfl (SA.cons (SE.var 1) (SA.cons (SE.var 2) (SA.nil))) rfl (cCons_len (cCons_len cNil_len)))) (SA.nil)))))
abbrev n_next_of : List Str := [Str.ofString "works", Str.ofString "standing", Str.ofString "turn"]
abbrev p_next_of : List Str := [Str.ofString "works", Str.ofString "standing", Str.ofString "turn"]
theorem s_next_of : FnScope n_next_of p_next_of (defScope (top 46)) := ⟨rfl, rfl, rfl, by decide +kernel, rfl, by decide +kernel, by decide +kernel⟩
def m_next_of : Fn := fnD 3 (sRet (cCall m_led_row [] (cCons (cFld [0] (Str.ofString "own_table") (cVar 0)) (cCons (cBin dAdd (cVar 1) (cVar 2)) (cNil)))))
theorem o_next_of (T : Facts K mg) (TK : TabK K mg base tfs) : FnG PW w K mg base (glOf K cls) (tbOf K tfs) 6 T.a_next_of T.d_next_of p_next_of m_next_of :=
  FnG.of T.t_next_of.fn s_next_of (fun cdv A outer s H E hot lam hr hgd => SB.one (SS.ret (SE.fn (dd := []) (o_led_row T TK) T.t_led_row rfl (hr.mono (by decide)) hgd (T.b_led_row_2) rfl (SA.cons (SE.fld rfl (.cons rfl T.c_Works T.na_Works_own_table (.nil)) (SE.var 0)) (SA.cons (SE.op op_addAll dAdd_ok (SE.var 1) (SE.var 2)) (SA.nil))) rfl (cCons_len (cCons_len cNil_len)))))
abbrev n_Works_next : List Str := [Str.ofString "self", Str.ofString "standing", Str.ofString "turn"]
abbrev p_Works_next : List Str := [Str.ofString "self", Str.ofString "standing", Str.ofString "turn"]
theorem s_Works_next : FnScope n_Works_next p_Works_next (defScope (ini 47 8)) := ⟨rfl, rfl, rfl, by decide +kernel, rfl, by decide +kernel, by decide +kernel⟩
def m_Works_next : Fn := fnD 3 (sSeq (sExp (cCall m_require_standing [] (cCons (cVar 0) (cCons (cVar 1) (cNil))))) (sSeq (sExp (cCall m_require_turn [] (cCons (cVar 0) (cCons (cVar 2) (cNil))))) (sRet (cCall m_next_of [] (cCons (cVar 0) (cCons (cVar 1) (cCons (cVar 2) (cNil))))))))
theorem o_Works_next (T : Facts K mg) (TK : TabK K mg base tfs) : FnG PW w K mg base (glOf K cls) (tbOf K tfs) 7 (He.ma K (He.ga K (Str.ofString "Works")) (Str.ofString "next")) T.d_Works_next p_Works_next m_Works_next :=
  FnG.of T.t_Works_next.fn s_Works_next (fun cdv A outer s H E hot lam hr hgd => SB.cons (SS.expr (SE.fn (dd := []) (o_require_standing T TK) T.t_require_standing rfl (hr.mono (by decide)) hgd (T.b_require_standing_2) rfl (SA.cons (SE.var 0) (SA.cons (SE.var 1) (SA.nil))) rfl (cCons_len (cCons_len cNil_len)))) (SB.cons (SS.expr (SE.fn (dd := []) (o_require_turn T TK) T.t_require_turn rfl (hr.mono (by decide)) hgd (T.b_require_turn_2) rfl (SA.cons (SE.var 0) (SA.cons (SE.var 2) (SA.nil))) rfl (cCons_len (cCons_len cNil_len)))) (SB.one (SS.ret (SE.fn (dd := []) (o_next_of T TK) T.t_next_of rfl (hr.mono (by decide)) hgd (T.b_next_of_3) rfl (SA.cons (SE.var 0) (SA.cons (SE.var 1) (SA.cons (SE.var 2) (SA.nil)))) rfl (cCons_len (cCons_len (cCons_len cNil_len))))))))
def l_law_1 : LT := lamAt (defBody (top 54)) [2] 0 [1, 1]
abbrev nl_law_1 : List Str := [Str.ofString "none"]
def g_law_1 : Ev := cMeth (Str.ofString "next") [(0, m_Works_next, [])] (cVar 0) (cCons (cTup (cCons (cTup (cCons (cC (.int 1)) (cCons (cC (.int 1)) (cNil)))) (cNil))) (cCons (cTup (cNil)) (cNil)))
theorem k_law_1 (T : Facts K mg) (TK : TabK K mg base tfs) : LamOk PW w K mg base (glOf K cls) (tbOf K tfs) 8 (lq (Str.ofString "law")) l_law_1.params l_law_1.body l_law_1.scope nl_law_1 g_law_1 :=
  ⟨nscope_by (by decide +kernel), fun _ _ _ _ => rfl, fun cells c a A outer s H E hot lam hr hgd => SE.meth rfl hgd (SE.var 0) (.cons (MethAt.row (dd := []) T.t_Works_next rfl T.c_Works T.mt_Works_next (o_Works_next T TK) (hr.mono (by decide)) rfl T.b_Works_next_3 rfl rfl) (.nil)) (SA.cons (SE.tup (SA.cons (SE.tup (SA.cons (SE.int) (SA.cons (SE.int) (SA.nil)))) (SA.nil))) (SA.cons (SE.tup (SA.nil)) (SA.nil))) (cCons_len (cCons_len cNil_len))⟩
abbrev n_require_hands : List Str := [Str.ofString "thing", Str.ofString "hands", Str.ofString "name"]
abbrev p_require_hands : List Str := [Str.ofString "thing", Str.ofString "hands"]
theorem s_require_hands : FnScope n_require_hands p_require_hands (defScope (top 43)) := ⟨rfl, rfl, rfl, by decide +kernel, rfl, by decide +kernel, by decide +kernel⟩
def m_require_hands : Fn := fnD 3 (sSeq (sIf (cNot (cTru (cCall m_are_names [] (cCons (cVar 1) (cCons (cC (.int 0)) (cCons (cC c_MAX_TOLD) (cNil))))))) (sRaise 2) (sNil)) (sFor (cSeqI (cVar 1)) (gN 2) (sIf (cB (cBin (dInA true) (cVar 2) (cFld [0] (Str.ofString "own_hands") (cVar 0)))) (sRaiseX 5 (Str.ofString "wanted") okRepr (cVar 2)) (sNil))))
theorem o_require_hands (T : Facts K mg) (TK : TabK K mg base tfs) : FnG PW w K mg base (glOf K cls) (tbOf K tfs) 4 T.a_require_hands T.d_require_hands p_require_hands m_require_hands :=
  FnG.of T.t_require_hands.fn s_require_hands (fun cdv A outer s H E hot lam hr hgd => SB.cons (SS.if_ (ST.not (ST.tru rfl (SE.fn (dd := []) (o_are_names T TK) T.t_are_names rfl (hr.mono (by decide)) hgd (T.b_are_names_3) rfl (SA.cons (SE.var 1) (SA.cons (SE.int) (SA.cons (SE.con T.k_MAX_TOLD rfl) (SA.nil)))) rfl (cCons_len (cCons_len (cCons_len cNil_len)))))) (SB.one (SS.raiseP PySem.F.excBase_ValueError T.x_InvalidOperation rfl rfl)) (SB.nil)) (SB.one (SS.for_ (passes_of rfl) rfl (SI.seq rfl (SE.var 1)) (SG.name 2 s_require_hands.nd) (SB.one (SS.if_ (ST.cmp op_notInAll dInA_ok (SE.var 2) (SE.fld rfl (.cons rfl T.c_Works T.na_Works_own_hands (.nil)) (SE.var 0)) (by rfl)) (SB.one (SS.raiseX (e_UnknownName T) rfl gives_repr rfl (hr.mono (by decide)) hgd T.g_UnknownName (SE.var 2))) (SB.nil))))))
abbrev n_Works_without : List Str := [Str.ofString "self", Str.ofString "hands", Str.ofString "kept", Str.ofString "left", Str.ofString "rows", Str.ofString "index", Str.ofString "name", Str.ofString "free", Str.ofString "row"]
abbrev p_Works_without : List Str := [Str.ofString "self", Str.ofString "hands"]
theorem s_Works_without : FnScope n_Works_without p_Works_without (defScope (ini 47 9)) := ⟨rfl, rfl, rfl, by decide +kernel, rfl, by decide +kernel, by decide +kernel⟩
def m_Works_without : Fn := gvD (fnD 9 (sSeq (sExp (cCall m_require_hands [] (cCons (cVar 0) (cCons (cVar 1) (cNil))))) (sSeq (sSet 2 (cLc (cEnumA (cCons (cFld [0] (Str.ofString "own_hands") (cVar 0)) (cNil))) (gT (gConsD (gN 5) (gConsD (gN 6) (gNilD)))) (cB (cBin (dInA true) (cVar 6) (cVar 1))) (cVar 5) [5, 6])) (sSeq (sSet 3 (cArgs dTuple (cCons (cLc (cSeqI (cVar 2)) (gN 5) (tYesD) (cBin dIx (cFld [0] (Str.ofString "own_hands") (cVar 0)) (cVar 5)) [5]) (cNil)))) (sSeq (sSet 4 (cLc (cZip (cCons (cFld [0] (Str.ofString "own_free") (cVar 0)) (cCons (cFld [0] (Str.ofString "own_table") (cVar 0)) (cNil)))) (gT (gConsD (gN 7) (gConsD (gN 8) (gNilD)))) (tYesD) (cBin dAdd (cVar 7) (cArgs dTuple (cCons (cLc (cSeqI (cVar 2)) (gN 5) (tYesD) (cBin dIx (cVar 8) (cBin dAdd (cFld [0] (Str.ofString "own_width") (cVar 0)) (cVar 5))) [5]) (cNil)))) [7, 8])) (sRet (cMake 0 m_Works___init__ [] (cCons (cFld [0] (Str.ofString "own_places") (cVar 0)) (cCons (cVar 3) (cCons (cArgs dTuple (cCons (cVar 4) (cNil))) (cNil)))))))))))
theorem o_Works_without (T : Facts K mg) (TK : TabK K mg base tfs) : FnG PW w K mg base (glOf K cls) (tbOf K tfs) 8 (He.ma K (He.ga K (Str.ofString "Works")) (Str.ofString "without")) T.d_Works_without p_Works_without m_Works_without :=
  FnG.give (FnG.of T.t_Works_without.fn s_Works_without (fun cdv A outer s H E hot lam hr hgd => SB.cons (SS.expr (SE.fn (dd := []) (o_require_hands T TK) T.t_require_hands rfl (hr.mono (by decide)) hgd (T.b_require_hands_2) rfl (SA.cons (SE.var 0) (SA.cons (SE.var 1) (SA.nil))) rfl (cCons_len (cCons_len cNil_len)))) (SB.cons (SS.set 2 s_Works_without.nd (SE.lc (own := [(Str.ofString "index", 5), (Str.ofString "name", 6)]) (o1 := [5, 6]) rfl s_Works_without.nd (SI.enumA rfl rfl T.f_enumerate (SA.cons (SE.fld rfl (.cons rfl T.c_Works T.na_Works_own_hands (.nil)) (SE.var 0)) (SA.nil))) (blkOk_by (by kernel_rfl)) (by decide) (fun _ _ _ _ _ _ => SG.tup rfl rfl (SGs.cons (SG.name 5 s_Works_without.nd) (SGs.cons (SG.name 6 s_Works_without.nd) (SGs.nil))) (gConsD_len (gConsD_len gNilD_len))) (fun _ _ _ _ _ _ => STs.one (ST.cmp op_notInAll dInA_ok (SE.var 6) (SE.var 1) (by rfl))) (fun _ _ _ _ _ _ => SE.var 5))) (SB.cons (SS.set 3 s_Works_without.nd (SE.callTy call_tuple_of dTuple_ok rfl T.f_tuple bt_tuple (SA.cons (SE.lc (own := [(Str.ofString "index", 5)]) (o1 := [5]) rfl s_Works_without.nd (SI.seq rfl (SE.var 2)) (blkOk_by (by kernel_rfl)) (by decide) (fun _ _ _ _ _ _ => SG.name 5 s_Works_without.nd) (fun _ _ _ _ _ _ => STs.nil) (fun _ _ _ _ _ _ => SE.ix rfl (SE.fld rfl (.cons rfl T.c_Works T.na_Works_own_hands (.nil)) (SE.var 0)) (SE.var 5))) (SA.nil)))) (SB.cons (SS.setLc 4 (own := [(Str.ofString "free", 7), (Str.ofString "row", 8)]) (o1 := [7, 8]) rfl s_Works_without.nd (SI.zip rfl rfl T.f_zip (SA.cons (SE.fld rfl (.cons rfl T.c_Works T.na_Works_own_free (.nil)) (SE.var 0)) (SA.cons (SE.fld rfl (.cons rfl T.c_Works T.na_Works_own_table (.nil)) (SE.var 0)) (SA.nil)))) (blkOk_by (by kernel_rfl)) (by decide) (fun _ _ _ _ _ _ => SG.tup rfl rfl (SGs.cons (SG.name 7 s_Works_without.nd) (SGs.cons (SG.name 8 s_Works_without.nd) (SGs.nil))) (gConsD_len (gConsD_len gNilD_len))) (fun _ _ _ _ _ _ => STs.nil) (fun _ _ _ _ _ _ => SE.op op_addAll dAdd_ok (SE.var 7) (SE.callTy call_tuple_of dTuple_ok rfl T.f_tuple bt_tuple (SA.cons (SE.lc (own := [(Str.ofString "index", 5)]) (o1 := [5]) rfl s_Works_without.nd (SI.seq rfl (SE.var 2)) (blkOk_by (by kernel_rfl)) (by decide) (fun _ _ _ _ _ _ => SG.name 5 s_Works_without.nd) (fun _ _ _ _ _ _ => STs.nil) (fun _ _ _ _ _ _ => SE.ix rfl (SE.var 8) (SE.op op_addAll dAdd_ok (SE.fld rfl (.cons rfl T.c_Works T.na_Works_own_width (.nil)) (SE.var 0)) (SE.var 5)))) (SA.nil)))) (sw_true rfl rfl rfl (by decide +kernel))) (SB.one (SS.ret (SE.make (dd := []) T.t_Works___init__ T.mk_Works T.g_Works rfl (o_Works___init__ T TK) rfl (hr.mono (by decide)) hgd T.b_Works___init___4 rfl (SA.cons (SE.fld rfl (.cons rfl T.c_Works T.na_Works_own_places (.nil)) (SE.var 0)) (SA.cons (SE.var 3) (SA.cons (SE.callTy call_tuple_of dTuple_ok rfl T.f_tuple bt_tuple (SA.cons (SE.var 4) (SA.nil))) (SA.nil)))) rfl (cCons_len (cCons_len (cCons_len cNil_len)))))))))))
def l_law_2 : LT := lamAt (defBody (top 54)) [2] 0 [2, 1]
abbrev nl_law_2 : List Str := [Str.ofString "none"]
def g_law_2 : Ev := cMeth (Str.ofString "without") [(0, m_Works_without, [])] (cVar 0) (cCons (cTup (cCons (cC (.str [104])) (cNil))) (cNil))
theorem k_law_2 (T : Facts K mg) (TK : TabK K mg base tfs) : LamOk PW w K mg base (glOf K cls) (tbOf K tfs) 9 (lq (Str.ofString "law")) l_law_2.params l_law_2.body l_law_2.scope nl_law_2 g_law_2 :=
  ⟨nscope_by (by decide +kernel), fun _ _ _ _ => rfl, fun cells c a A outer s H E hot lam hr hgd => SE.meth rfl hgd (SE.var 0) (.cons (MethAt.row (dd := []) T.t_Works_without rfl T.c_Works T.mt_Works_without (o_Works_without T TK) (hr.mono (by decide)) rfl T.b_Works_without_2 rfl rfl) (.nil)) (SA.cons (SE.tup (SA.cons (SE.str (by decide +kernel)) (SA.nil))) (SA.nil)) (cCons_len cNil_len)⟩
abbrev tl_law : List (Ev × List Nat) := [(g_law_0, [5]), (g_law_1, [5]), (g_law_2, [5])]
abbrev n__law_dice : List Str := [Str.ofString "script", Str.ofString "spot", Str.ofString "cell", Str.ofString "great", Str.ofString "seed"]
abbrev p__law_dice : List Str := [Str.ofString "script", Str.ofString "spot"]
theorem s__law_dice : FnScope n__law_dice p__law_dice (defScope (top 49)) := ⟨rfl, rfl, rfl, by decide +kernel, rfl, by decide +kernel, by decide +kernel⟩
def m__law_dice : Fn := fnD 5 (sSeq (sSet 2 (cIf (cB (cBin dLt (cVar 1) (cArgs dLen (cCons (cVar 0) (cNil))))) (cArgs dInt1 (cCons (cBin dIx (cVar 0) (cVar 1)) (cNil))) (cBin dAdd (cBin dMul (cC (.int 131)) (cVar 1)) (cC (.int 37))))) (sSeq (sSet 3 (cBin dMod (cArgs dInt1 (cCons (cArgs dAbs (cCons (cVar 2) (cNil))) (cNil))) (cBin dPow (cBin dPow (cC (.int 10)) (cC (.int 53))) (cC (.int 6))))) (sSeq (sSet 4 (cBin dAdd (cBin dAdd (cBin dAdd (cBin dMul (cBin dMod (cVar 3) (cC (.int 2305843009213693907))) (cC (.int 73))) (cBin dMul (cC (.int 619)) (cVar 1))) (cBin dMul (cC (.int 41)) (cArgs dInt1 (cCons (cBin dLt (cVar 2) (cC (.int 0))) (cNil))))) (cC (.int 17)))) (sRet (cNew (cCons (cArgs dMax2 (cCons (cC (.int 0)) (cCons (cBin dSub (cVar 3) (cBin dPow (cC (.int 10)) (cC (.int 16)))) (cNil)))) (cCons (cVar 4) (cCons (cC (.int 0)) (cNil)))))))))
theorem o__law_dice (T : Facts K mg) (TK : TabK K mg base tfs) : FnG PW w K mg base (glOf K cls) (tbOf K tfs) 1 T.a__law_dice T.d__law_dice p__law_dice m__law_dice :=
  FnG.of T.t__law_dice.fn s__law_dice (fun cdv A outer s H E hot lam hr hgd => SB.cons (SS.set 2 s__law_dice.nd (SE.ifExp (ST.cmp op_ltAll dLt_ok (SE.var 1) (SE.callB call_len dLen_ok rfl T.f_len bb_len (SA.cons (SE.var 0) (SA.nil))) (nomark _)) (SE.callTy call_int1 dInt1_ok rfl T.f_int bt_int (SA.cons (SE.ix rfl (SE.var 0) (SE.var 1)) (SA.nil))) (SE.op op_addAll dAdd_ok (SE.op op_mulW dMul_ok (SE.int) (SE.var 1)) (SE.int)))) (SB.cons (SS.set 3 s__law_dice.nd (SE.op op_mod dMod_ok (SE.callTy call_int1 dInt1_ok rfl T.f_int bt_int (SA.cons (SE.callB call_abs dAbs_ok rfl T.f_abs bb_abs (SA.cons (SE.var 2) (SA.nil))) (SA.nil))) (SE.op op_powW dPow_ok (SE.op op_powW dPow_ok (SE.int) (SE.int)) (SE.int)))) (SB.cons (SS.set 4 s__law_dice.nd (SE.op op_addAll dAdd_ok (SE.op op_addAll dAdd_ok (SE.op op_addAll dAdd_ok (SE.op op_mulW dMul_ok (SE.op op_mod dMod_ok (SE.var 3) (SE.int)) (SE.int)) (SE.op op_mulW dMul_ok (SE.int) (SE.var 1))) (SE.op op_mulW dMul_ok (SE.int) (SE.callTy call_int1 dInt1_ok rfl T.f_int bt_int (SA.cons (SE.cmp op_ltAll dLt_ok (SE.var 2) (SE.int) (nomark _)) (SA.nil))))) (SE.int))) (SB.one (SS.ret (SE.new (SA.cons (SE.callB (call_max2 rfl) dMax2_ok rfl T.f_max bb_max (SA.cons (SE.int) (SA.cons (SE.op op_sub dSub_ok (SE.var 3) (SE.op op_powW dPow_ok (SE.int) (SE.int))) (SA.nil)))) (SA.cons (SE.var 4) (SA.cons (SE.int) (SA.nil))))))))))
def l__law_right_0 : LT := lamAt (defBody (top 53)) [4] 0 [0]
abbrev nl__law_right_0 : List Str := [Str.ofString "bad", Str.ofString "works"]
def g__law_right_0 : Ev := cMeth (Str.ofString "next") [(0, m_Works_next, [])] (cVar 1) (cCons (cVar 0) (cCons (cVar 0) (cNil)))
theorem k__law_right_0 (T : Facts K mg) (TK : TabK K mg base tfs) : LamOk PW w K mg base (glOf K cls) (tbOf K tfs) 8 (lq (Str.ofString "_law_right")) l__law_right_0.params l__law_right_0.body l__law_right_0.scope nl__law_right_0 g__law_right_0 :=
  ⟨nscope_by (by decide +kernel), fun _ _ _ _ => rfl, fun cells c a A outer s H E hot lam hr hgd => SE.meth rfl hgd (SE.var 1) (.cons (MethAt.row (dd := []) T.t_Works_next rfl T.c_Works T.mt_Works_next (o_Works_next T TK) (hr.mono (by decide)) rfl T.b_Works_next_3 rfl rfl) (.nil)) (SA.cons (SE.var 0) (SA.cons (SE.var 0) (SA.nil))) (cCons_len (cCons_len cNil_len))⟩
def l__law_right_1 : LT := lamAt (defBody (top 53)) [4] 0 [1]
abbrev nl__law_right_1 : List Str := [Str.ofString "bad", Str.ofString "row", Str.ofString "works"]
def g__law_right_1 : Ev := cMeth (Str.ofString "next") [(0, m_Works_next, [])] (cVar 2) (cCons (cVar 1) (cCons (cVar 0) (cNil)))
theorem k__law_right_1 (T : Facts K mg) (TK : TabK K mg base tfs) : LamOk PW w K mg base (glOf K cls) (tbOf K tfs) 8 (lq (Str.ofString "_law_right")) l__law_right_1.params l__law_right_1.body l__law_right_1.scope nl__law_right_1 g__law_right_1 :=
  ⟨nscope_by (by decide +kernel), fun _ _ _ _ => rfl, fun cells c a A outer s H E hot lam hr hgd => SE.meth rfl hgd (SE.var 2) (.cons (MethAt.row (dd := []) T.t_Works_next rfl T.c_Works T.mt_Works_next (o_Works_next T TK) (hr.mono (by decide)) rfl T.b_Works_next_3 rfl rfl) (.nil)) (SA.cons (SE.var 1) (SA.cons (SE.var 0) (SA.nil))) (cCons_len (cCons_len cNil_len))⟩
def l__law_right_2 : LT := lamAt (defBody (top 53)) [4] 0 [2]
abbrev nl__law_right_2 : List Str := [Str.ofString "row", Str.ofString "works"]
def g__law_right_2 : Ev := cMeth (Str.ofString "next") [(0, m_Works_next, [])] (cVar 1) (cCons (cVar 0) (cCons (cVar 0) (cNil)))
theorem k__law_right_2 (T : Facts K mg) (TK : TabK K mg base tfs) : LamOk PW w K mg base (glOf K cls) (tbOf K tfs) 8 (lq (Str.ofString "_law_right")) l__law_right_2.params l__law_right_2.body l__law_right_2.scope nl__law_right_2 g__law_right_2 :=
  ⟨nscope_by (by decide +kernel), fun _ _ _ _ => rfl, fun cells c a A outer s H E hot lam hr hgd => SE.meth rfl hgd (SE.var 1) (.cons (MethAt.row (dd := []) T.t_Works_next rfl T.c_Works T.mt_Works_next (o_Works_next T TK) (hr.mono (by decide)) rfl T.b_Works_next_3 rfl rfl) (.nil)) (SA.cons (SE.var 0) (SA.cons (SE.var 0) (SA.nil))) (cCons_len (cCons_len cNil_len))⟩
def l__law_right_3 : LT := lamAt (defBody (top 53)) [8] 0 [0]
abbrev nl__law_right_3 : List Str := [Str.ofString "hands", Str.ofString "works"]
def g__law_right_3 : Ev := cMeth (Str.ofString "without") [(0, m_Works_without, [])] (cVar 1) (cCons (cVar 0) (cNil))
theorem k__law_right_3 (T : Facts K mg) (TK : TabK K mg base tfs) : LamOk PW w K mg base (glOf K cls) (tbOf K tfs) 9 (lq (Str.ofString "_law_right")) l__law_right_3.params l__law_right_3.body l__law_right_3.scope nl__law_right_3 g__law_right_3 :=
  ⟨nscope_by (by decide +kernel), fun _ _ _ _ => rfl, fun cells c a A outer s H E hot lam hr hgd => SE.meth rfl hgd (SE.var 1) (.cons (MethAt.row (dd := []) T.t_Works_without rfl T.c_Works T.mt_Works_without (o_Works_without T TK) (hr.mono (by decide)) rfl T.b_Works_without_2 rfl rfl) (.nil)) (SA.cons (SE.var 0) (SA.nil)) (cCons_len cNil_len)⟩
def l__law_right_4 : LT := lamAt (defBody (top 53)) [8] 0 [1]
abbrev nl__law_right_4 : List Str := [Str.ofString "far", Str.ofString "works"]
def g__law_right_4 : Ev := cMeth (Str.ofString "without") [(0, m_Works_without, [])] (cVar 1) (cCons (cTup (cCons (cVar 0) (cNil))) (cNil))
theorem k__law_right_4 (T : Facts K mg) (TK : TabK K mg base tfs) : LamOk PW w K mg base (glOf K cls) (tbOf K tfs) 9 (lq (Str.ofString "_law_right")) l__law_right_4.params l__law_right_4.body l__law_right_4.scope nl__law_right_4 g__law_right_4 :=
  ⟨nscope_by (by decide +kernel), fun _ _ _ _ => rfl, fun cells c a A outer s H E hot lam hr hgd => SE.meth rfl hgd (SE.var 1) (.cons (MethAt.row (dd := []) T.t_Works_without rfl T.c_Works T.mt_Works_without (o_Works_without T TK) (hr.mono (by decide)) rfl T.b_Works_without_2 rfl rfl) (.nil)) (SA.cons (SE.tup (SA.cons (SE.var 0) (SA.nil))) (SA.nil)) (cCons_len cNil_len)⟩
def l__law_right_5 : LT := lamAt (defBody (top 53)) [8] 0 [2]
abbrev nl__law_right_5 : List Str := [Str.ofString "works"]
def g__law_right_5 : Ev := cMeth (Str.ofString "without") [(0, m_Works_without, [])] (cVar 0) (cCons (cTup (cNil)) (cNil))
theorem k__law_right_5 (T : Facts K mg) (TK : TabK K mg base tfs) : LamOk PW w K mg base (glOf K cls) (tbOf K tfs) 9 (lq (Str.ofString "_law_right")) l__law_right_5.params l__law_right_5.body l__law_right_5.scope nl__law_right_5 g__law_right_5 :=
  ⟨nscope_by (by decide +kernel), fun _ _ _ _ => rfl, fun cells c a A outer s H E hot lam hr hgd => SE.meth rfl hgd (SE.var 0) (.cons (MethAt.row (dd := []) T.t_Works_without rfl T.c_Works T.mt_Works_without (o_Works_without T TK) (hr.mono (by decide)) rfl T.b_Works_without_2 rfl rfl) (.nil)) (SA.cons (SE.tup (SA.nil)) (SA.nil)) (cCons_len cNil_len)⟩
def l__law_right_6 : LT := lamAt (defBody (top 53)) [8] 0 [3]
abbrev nl__law_right_6 : List Str := [Str.ofString "works"]
def g__law_right_6 : Ev := cMeth (Str.ofString "without") [(0, m_Works_without, [])] (cVar 0) (cCons (cTup (cCons (cC (.str [104])) (cCons (cC (.str [105])) (cNil)))) (cNil))
theorem k__law_right_6 (T : Facts K mg) (TK : TabK K mg base tfs) : LamOk PW w K mg base (glOf K cls) (tbOf K tfs) 9 (lq (Str.ofString "_law_right")) l__law_right_6.params l__law_right_6.body l__law_right_6.scope nl__law_right_6 g__law_right_6 :=
  ⟨nscope_by (by decide +kernel), fun _ _ _ _ => rfl, fun cells c a A outer s H E hot lam hr hgd => SE.meth rfl hgd (SE.var 0) (.cons (MethAt.row (dd := []) T.t_Works_without rfl T.c_Works T.mt_Works_without (o_Works_without T TK) (hr.mono (by decide)) rfl T.b_Works_without_2 rfl rfl) (.nil)) (SA.cons (SE.tup (SA.cons (SE.str (by decide +kernel)) (SA.cons (SE.str (by decide +kernel)) (SA.nil)))) (SA.nil)) (cCons_len cNil_len)⟩
abbrev n_Works_renamed : List Str := [Str.ofString "self", Str.ofString "names", Str.ofString "every", Str.ofString "told", Str.ofString "places", Str.ofString "hands", Str.ofString "order", Str.ofString "rows", Str.ofString "key", Str.ofString "name", Str.ofString "index", Str.ofString "place"]
abbrev p_Works_renamed : List Str := [Str.ofString "self", Str.ofString "names"]
theorem s_Works_renamed : FnScope n_Works_renamed p_Works_renamed (defScope (ini 47 10)) := ⟨rfl, rfl, rfl, by decide +kernel, rfl, by decide +kernel, by decide +kernel⟩
def m_Works_renamed : Fn := gvD (fnD 12 (sSeq (sSet 2 (cLst (cStarC (cFld [0] (Str.ofString "own_places") (cVar 0)) (cStarC (cFld [0] (Str.ofString "own_hands") (cVar 0)) (cNil))))) (sSeq (sIf (cOr (cNot (cTru (cArgs (dIsiG pks) (cCons (cVar 1) (cCons (cC (.ty .dict)) (cNil)))))) (cNot (cTru (cArgs dAll (cCons (cLcP .keys (pVar 1) (gN 8) (tYesD) (cAndV (cArgs (dIsiG pks) (cCons (cVar 8) (cCons (cC (.ty .str)) (cNil)))) (cBin (dInA false) (cVar 8) (cVar 2))) [8]) (cNil)))))) (sRaise 2) (sNil)) (sSeq (sIf (cNot (cTru (cArgs dAll (cCons (cLcP .vals (pVar 1) (gN 9) (tYesD) (cCall m_is_name [] (cCons (cVar 9) (cNil))) [9]) (cNil))))) (sRaise 2) (sNil)) (sSeq (sSet 3 (cLc (cSeqI (cVar 2)) (gN 9) (tYesD) (cGet2 (cVar 1) (cVar 9) (cVar 9)) [9])) (sSeq (sIf (cTru (cArgs dAny (cCons (cLc (cSeqI (cVar 3)) (gN 9) (tYesD) (cBin dGt (cBml dCnt (cVar 3) (cVar 9)) (cC (.int 1))) [9]) (cNil)))) (sRaise 3) (sNil)) (sSeq (sSet 4 (cArgs dSortS (cCons (cLc (cSeqI (cSl (cVar 3) (cNoP) (cPart (cFld [0] (Str.ofString "own_width") (cVar 0))))) (gN 9) (tYesD) (cArgs dStr (cCons (cVar 9) (cNil))) [9]) (cNil)))) (sSeq (sSet 5 (cArgs dSortS (cCons (cLc (cSeqI (cSl (cVar 3) (cPart (cFld [0] (Str.ofString "own_width") (cVar 0))) (cNoP))) (gN 9) (tYesD) (cArgs dStr (cCons (cVar 9) (cNil))) [9]) (cNil)))) (sSeq (sSet 6 (cLc (cSeqI (cLst (cStarC (cVar 4) (cStarC (cVar 5) (cNil))))) (gN 9) (tYesD) (cBml dIdx (cVar 3) (cVar 9)) [9])) (sSeq (sSet 7 (cLc (cSeqI (cSl (cVar 6) (cNoP) (cPart (cFld [0] (Str.ofString "own_width") (cVar 0))))) (gN 10) (tYesD) (cArgs dTuple (cCons (cLc (cSeqI (cVar 6)) (gN 11) (tYesD) (cBin dIx (cBin dIx (cFld [0] (Str.ofString "own_table") (cVar 0)) (cVar 10)) (cVar 11)) [11]) (cNil))) [10])) (sRet (cMake 0 m_Works___init__ [] (cCons (cArgs dTuple (cCons (cVar 4) (cNil))) (cCons (cArgs dTuple (cCons (cVar 5) (cNil))) (cCons (cArgs dTuple (cCons (cVar 7) (cNil))) (cNil))))))))))))))))
theorem o_Works_renamed (T : Facts K mg) (TK : TabK K mg base tfs) : FnG PW w K mg base (glOf K cls) (tbOf K tfs) 8 (He.ma K (He.ga K (Str.ofString "Works")) (Str.ofString "renamed")) T.d_Works_renamed p_Works_renamed m_Works_renamed :=
  FnG.give (FnG.of T.t_Works_renamed.fn s_Works_renamed (fun cdv A outer s H E hot lam hr hgd => SB.cons (SS.set 2 s_Works_renamed.nd (SE.lst (SA.star rfl (SE.fld rfl (.cons rfl T.c_Works T.na_Works_own_places (.nil)) (SE.var 0)) (SA.star rfl (SE.fld rfl (.cons rfl T.c_Works T.na_Works_own_hands (.nil)) (SE.var 0)) (SA.nil))))) (SB.cons (SS.if_ (ST.of (SW.or (ST.not (ST.tru rfl (SE.callB call_isi (dIsiG_ok T.isi) rfl T.f_isinstance bb_isinstance (SA.cons (SE.var 1) (SA.cons (SE.bltn (n := .dict) rfl T.f_dict bt_dict) (SA.nil)))))) (SW.or1 (ST.not (ST.tru rfl (SE.callB (cr_all rfl) dAll_ok rfl T.f_all bb_all (SA.cons (SE.lcP (own := [(Str.ofString "key", 8)]) (o1 := [8]) rfl s_Works_renamed.nd (PathP.var rfl (by first | exact Or.inl rfl | exact Or.inr (Or.inl rfl) | exact Or.inr (Or.inr rfl))) .keys (blkOk_by (by kernel_rfl)) (by decide) (fun _ _ _ _ _ _ => SG.name 8 s_Works_renamed.nd) (fun _ _ _ _ _ _ => STs.nil) (fun _ _ _ _ _ _ => SE.and (SE.callB call_isi (dIsiG_ok T.isi) rfl T.f_isinstance bb_isinstance (SA.cons (SE.var 8) (SA.cons (SE.bltn (n := .str) rfl T.f_str bt_str) (SA.nil)))) (SE.one (SE.cmp op_inAll dInA_ok (SE.var 8) (SE.var 2) (by rfl))))) (SA.nil)))))))) (SB.one (SS.raiseP PySem.F.excBase_ValueError T.x_InvalidOperation rfl rfl)) (SB.nil)) (SB.cons (SS.if_ (ST.not (ST.tru rfl (SE.callB (cr_all rfl) dAll_ok rfl T.f_all bb_all (SA.cons (SE.lcP (own := [(Str.ofString "name", 9)]) (o1 := [9]) rfl s_Works_renamed.nd (PathP.var rfl (by first | exact Or.inl rfl | exact Or.inr (Or.inl rfl) | exact Or.inr (Or.inr rfl))) .vals (blkOk_by (by kernel_rfl)) (by decide) (fun _ _ _ _ _ _ => SG.name 9 s_Works_renamed.nd) (fun _ _ _ _ _ _ => STs.nil) (fun _ _ _ _ _ _ => SE.fn (dd := []) (o_is_name T TK) T.t_is_name rfl (hr.mono (by decide)) hgd (T.b_is_name_1) rfl (SA.cons (SE.var 9) (SA.nil)) rfl (cCons_len cNil_len))) (SA.nil))))) (SB.one (SS.raiseP PySem.F.excBase_ValueError T.x_InvalidOperation rfl rfl)) (SB.nil)) (SB.cons (SS.set 3 s_Works_renamed.nd (SE.lc (own := [(Str.ofString "name", 9)]) (o1 := [9]) rfl s_Works_renamed.nd (SI.seq rfl (SE.var 2)) (blkOk_by (by kernel_rfl)) (by decide) (fun _ _ _ _ _ _ => SG.name 9 s_Works_renamed.nd) (fun _ _ _ _ _ _ => STs.nil) (fun _ _ _ _ _ _ => SE.get2 hr.u1 (SE.var 1) (SE.var 9) (SE.var 9) ⟨rfl, rfl, rfl, rfl⟩))) (SB.cons (SS.if_ (ST.tru rfl (SE.callB (cr_any rfl) dAny_ok rfl T.f_any bb_any (SA.cons (SE.lc (own := [(Str.ofString "name", 9)]) (o1 := [9]) rfl s_Works_renamed.nd (SI.seq rfl (SE.var 3)) (blkOk_by (by kernel_rfl)) (by decide) (fun _ _ _ _ _ _ => SG.name 9 s_Works_renamed.nd) (fun _ _ _ _ _ _ => STs.nil) (fun _ _ _ _ _ _ => SE.cmp op_gtAll dGt_ok (SE.bml PySem.F.slot_list_count PySem.F.type_list_count (mt_countD hr.u65) dCnt_ok rfl (SE.var 3) (SE.var 9)) (SE.int) (nomark _))) (SA.nil)))) (SB.one (SS.raiseP PySem.F.excBase_ValueError T.x_InvalidWorks rfl rfl)) (SB.nil)) (SB.cons (SS.set 4 s_Works_renamed.nd (SE.callB cr_sortedS dSortS_ok rfl T.f_sorted (by decide +kernel) (SA.cons (SE.lc (own := [(Str.ofString "name", 9)]) (o1 := [9]) rfl s_Works_renamed.nd (SI.seq rfl (SE.slice rfl (SE.var 3) (SO_.no) (SO_.part (SE.fld rfl (.cons rfl T.c_Works T.na_Works_own_width (.nil)) (SE.var 0))))) (blkOk_by (by kernel_rfl)) (by decide) (fun _ _ _ _ _ _ => SG.name 9 s_Works_renamed.nd) (fun _ _ _ _ _ _ => STs.nil) (fun _ _ _ _ _ _ => SE.callTy SkE.call_str_str dStr_ok rfl T.f_str bt_str (SA.cons (SE.var 9) (SA.nil)))) (SA.nil)))) (SB.cons (SS.set 5 s_Works_renamed.nd (SE.callB cr_sortedS dSortS_ok rfl T.f_sorted (by decide +kernel) (SA.cons (SE.lc (own := [(Str.ofString "name", 9)]) (o1 := [9]) rfl s_Works_renamed.nd (SI.seq rfl (SE.slice rfl (SE.var 3) (SO_.part (SE.fld rfl (.cons rfl T.c_Works T.na_Works_own_width (.nil)) (SE.var 0))) (SO_.no))) (blkOk_by (by kernel_rfl)) (by decide) (fun _ _ _ _ _ _ => SG.name 9 s_Works_renamed.nd) (fun _ _ _ _ _ _ => STs.nil) (fun _ _ _ _ _ _ => SE.callTy SkE.call_str_str dStr_ok rfl T.f_str bt_str (SA.cons (SE.var 9) (SA.nil)))) (SA.nil)))) (SB.cons (SS.set 6 s_Works_renamed.nd (SE.lc (own := [(Str.ofString "name", 9)]) (o1 := [9]) rfl s_Works_renamed.nd (SI.seq rfl (SE.lst (SA.star rfl (SE.var 4) (SA.star rfl (SE.var 5) (SA.nil))))) (blkOk_by (by kernel_rfl)) (by decide) (fun _ _ _ _ _ _ => SG.name 9 s_Works_renamed.nd) (fun _ _ _ _ _ _ => STs.nil) (fun _ _ _ _ _ _ => SE.bml PySem.F.slot_list_index PySem.F.type_list_index (mt_indexD hr.u65) dIdx_ok rfl (SE.var 3) (SE.var 9)))) (SB.cons (SS.setLc 7 (own := [(Str.ofString "index", 10)]) (o1 := [10]) rfl s_Works_renamed.nd (SI.seq rfl (SE.slice rfl (SE.var 6) (SO_.no) (SO_.part (SE.fld rfl (.cons rfl T.c_Works T.na_Works_own_width (.nil)) (SE.var 0))))) (blkOk_by (by kernel_rfl)) (by decide) (fun _ _ _ _ _ _ => SG.name 10 s_Works_renamed.nd) (fun _ _ _ _ _ _ => STs.nil) (fun _ _ _ _ _ _ => SE.callTy call_tuple_of dTuple_ok rfl T.f_tuple bt_tuple (SA.cons (SE.lc (own := [(Str.ofString "place", 11)]) (o1 := [11]) rfl s_Works_renamed.nd (SI.seq rfl (SE.var 6)) (blkOk_by (by kernel_rfl)) (by decide) (fun _ _ _ _ _ _ => SG.name 11 s_Works_renamed.nd) (fun _ _ _ _ _ _ => STs.nil) (fun _ _ _ _ _ _ => SE.ix rfl (SE.ix rfl (SE.fld rfl (.cons rfl T.c_Works T.na_Works_own_table (.nil)) (SE.var 0)) (SE.var 10)) (SE.var 11))) (SA.nil))) (sw_true rfl rfl rfl (by decide +kernel))) (SB.one (SS.ret (SE.make (dd := []) T.t_Works___init__ T.mk_Works T.g_Works rfl (o_Works___init__ T TK) rfl (hr.mono (by decide)) hgd T.b_Works___init___4 rfl (SA.cons (SE.callTy call_tuple_of dTuple_ok rfl T.f_tuple bt_tuple (SA.cons (SE.var 4) (SA.nil))) (SA.cons (SE.callTy call_tuple_of dTuple_ok rfl T.f_tuple bt_tuple (SA.cons (SE.var 5) (SA.nil))) (SA.cons (SE.callTy call_tuple_of dTuple_ok rfl T.f_tuple bt_tuple (SA.cons (SE.var 7) (SA.nil))) (SA.nil)))) rfl (cCons_len (cCons_len (cCons_len cNil_len))))))))))))))))
def l__law_right_7 : LT := lamAt (defBody (top 53)) [12] 0 [0]
abbrev nl__law_right_7 : List Str := [Str.ofString "names", Str.ofString "works"]
def g__law_right_7 : Ev := cMeth (Str.ofString "renamed") [(0, m_Works_renamed, [])] (cVar 1) (cCons (cVar 0) (cNil))
theorem k__law_right_7 (T : Facts K mg) (TK : TabK K mg base tfs) : LamOk PW w K mg base (glOf K cls) (tbOf K tfs) 9 (lq (Str.ofString "_law_right")) l__law_right_7.params l__law_right_7.body l__law_right_7.scope nl__law_right_7 g__law_right_7 :=
  ⟨nscope_by (by decide +kernel), fun _ _ _ _ => rfl, fun cells c a A outer s H E hot lam hr hgd => SE.meth rfl hgd (SE.var 1) (.cons (MethAt.row (dd := []) T.t_Works_renamed rfl T.c_Works T.mt_Works_renamed (o_Works_renamed T TK) (hr.mono (by decide)) rfl T.b_Works_renamed_2 rfl rfl) (.nil)) (SA.cons (SE.var 0) (SA.nil)) (cCons_len cNil_len)⟩
def l__law_right_8 : LT := lamAt (defBody (top 53)) [12] 0 [1]
abbrev nl__law_right_8 : List Str := [Str.ofString "twice", Str.ofString "works"]
def g__law_right_8 : Ev := cMeth (Str.ofString "renamed") [(0, m_Works_renamed, [])] (cVar 1) (cCons (cVar 0) (cNil))
theorem k__law_right_8 (T : Facts K mg) (TK : TabK K mg base tfs) : LamOk PW w K mg base (glOf K cls) (tbOf K tfs) 9 (lq (Str.ofString "_law_right")) l__law_right_8.params l__law_right_8.body l__law_right_8.scope nl__law_right_8 g__law_right_8 :=
  ⟨nscope_by (by decide +kernel), fun _ _ _ _ => rfl, fun cells c a A outer s H E hot lam hr hgd => SE.meth rfl hgd (SE.var 1) (.cons (MethAt.row (dd := []) T.t_Works_renamed rfl T.c_Works T.mt_Works_renamed (o_Works_renamed T TK) (hr.mono (by decide)) rfl T.b_Works_renamed_2 rfl rfl) (.nil)) (SA.cons (SE.var 0) (SA.nil)) (cCons_len cNil_len)⟩
def l__law_right_9 : LT := lamAt (defBody (top 53)) [12] 0 [2]
abbrev nl__law_right_9 : List Str := [Str.ofString "works"]
def g__law_right_9 : Ev := cMeth (Str.ofString "renamed") [(0, m_Works_renamed, [])] (cVar 0) (cCons (cDic (cPC (cC (.str [97])) (cC (.str [98])) (cPC (cC (.str [98])) (cC (.str [97])) (cPN)))) (cNil))
theorem k__law_right_9 (T : Facts K mg) (TK : TabK K mg base tfs) : LamOk PW w K mg base (glOf K cls) (tbOf K tfs) 9 (lq (Str.ofString "_law_right")) l__law_right_9.params l__law_right_9.body l__law_right_9.scope nl__law_right_9 g__law_right_9 :=
  ⟨nscope_by (by decide +kernel), fun _ _ _ _ => rfl, fun cells c a A outer s H E hot lam hr hgd => SE.meth rfl hgd (SE.var 0) (.cons (MethAt.row (dd := []) T.t_Works_renamed rfl T.c_Works T.mt_Works_renamed (o_Works_renamed T TK) (hr.mono (by decide)) rfl T.b_Works_renamed_2 rfl rfl) (.nil)) (SA.cons (SE.dic (SPs.cons (fun _ => SE.str (by decide +kernel)) (fun _ => SE.str (by decide +kernel)) (SPs.cons (fun _ => SE.str (by decide +kernel)) (fun _ => SE.str (by decide +kernel)) (SPs.nil))) (by simp)) (SA.nil)) (cCons_len cNil_len)⟩
def l__law_right_10 : LT := lamAt (defBody (top 53)) [12] 0 [3]
abbrev nl__law_right_10 : List Str := [Str.ofString "works"]
def g__law_right_10 : Ev := cMeth (Str.ofString "renamed") [(0, m_Works_renamed, [])] (cVar 0) (cCons (cDic (cPC (cC (.str [97])) (cC (.str [104])) (cPC (cC (.str [104])) (cC (.str [97])) (cPN)))) (cNil))
theorem k__law_right_10 (T : Facts K mg) (TK : TabK K mg base tfs) : LamOk PW w K mg base (glOf K cls) (tbOf K tfs) 9 (lq (Str.ofString "_law_right")) l__law_right_10.params l__law_right_10.body l__law_right_10.scope nl__law_right_10 g__law_right_10 :=
  ⟨nscope_by (by decide +kernel), fun _ _ _ _ => rfl, fun cells c a A outer s H E hot lam hr hgd => SE.meth rfl hgd (SE.var 0) (.cons (MethAt.row (dd := []) T.t_Works_renamed rfl T.c_Works T.mt_Works_renamed (o_Works_renamed T TK) (hr.mono (by decide)) rfl T.b_Works_renamed_2 rfl rfl) (.nil)) (SA.cons (SE.dic (SPs.cons (fun _ => SE.str (by decide +kernel)) (fun _ => SE.str (by decide +kernel)) (SPs.cons (fun _ => SE.str (by decide +kernel)) (fun _ => SE.str (by decide +kernel)) (SPs.nil))) (by simp)) (SA.nil)) (cCons_len cNil_len)⟩
abbrev n_Works_recast : List Str := [Str.ofString "self", Str.ofString "table", Str.ofString "back", Str.ofString "width", Str.ofString "free", Str.ofString "hands", Str.ofString "rows", Str.ofString "column", Str.ofString "index", Str.ofString "row"]
abbrev p_Works_recast : List Str := [Str.ofString "self", Str.ofString "table", Str.ofString "back"]
theorem s_Works_recast : FnScope n_Works_recast p_Works_recast (defScope (ini 47 11)) := ⟨rfl, rfl, rfl, by decide +kernel, rfl, by decide +kernel, by decide +kernel⟩
def m_Works_recast : Fn := gvD (fnD 10 (sSeq (sSet 3 (cFld [0] (Str.ofString "own_width") (cVar 0))) (sSeq (sExp (cCall m_require_undone [] (cCons (cVar 3) (cCons (cVar 1) (cCons (cVar 2) (cNil)))))) (sSeq (sSet 4 (cCall m_table_behind [] (cCons (cVar 1) (cCons (cCall m_table_behind [] (cCons (cFld [0] (Str.ofString "own_free") (cVar 0)) (cCons (cVar 2) (cCons (cVar 3) (cNil))))) (cCons (cVar 3) (cNil)))))) (sSeq (sSet 5 (cLc (cSeqI (cFld [0] (Str.ofString "own_columns") (cVar 0))) (gN 7) (tYesD) (cCall m_led_row [] (cCons (cVar 1) (cCons (cVar 7) (cNil)))) [7])) (sSeq (sSet 6 (cLc (cEnumA (cCons (cVar 4) (cNil))) (gT (gConsD (gN 8) (gConsD (gN 9) (gNilD)))) (tYesD) (cBin dAdd (cVar 9) (cArgs dTuple (cCons (cLc (cSeqI (cVar 5)) (gN 7) (tYesD) (cBin dIx (cVar 7) (cVar 8)) [7]) (cNil)))) [8, 9])) (sRet (cMake 0 m_Works___init__ [] (cCons (cFld [0] (Str.ofString "own_places") (cVar 0)) (cCons (cFld [0] (Str.ofString "own_hands") (cVar 0)) (cCons (cArgs dTuple (cCons (cVar 6) (cNil))) (cNil))))))))))))
theorem o_Works_recast (T : Facts K mg) (TK : TabK K mg base tfs) : FnG PW w K mg base (glOf K cls) (tbOf K tfs) 9 (He.ma K (He.ga K (Str.ofString "Works")) (Str.ofString "recast")) T.d_Works_recast p_Works_recast m_Works_recast :=
  FnG.give (FnG.of T.t_Works_recast.fn s_Works_recast (fun cdv A outer s H E hot lam hr hgd => SB.cons (SS.set 3 s_Works_recast.nd (SE.fld rfl (.cons rfl T.c_Works T.na_Works_own_width (.nil)) (SE.var 0))) (SB.cons (SS.expr (SE.fn (dd := []) (o_require_undone T TK) T.t_require_undone rfl (hr.mono (by decide)) hgd (T.b_require_undone_3) rfl (SA.cons (SE.var 3) (SA.cons (SE.var 1) (SA.cons (SE.var 2) (SA.nil)))) rfl (cCons_len (cCons_len (cCons_len cNil_len))))) (SB.cons (SS.set 4 s_Works_recast.nd (SE.fn (dd := []) (o_table_behind T TK) T.t_table_behind rfl (hr.mono (by decide)) hgd (T.b_table_behind_3) rfl (SA.cons (SE.var 1) (SA.cons (SE.fn (dd := []) (o_table_behind T TK) T.t_table_behind rfl (hr.mono (by decide)) hgd (T.b_table_behind_3) rfl (SA.cons (SE.fld rfl (.cons rfl T.c_Works T.na_Works_own_free (.nil)) (SE.var 0)) (SA.cons (SE.var 2) (SA.cons (SE.var 3) (SA.nil)))) rfl (cCons_len (cCons_len (cCons_len cNil_len)))) (SA.cons (SE.var 3) (SA.nil)))) rfl (cCons_len (cCons_len (cCons_len cNil_len))))) (SB.cons (SS.set 5 s_Works_recast.nd (SE.lc (own := [(Str.ofString "column", 7)]) (o1 := [7]) rfl s_Works_recast.nd (SI.seq rfl (SE.fld rfl (.cons rfl T.c_Works T.na_Works_own_columns (.nil)) (SE.var 0))) (blkOk_by (by kernel_rfl)) (by decide) (fun _ _ _ _ _ _ => SG.name 7 s_Works_recast.nd) (fun _ _ _ _ _ _ => STs.nil) (fun _ _ _ _ _ _ => SE.fn (dd := []) (o_led_row T TK) T.t_led_row rfl (hr.mono (by decide)) hgd (T.b_led_row_2) rfl (SA.cons (SE.var 1) (SA.cons (SE.var 7) (SA.nil))) rfl (cCons_len (cCons_len cNil_len))))) (SB.cons (SS.setLc 6 (own := [(Str.ofString "index", 8), (Str.ofString "row", 9)]) (o1 := [8, 9]) rfl s_Works_recast.nd (SI.enumA rfl rfl T.f_enumerate (SA.cons (SE.var 4) (SA.nil))) (blkOk_by (by kernel_rfl)) (by decide) (fun _ _ _ _ _ _ => SG.tup rfl rfl (SGs.cons (SG.name 8 s_Works_recast.nd) (SGs.cons (SG.name 9 s_Works_recast.nd) (SGs.nil))) (gConsD_len (gConsD_len gNilD_len))) (fun _ _ _ _ _ _ => STs.nil) (fun _ _ _ _ _ _ => SE.op op_addAll dAdd_ok (SE.var 9) (SE.callTy call_tuple_of dTuple_ok rfl T.f_tuple bt_tuple (SA.cons (SE.lc (own := [(Str.ofString "column", 7)]) (o1 := [7]) rfl s_Works_recast.nd (SI.seq rfl (SE.var 5)) (blkOk_by (by kernel_rfl)) (by decide) (fun _ _ _ _ _ _ => SG.name 7 s_Works_recast.nd) (fun _ _ _ _ _ _ => STs.nil) (fun _ _ _ _ _ _ => SE.ix rfl (SE.var 7) (SE.var 8))) (SA.nil)))) (sw_true rfl rfl rfl (by decide +kernel))) (SB.one (SS.ret (SE.make (dd := []) T.t_Works___init__ T.mk_Works T.g_Works rfl (o_Works___init__ T TK) rfl (hr.mono (by decide)) hgd T.b_Works___init___4 rfl (SA.cons (SE.fld rfl (.cons rfl T.c_Works T.na_Works_own_places (.nil)) (SE.var 0)) (SA.cons (SE.fld rfl (.cons rfl T.c_Works T.na_Works_own_hands (.nil)) (SE.var 0)) (SA.cons (SE.callTy call_tuple_of dTuple_ok rfl T.f_tuple bt_tuple (SA.cons (SE.var 6) (SA.nil))) (SA.nil)))) rfl (cCons_len (cCons_len (cCons_len cNil_len))))))))))))
def l__law_right_11 : LT := lamAt (defBody (top 53)) [16] 0 [0]
abbrev nl__law_right_11 : List Str := [Str.ofString "table", Str.ofString "works"]
def g__law_right_11 : Ev := cMeth (Str.ofString "recast") [(0, m_Works_recast, [])] (cVar 1) (cCons (cVar 0) (cCons (cC .non) (cNil)))
theorem k__law_right_11 (T : Facts K mg) (TK : TabK K mg base tfs) : LamOk PW w K mg base (glOf K cls) (tbOf K tfs) 10 (lq (Str.ofString "_law_right")) l__law_right_11.params l__law_right_11.body l__law_right_11.scope nl__law_right_11 g__law_right_11 :=
  ⟨nscope_by (by decide +kernel), fun _ _ _ _ => rfl, fun cells c a A outer s H E hot lam hr hgd => SE.meth rfl hgd (SE.var 1) (.cons (MethAt.row (dd := []) T.t_Works_recast rfl T.c_Works T.mt_Works_recast (o_Works_recast T TK) (hr.mono (by decide)) rfl T.b_Works_recast_3 rfl rfl) (.nil)) (SA.cons (SE.var 0) (SA.cons (SE.non) (SA.nil))) (cCons_len (cCons_len cNil_len))⟩
def l__law_right_12 : LT := lamAt (defBody (top 53)) [16] 0 [1]
abbrev nl__law_right_12 : List Str := [Str.ofString "table", Str.ofString "unit", Str.ofString "works"]
def g__law_right_12 : Ev := cMeth (Str.ofString "recast") [(0, m_Works_recast, [])] (cVar 2) (cCons (cVar 1) (cCons (cVar 0) (cNil)))
theorem k__law_right_12 (T : Facts K mg) (TK : TabK K mg base tfs) : LamOk PW w K mg base (glOf K cls) (tbOf K tfs) 10 (lq (Str.ofString "_law_right")) l__law_right_12.params l__law_right_12.body l__law_right_12.scope nl__law_right_12 g__law_right_12 :=
  ⟨nscope_by (by decide +kernel), fun _ _ _ _ => rfl, fun cells c a A outer s H E hot lam hr hgd => SE.meth rfl hgd (SE.var 2) (.cons (MethAt.row (dd := []) T.t_Works_recast rfl T.c_Works T.mt_Works_recast (o_Works_recast T TK) (hr.mono (by decide)) rfl T.b_Works_recast_3 rfl rfl) (.nil)) (SA.cons (SE.var 1) (SA.cons (SE.var 0) (SA.nil))) (cCons_len (cCons_len cNil_len))⟩
def l__law_right_13 : LT := lamAt (defBody (top 53)) [16] 0 [2]
abbrev nl__law_right_13 : List Str := [Str.ofString "twos", Str.ofString "unit", Str.ofString "works"]
def g__law_right_13 : Ev := cMeth (Str.ofString "recast") [(0, m_Works_recast, [])] (cVar 2) (cCons (cVar 1) (cCons (cVar 0) (cNil)))
theorem k__law_right_13 (T : Facts K mg) (TK : TabK K mg base tfs) : LamOk PW w K mg base (glOf K cls) (tbOf K tfs) 10 (lq (Str.ofString "_law_right")) l__law_right_13.params l__law_right_13.body l__law_right_13.scope nl__law_right_13 g__law_right_13 :=
  ⟨nscope_by (by decide +kernel), fun _ _ _ _ => rfl, fun cells c a A outer s H E hot lam hr hgd => SE.meth rfl hgd (SE.var 2) (.cons (MethAt.row (dd := []) T.t_Works_recast rfl T.c_Works T.mt_Works_recast (o_Works_recast T TK) (hr.mono (by decide)) rfl T.b_Works_recast_3 rfl rfl) (.nil)) (SA.cons (SE.var 1) (SA.cons (SE.var 0) (SA.nil))) (cCons_len (cCons_len cNil_len))⟩
def l__law_right_14 : LT := lamAt (defBody (top 53)) [16] 0 [3]
abbrev nl__law_right_14 : List Str := [Str.ofString "row", Str.ofString "works"]
def g__law_right_14 : Ev := cMeth (Str.ofString "recast") [(0, m_Works_recast, [])] (cVar 1) (cCons (cTup (cCons (cVar 0) (cCons (cVar 0) (cNil)))) (cCons (cTup (cCons (cVar 0) (cCons (cVar 0) (cNil)))) (cNil)))
theorem k__law_right_14 (T : Facts K mg) (TK : TabK K mg base tfs) : LamOk PW w K mg base (glOf K cls) (tbOf K tfs) 10 (lq (Str.ofString "_law_right")) l__law_right_14.params l__law_right_14.body l__law_right_14.scope nl__law_right_14 g__law_right_14 :=
  ⟨nscope_by (by decide +kernel), fun _ _ _ _ => rfl, fun cells c a A outer s H E hot lam hr hgd => SE.meth rfl hgd (SE.var 1) (.cons (MethAt.row (dd := []) T.t_Works_recast rfl T.c_Works T.mt_Works_recast (o_Works_recast T TK) (hr.mono (by decide)) rfl T.b_Works_recast_3 rfl rfl) (.nil)) (SA.cons (SE.tup (SA.cons (SE.var 0) (SA.cons (SE.var 0) (SA.nil)))) (SA.cons (SE.tup (SA.cons (SE.var 0) (SA.cons (SE.var 0) (SA.nil)))) (SA.nil))) (cCons_len (cCons_len cNil_len))⟩
def l__law_right_15 : LT := lamAt (defBody (top 53)) [16] 0 [4]
abbrev nl__law_right_15 : List Str := [Str.ofString "table", Str.ofString "works"]
def g__law_right_15 : Ev := cMeth (Str.ofString "turned") [(0, m_Works_turned, [])] (cVar 1) (cCons (cVar 0) (cCons (cC .non) (cNil)))
theorem k__law_right_15 (T : Facts K mg) (TK : TabK K mg base tfs) : LamOk PW w K mg base (glOf K cls) (tbOf K tfs) 10 (lq (Str.ofString "_law_right")) l__law_right_15.params l__law_right_15.body l__law_right_15.scope nl__law_right_15 g__law_right_15 :=
  ⟨nscope_by (by decide +kernel), fun _ _ _ _ => rfl, fun cells c a A outer s H E hot lam hr hgd => SE.meth rfl hgd (SE.var 1) (.cons (MethAt.row (dd := []) T.t_Works_turned rfl T.c_Works T.mt_Works_turned (o_Works_turned T TK) (hr.mono (by decide)) rfl T.b_Works_turned_3 rfl rfl) (.nil)) (SA.cons (SE.var 0) (SA.cons (SE.non) (SA.nil))) (cCons_len (cCons_len cNil_len))⟩
def l__law_right_16 : LT := lamAt (defBody (top 53)) [16] 0 [5]
abbrev nl__law_right_16 : List Str := [Str.ofString "table", Str.ofString "unit", Str.ofString "works"]
def g__law_right_16 : Ev := cMeth (Str.ofString "turned") [(0, m_Works_turned, [])] (cVar 2) (cCons (cVar 1) (cCons (cVar 0) (cNil)))
theorem k__law_right_16 (T : Facts K mg) (TK : TabK K mg base tfs) : LamOk PW w K mg base (glOf K cls) (tbOf K tfs) 10 (lq (Str.ofString "_law_right")) l__law_right_16.params l__law_right_16.body l__law_right_16.scope nl__law_right_16 g__law_right_16 :=
  ⟨nscope_by (by decide +kernel), fun _ _ _ _ => rfl, fun cells c a A outer s H E hot lam hr hgd => SE.meth rfl hgd (SE.var 2) (.cons (MethAt.row (dd := []) T.t_Works_turned rfl T.c_Works T.mt_Works_turned (o_Works_turned T TK) (hr.mono (by decide)) rfl T.b_Works_turned_3 rfl rfl) (.nil)) (SA.cons (SE.var 1) (SA.cons (SE.var 0) (SA.nil))) (cCons_len (cCons_len cNil_len))⟩
def l__law_right_17 : LT := lamAt (defBody (top 53)) [16] 0 [6]
abbrev nl__law_right_17 : List Str := [Str.ofString "twos", Str.ofString "unit", Str.ofString "works"]
def g__law_right_17 : Ev := cMeth (Str.ofString "turned") [(0, m_Works_turned, [])] (cVar 2) (cCons (cVar 0) (cCons (cVar 1) (cNil)))
theorem k__law_right_17 (T : Facts K mg) (TK : TabK K mg base tfs) : LamOk PW w K mg base (glOf K cls) (tbOf K tfs) 10 (lq (Str.ofString "_law_right")) l__law_right_17.params l__law_right_17.body l__law_right_17.scope nl__law_right_17 g__law_right_17 :=
  ⟨nscope_by (by decide +kernel), fun _ _ _ _ => rfl, fun cells c a A outer s H E hot lam hr hgd => SE.meth rfl hgd (SE.var 2) (.cons (MethAt.row (dd := []) T.t_Works_turned rfl T.c_Works T.mt_Works_turned (o_Works_turned T TK) (hr.mono (by decide)) rfl T.b_Works_turned_3 rfl rfl) (.nil)) (SA.cons (SE.var 0) (SA.cons (SE.var 1) (SA.nil))) (cCons_len (cCons_len cNil_len))⟩
def l__law_right_18 : LT := lamAt (defBody (top 53)) [16] 0 [7]
abbrev nl__law_right_18 : List Str := [Str.ofString "unit", Str.ofString "works"]
def g__law_right_18 : Ev := cMeth (Str.ofString "recast") [(0, m_Works_recast, [])] (cVar 1) (cCons (cVar 0) (cCons (cVar 0) (cNil)))
theorem k__law_right_18 (T : Facts K mg) (TK : TabK K mg base tfs) : LamOk PW w K mg base (glOf K cls) (tbOf K tfs) 10 (lq (Str.ofString "_law_right")) l__law_right_18.params l__law_right_18.body l__law_right_18.scope nl__law_right_18 g__law_right_18 :=
  ⟨nscope_by (by decide +kernel), fun _ _ _ _ => rfl, fun cells c a A outer s H E hot lam hr hgd => SE.meth rfl hgd (SE.var 1) (.cons (MethAt.row (dd := []) T.t_Works_recast rfl T.c_Works T.mt_Works_recast (o_Works_recast T TK) (hr.mono (by decide)) rfl T.b_Works_recast_3 rfl rfl) (.nil)) (SA.cons (SE.var 0) (SA.cons (SE.var 0) (SA.nil))) (cCons_len (cCons_len cNil_len))⟩
def l__law_right_19 : LT := lamAt (defBody (top 53)) [16] 0 [8]
abbrev nl__law_right_19 : List Str := [Str.ofString "unit", Str.ofString "works"]
def g__law_right_19 : Ev := cMeth (Str.ofString "turned") [(0, m_Works_turned, [])] (cVar 1) (cCons (cVar 0) (cCons (cVar 0) (cNil)))
theorem k__law_right_19 (T : Facts K mg) (TK : TabK K mg base tfs) : LamOk PW w K mg base (glOf K cls) (tbOf K tfs) 10 (lq (Str.ofString "_law_right")) l__law_right_19.params l__law_right_19.body l__law_right_19.scope nl__law_right_19 g__law_right_19 :=
  ⟨nscope_by (by decide +kernel), fun _ _ _ _ => rfl, fun cells c a A outer s H E hot lam hr hgd => SE.meth rfl hgd (SE.var 1) (.cons (MethAt.row (dd := []) T.t_Works_turned rfl T.c_Works T.mt_Works_turned (o_Works_turned T TK) (hr.mono (by decide)) rfl T.b_Works_turned_3 rfl rfl) (.nil)) (SA.cons (SE.var 0) (SA.cons (SE.var 0) (SA.nil))) (cCons_len (cCons_len cNil_len))⟩
abbrev tl__law_right : List (Ev × List Nat) := [(g__law_right_0, [5, 14]), (g__law_right_1, [5, 9, 14]), (g__law_right_2, [9, 14]), (g__law_right_3, [7, 14]), (g__law_right_4, [6, 14]), (g__law_right_5, [14]), (g__law_right_6, [14]), (g__law_right_7, [8, 14]), (g__law_right_8, [11, 14]), (g__law_right_9, [14]), (g__law_right_10, [14]), (g__law_right_11, [10, 14]), (g__law_right_12, [10, 13, 14]), (g__law_right_13, [12, 13, 14]), (g__law_right_14, [9, 14]), (g__law_right_15, [10, 14]), (g__law_right_16, [10, 13, 14]), (g__law_right_17, [12, 13, 14]), (g__law_right_18, [13, 14]), (g__law_right_19, [13, 14])]
abbrev n__law_roll : List Str := [Str.ofString "dice", Str.ofString "total", Str.ofString "found", Str.ofString "one", Str.ofString "two"]
abbrev p__law_roll : List Str := [Str.ofString "dice", Str.ofString "total"]
theorem s__law_roll : FnScope n__law_roll p__law_roll (defScope (top 50)) := ⟨rfl, rfl, rfl, by decide +kernel, rfl, by decide +kernel, by decide +kernel⟩
def m__law_roll : Fn := fnD 5 (sSeq (sIf (cB (cBin dGt (cBin dIx (cVar 0) (cC (.int 0))) (cC (.int 0)))) (sSeq (sSet 2 (cBin dMod (cBin dIx (cVar 0) (cC (.int 0))) (cVar 1))) (sSeq (sSub (cBin dFdiv (cBin dIx (cVar 0) (cC (.int 0))) (cVar 1)) (cVar 0) (cC (.int 0))) (sRet (cArgs dInt1 (cCons (cVar 2) (cNil)))))) (sNil)) (sSeq (sSub (cBin dAdd (cBin dIx (cVar 0) (cC (.int 2))) (cC (.int 1))) (cVar 0) (cC (.int 2))) (sSeq (sSet 3 (cBin dMod (cBin dAdd (cBin dIx (cVar 0) (cC (.int 1))) (cBin dMul (cC (.int 49979687)) (cBin dIx (cVar 0) (cC (.int 2))))) (cC (.int 2305843009213693951)))) (sSeq (sSet 4 (cBin dAdd (cBin dMul (cBin dMod (cBin dAdd (cBin dMul (cVar 3) (cVar 3)) (cBin dMul (cC (.int 131)) (cBin dIx (cVar 0) (cC (.int 2))))) (cC (.int 2305843009213693921))) (cC (.int 32452843))) (cVar 3))) (sRet (cBin dMod (cArgs dInt1 (cCons (cBin dFdiv (cVar 4) (cC (.int 65587))) (cNil))) (cVar 1)))))))
theorem o__law_roll (T : Facts K mg) (TK : TabK K mg base tfs) : FnG PW w K mg base (glOf K cls) (tbOf K tfs) 1 T.a__law_roll T.d__law_roll p__law_roll m__law_roll :=
  FnG.of T.t__law_roll.fn s__law_roll (fun cdv A outer s H E hot lam hr hgd => SB.cons (SS.if_ (ST.cmp op_gtAll dGt_ok (SE.ix rfl (SE.var 0) (SE.int)) (SE.int) (nomark _)) (SB.cons (SS.set 2 s__law_roll.nd (SE.op op_mod dMod_ok (SE.ix rfl (SE.var 0) (SE.int)) (SE.var 1))) (SB.cons (SS.sub (SE.op op_fdivW dFdiv_ok (SE.ix rfl (SE.var 0) (SE.int)) (SE.var 1)) (SE.var 0) (SE.int)) (SB.one (SS.ret (SE.callTy call_int1 dInt1_ok rfl T.f_int bt_int (SA.cons (SE.var 2) (SA.nil))))))) (SB.nil)) (SB.cons (SS.sub (SE.op op_addAll dAdd_ok (SE.ix rfl (SE.var 0) (SE.int)) (SE.int)) (SE.var 0) (SE.int)) (SB.cons (SS.set 3 s__law_roll.nd (SE.op op_mod dMod_ok (SE.op op_addAll dAdd_ok (SE.ix rfl (SE.var 0) (SE.int)) (SE.op op_mulW dMul_ok (SE.int) (SE.ix rfl (SE.var 0) (SE.int)))) (SE.int))) (SB.cons (SS.set 4 s__law_roll.nd (SE.op op_addAll dAdd_ok (SE.op op_mulW dMul_ok (SE.op op_mod dMod_ok (SE.op op_addAll dAdd_ok (SE.op op_mulW dMul_ok (SE.var 3) (SE.var 3)) (SE.op op_mulW dMul_ok (SE.int) (SE.ix rfl (SE.var 0) (SE.int)))) (SE.int)) (SE.int)) (SE.var 3))) (SB.one (SS.ret (SE.op op_mod dMod_ok (SE.callTy call_int1 dInt1_ok rfl T.f_int bt_int (SA.cons (SE.op op_fdivW dFdiv_ok (SE.var 4) (SE.int)) (SA.nil))) (SE.var 1))))))))
abbrev n__law_pick : List Str := [Str.ofString "dice", Str.ofString "things"]
abbrev p__law_pick : List Str := [Str.ofString "dice", Str.ofString "things"]
theorem s__law_pick : FnScope n__law_pick p__law_pick (defScope (top 51)) := ⟨rfl, rfl, rfl, by decide +kernel, rfl, by decide +kernel, by decide +kernel⟩
def m__law_pick : Fn := fnD 2 (sRet (cBin dIx (cVar 1) (cCall m__law_roll [] (cCons (cVar 0) (cCons (cArgs dLen (cCons (cVar 1) (cNil))) (cNil))))))
theorem o__law_pick (T : Facts K mg) (TK : TabK K mg base tfs) : FnG PW w K mg base (glOf K cls) (tbOf K tfs) 2 T.a__law_pick T.d__law_pick p__law_pick m__law_pick :=
  FnG.of T.t__law_pick.fn s__law_pick (fun cdv A outer s H E hot lam hr hgd => SB.one (SS.ret (SE.ix rfl (SE.var 1) (SE.fn (dd := []) (o__law_roll T TK) T.t__law_roll rfl (hr.mono (by decide)) hgd (T.b__law_roll_2) rfl (SA.cons (SE.var 0) (SA.cons (SE.callB call_len dLen_ok rfl T.f_len bb_len (SA.cons (SE.var 1) (SA.nil))) (SA.nil))) rfl (cCons_len (cCons_len cNil_len))))))
abbrev n__law_word : List Str := [Str.ofString "call", Str.ofString "error"]
abbrev p__law_word : List Str := [Str.ofString "call"]
theorem s__law_word : FnScope n__law_word p__law_word (defScope (top 52)) := ⟨rfl, rfl, rfl, by decide +kernel, rfl, by decide +kernel, by decide +kernel⟩
def m__law_word (cl : Nat → List D → Sto → Res D) : Fn := fnD 2 (sSeq (sTry (subN cmat) (sExp (cClo cl 0)) [.txt 3 [119, 111, 114, 107, 115], .txt 4 [114, 111, 119], .txt 1 [116, 97, 98, 108, 101], .txt 2 [111, 112, 101, 114, 97, 116, 105, 111, 110], .fld 5 1 [110, 97, 109, 101, 32] (Str.ofString "wanted")]) (sRet (cC (.str [102, 105, 110, 101]))))
theorem o__law_word (T : Facts K mg) (TK : TabK K mg base tfs) (kc : Nat) : FnC PW w K mg base (glOf K cls) (tbOf K tfs) kc 1 T.a__law_word T.d__law_word p__law_word m__law_word :=
  FnC.of T.t__law_word.fn s__law_word (fun cdv A outer s H E hot lam cl hr hgd O => SB.cons (SS.try_ rfl rfl s__law_word.nd rfl hgd hr.units T.f_repr (.inl rfl) T.s_sub (by rfl) (SC.txtS (k := 3) (x := Str.ofString "InvalidWorks") (y := Str.ofString "works") (s := [119, 111, 114, 107, 115]) (a := He.ga K (Str.ofString "InvalidWorks")) (by decide +kernel) rfl T.g_InvalidWorks rfl rfl (SC.txtS (k := 4) (x := Str.ofString "InvalidRow") (y := Str.ofString "row") (s := [114, 111, 119]) (a := He.ga K (Str.ofString "InvalidRow")) (by decide +kernel) rfl T.g_InvalidRow rfl rfl (SC.txtS (k := 1) (x := Str.ofString "InvalidTable") (y := Str.ofString "table") (s := [116, 97, 98, 108, 101]) (a := He.ga K (Str.ofString "InvalidTable")) (by decide +kernel) rfl T.g_InvalidTable rfl rfl (SC.txtS (k := 2) (x := Str.ofString "InvalidOperation") (y := Str.ofString "operation") (s := [111, 112, 101, 114, 97, 116, 105, 111, 110]) (a := He.ga K (Str.ofString "InvalidOperation")) (by decide +kernel) rfl T.g_InvalidOperation rfl rfl (SC.fldS (k := 5) (x := Str.ofString "UnknownName") (y := Str.ofString "name ") (s := [110, 97, 109, 101, 32]) (a := He.ga K (Str.ofString "UnknownName")) (n := Str.ofString "error") (f := Str.ofString "wanted") (by decide +kernel) rfl T.g_UnknownName rfl rfl rfl rfl (by decide) (by decide) T.u_UnknownName T.n_UnknownName (leaf_ok (k := 5) T.s_sub rfl (by decide +kernel)) (SC.nil)))))) (fun pn xe pass => SB.one (SS.expr (SE.callClo O rfl rfl (hr.mono (Nat.le_add_right _ _)) hgd)))) (SB.one (SS.ret (SE.str (by decide +kernel)))))
abbrev n_Works_places : List Str := [Str.ofString "self"]
theorem s_Works_places : FnScope n_Works_places p_Works_places (defScope (ini 47 1)) := ⟨rfl, rfl, rfl, by decide +kernel, rfl, by decide +kernel, by decide +kernel⟩
def m_Works_places : Fn := fnD 1 (sRet (cFld [0] (Str.ofString "own_places") (cVar 0)))
theorem o_Works_places (T : Facts K mg) (TK : TabK K mg base tfs) : FnG PW w K mg base (glOf K cls) (tbOf K tfs) 1 (pgA K (Str.ofString "Works") (Str.ofString "places")) T.d_Works_places p_Works_places m_Works_places :=
  FnG.of T.t_Works_places.fn s_Works_places (fun cdv A outer s H E hot lam hr hgd => SB.one (SS.ret (SE.fld rfl (.cons rfl T.c_Works T.na_Works_own_places (.nil)) (SE.var 0))))
abbrev n_Works_hands : List Str := [Str.ofString "self"]
theorem s_Works_hands : FnScope n_Works_hands p_Works_hands (defScope (ini 47 2)) := ⟨rfl, rfl, rfl, by decide +kernel, rfl, by decide +kernel, by decide +kernel⟩
def m_Works_hands : Fn := fnD 1 (sRet (cFld [0] (Str.ofString "own_hands") (cVar 0)))
theorem o_Works_hands (T : Facts K mg) (TK : TabK K mg base tfs) : FnG PW w K mg base (glOf K cls) (tbOf K tfs) 1 (pgA K (Str.ofString "Works") (Str.ofString "hands")) T.d_Works_hands p_Works_hands m_Works_hands :=
  FnG.of T.t_Works_hands.fn s_Works_hands (fun cdv A outer s H E hot lam hr hgd => SB.one (SS.ret (SE.fld rfl (.cons rfl T.c_Works T.na_Works_own_hands (.nil)) (SE.var 0))))
abbrev n_Works_table : List Str := [Str.ofString "self"]
theorem s_Works_table : FnScope n_Works_table p_Works_table (defScope (ini 47 3)) := ⟨rfl, rfl, rfl, by decide +kernel, rfl, by decide +kernel, by decide +kernel⟩
def m_Works_table : Fn := fnD 1 (sRet (cFld [0] (Str.ofString "own_table") (cVar 0)))
theorem o_Works_table (T : Facts K mg) (TK : TabK K mg base tfs) : FnG PW w K mg base (glOf K cls) (tbOf K tfs) 1 (pgA K (Str.ofString "Works") (Str.ofString "table")) T.d_Works_table p_Works_table m_Works_table :=
  FnG.of T.t_Works_table.fn s_Works_table (fun cdv A outer s H E hot lam hr hgd => SB.one (SS.ret (SE.fld rfl (.cons rfl T.c_Works T.na_Works_own_table (.nil)) (SE.var 0))))
def b__law_right_0 : EvS := sAsg (cTup (cCons (cTup (cCons (cC (.int 1)) (cCons (cC (.int 1)) (cNil)))) (cCons (cTup (cCons (cC (.int 0)) (cCons (cC (.int 1)) (cNil)))) (cNil)))) (gT (gConsD (gN 1) (gConsD (gN 2) (gNilD))))
def b__law_right_1 : EvS := sSet 14 (cMake 0 m_Works___init__ [] (cCons (cTup (cCons (cC (.str [97])) (cCons (cC (.str [98])) (cNil)))) (cCons (cTup (cCons (cC (.str [104])) (cCons (cC (.str [105])) (cNil)))) (cCons (cTup (cCons (cTup (cCons (cVar 1) (cCons (cVar 2) (cCons (cVar 1) (cCons (cVar 2) (cNil)))))) (cCons (cTup (cCons (cVar 2) (cCons (cTup (cCons (cC (.int 2)) (cCons (cC (.int 1)) (cNil)))) (cCons (cVar 2) (cCons (cVar 1) (cNil)))))) (cNil)))) (cNil)))))
def b__law_right_2 : EvS := sSet 9 (cTup (cCons (cVar 1) (cCons (cVar 2) (cNil))))
def b__law_right_3 : EvS := sSet 5 (cCall m__law_pick [] (cCons (cVar 0) (cCons (cLst (cCons (cC .non) (cCons (cTup (cNil)) (cCons (cTup (cCons (cVar 1) (cNil))) (cCons (cLst (cCons (cVar 1) (cCons (cVar 1) (cNil)))) (cCons (cTup (cCons (cVar 1) (cCons (cTup (cCons (cC (.int 2)) (cCons (cC (.int 2)) (cNil)))) (cNil)))) (cCons (cTup (cCons (cVar 1) (cCons (cC (.int 1)) (cNil)))) (cCons (cBin dAdd (cVar 9) (cTup (cCons (cVar 1) (cNil)))) (cCons (cC (.str [97, 98])) (cCons (cTup (cCons (cC (.bl true)) (cCons (cVar 1) (cNil)))) (cNil))))))))))) (cNil))))
def b__law_right_4 : EvS := sSet 3 (cLst (cCons (cC (.clo 0 [])) (cCons (cC (.clo 1 [])) (cCons (cC (.clo 2 [])) (cNil)))))
def b__law_right_5 : EvS := sIf (cB (cBin dNeV (cLc (cSeqI (cVar 3)) (gN 15) (tYesD) (cCallT m__law_word tl__law_right (cCons (cVar 15) (cNil))) [15]) (cBin dAdd (cRepC (cCons (cC (.str [114, 111, 119])) (cNil)) 2) (cLst (cCons (cC (.str [102, 105, 110, 101])) (cNil)))))) (sRet (cC (.bl false))) (sNil)
def b__law_right_6 : EvS := sSet 7 (cCall m__law_pick [] (cCons (cVar 0) (cCons (cLst (cCons (cC .non) (cCons (cLst (cCons (cC (.str [104])) (cNil))) (cCons (cTup (cCons (cC (.str [105])) (cCons (cC (.str [104])) (cNil)))) (cCons (cC (.str [104])) (cCons (cTup (cCons (cC (.int 1)) (cNil))) (cCons (cTup (cCons (cC (.str [104])) (cCons (cC (.str [104])) (cNil)))) (cCons (cDic (cPC (cC (.str [104])) (cC (.int 1)) (cPN))) (cCons (cTup (cCons (cC (.str [72])) (cNil))) (cNil)))))))))) (cNil))))
def b__law_right_7 : EvS := sSet 6 (cCall m__law_pick [] (cCons (cVar 0) (cCons (cLst (cCons (cC (.str [97])) (cCons (cC (.str [122, 122])) (cCons (cC (.str [120, 46, 49])) (cNil))))) (cNil))))
def b__law_right_8 : EvS := sSet 3 (cLst (cCons (cC (.clo 3 [])) (cCons (cC (.clo 4 [])) (cCons (cC (.clo 5 [])) (cCons (cC (.clo 6 [])) (cNil))))))
def b__law_right_9 : EvS := sIf (cB (cBin dNeV (cLc (cSeqI (cVar 3)) (gN 15) (tYesD) (cCallT m__law_word tl__law_right (cCons (cVar 15) (cNil))) [15]) (cLst (cCons (cC (.str [111, 112, 101, 114, 97, 116, 105, 111, 110])) (cCons (cBin dAdd (cC (.str [110, 97, 109, 101, 32])) (cArgs dRepr (cCons (cVar 6) (cNil)))) (cCons (cC (.str [102, 105, 110, 101])) (cCons (cC (.str [102, 105, 110, 101])) (cNil)))))))) (sRet (cC (.bl false))) (sNil)
def b__law_right_10 : EvS := sSet 8 (cCall m__law_pick [] (cCons (cVar 0) (cCons (cLst (cCons (cC .non) (cCons (cTup (cNil)) (cCons (cDic (cPC (cC (.str [122, 122])) (cC (.str [97])) (cPN))) (cCons (cDic (cPC (cC (.str [97])) (cC (.str [65])) (cPN))) (cCons (cDic (cPC (cC (.str [97])) (cC (.int 1)) (cPN))) (cCons (cLst (cCons (cTup (cCons (cC (.str [97])) (cCons (cC (.str [99])) (cNil)))) (cNil))) (cCons (cDic (cPC (cC (.int 1)) (cC (.str [97])) (cPN))) (cCons (cDic (cPC (cC (.str [97])) (cC (.str [97, 98, 99, 100, 101, 102, 103, 104, 105, 106, 107, 108, 109])) (cPN))) (cNil)))))))))) (cNil))))
def b__law_right_11 : EvS := sSet 11 (cCall m__law_pick [] (cCons (cVar 0) (cCons (cLst (cCons (cDic (cPC (cC (.str [97])) (cC (.str [98])) (cPN))) (cCons (cDic (cPC (cC (.str [97])) (cC (.str [104])) (cPN))) (cCons (cDic (cPC (cC (.str [104])) (cC (.str [105])) (cPN))) (cCons (cDic (cPC (cC (.str [97])) (cC (.str [99])) (cPC (cC (.str [98])) (cC (.str [99])) (cPN)))) (cCons (cDic (cPC (cC (.str [104])) (cC (.str [98])) (cPN))) (cNil))))))) (cNil))))
def b__law_right_12 : EvS := sSet 3 (cLst (cCons (cC (.clo 7 [])) (cCons (cC (.clo 8 [])) (cCons (cC (.clo 9 [])) (cCons (cC (.clo 10 [])) (cNil))))))
def b__law_right_13 : EvS := sIf (cB (cBin dNeV (cLc (cSeqI (cVar 3)) (gN 15) (tYesD) (cCallT m__law_word tl__law_right (cCons (cVar 15) (cNil))) [15]) (cLst (cCons (cC (.str [111, 112, 101, 114, 97, 116, 105, 111, 110])) (cCons (cC (.str [119, 111, 114, 107, 115])) (cCons (cC (.str [102, 105, 110, 101])) (cCons (cC (.str [102, 105, 110, 101])) (cNil)))))))) (sRet (cC (.bl false))) (sNil)
def b__law_right_14 : EvS := sSet 10 (cCall m__law_pick [] (cCons (cVar 0) (cCons (cLst (cCons (cC .non) (cCons (cTup (cNil)) (cCons (cTup (cCons (cVar 9) (cNil))) (cCons (cLst (cCons (cVar 9) (cCons (cVar 9) (cNil)))) (cCons (cTup (cCons (cVar 9) (cCons (cTup (cCons (cVar 1) (cNil))) (cNil)))) (cCons (cTup (cCons (cVar 9) (cCons (cVar 9) (cCons (cVar 9) (cNil))))) (cCons (cTup (cCons (cVar 9) (cCons (cTup (cCons (cVar 1) (cCons (cC .non) (cNil)))) (cNil)))) (cCons (cC (.str [116, 97, 98, 108, 101])) (cNil)))))))))) (cNil))))
def b__law_right_15 : EvS := sAsg (cTup (cCons (cTup (cCons (cVar 9) (cCons (cTup (cCons (cVar 2) (cCons (cVar 1) (cNil)))) (cNil)))) (cCons (cTup (cCons (cTup (cCons (cTup (cCons (cC (.int 2)) (cCons (cC (.int 1)) (cNil)))) (cCons (cVar 2) (cNil)))) (cCons (cTup (cCons (cVar 2) (cCons (cTup (cCons (cC (.int 2)) (cCons (cC (.int 1)) (cNil)))) (cNil)))) (cNil)))) (cNil)))) (gT (gConsD (gN 13) (gConsD (gN 12) (gNilD))))
def b__law_right_16 : EvS := sSet 3 (cLst (cCons (cC (.clo 11 [])) (cCons (cC (.clo 12 [])) (cCons (cC (.clo 13 [])) (cCons (cC (.clo 14 [])) (cCons (cC (.clo 15 [])) (cCons (cC (.clo 16 [])) (cCons (cC (.clo 17 [])) (cCons (cC (.clo 18 [])) (cCons (cC (.clo 19 [])) (cNil)))))))))))
def b__law_right_17 : EvS := sSet 4 (cBin dAdd (cBin dAdd (cBin dAdd (cBin dAdd (cRepC (cCons (cC (.str [116, 97, 98, 108, 101])) (cNil)) 2) (cRepC (cCons (cC (.str [111, 112, 101, 114, 97, 116, 105, 111, 110])) (cNil)) 2)) (cRepC (cCons (cC (.str [116, 97, 98, 108, 101])) (cNil)) 2)) (cLst (cCons (cC (.str [111, 112, 101, 114, 97, 116, 105, 111, 110])) (cNil)))) (cRepC (cCons (cC (.str [102, 105, 110, 101])) (cNil)) 2))
def b__law_right_18 : EvS := sIf (cB (cBin dNeV (cLc (cSeqI (cVar 3)) (gN 15) (tYesD) (cCallT m__law_word tl__law_right (cCons (cVar 15) (cNil))) [15]) (cVar 4))) (sRet (cC (.bl false))) (sNil)
def b__law_right_19 : EvS := sRet (cAndV (cBin dEqV (cProp [(0, m_Works_places)] (cVar 14)) (cTup (cCons (cC (.str [97])) (cCons (cC (.str [98])) (cNil))))) (cAndV (cBin dEqV (cProp [(0, m_Works_hands)] (cVar 14)) (cTup (cCons (cC (.str [104])) (cCons (cC (.str [105])) (cNil))))) (cBin dEqV (cBin dIx (cProp [(0, m_Works_table)] (cVar 14)) (cC (.int 0))) (cTup (cCons (cVar 1) (cCons (cVar 2) (cCons (cVar 1) (cCons (cVar 2) (cNil)))))))))
abbrev n__law_right : List Str := [Str.ofString "dice", Str.ofString "one", Str.ofString "nought", Str.ofString "calls", Str.ofString "due", Str.ofString "bad", Str.ofString "far", Str.ofString "hands", Str.ofString "names", Str.ofString "row", Str.ofString "table", Str.ofString "twice", Str.ofString "twos", Str.ofString "unit", Str.ofString "works", Str.ofString "call"]
abbrev p__law_right : List Str := [Str.ofString "dice"]
theorem s__law_right : FnScope n__law_right p__law_right (defScope (top 53)) := ⟨rfl, rfl, rfl, by decide +kernel, rfl, by decide +kernel, by decide +kernel⟩
abbrev ls__law_right : List LT := [l__law_right_0, l__law_right_1, l__law_right_2, l__law_right_3, l__law_right_4, l__law_right_5, l__law_right_6, l__law_right_7, l__law_right_8, l__law_right_9, l__law_right_10, l__law_right_11, l__law_right_12, l__law_right_13, l__law_right_14, l__law_right_15, l__law_right_16, l__law_right_17, l__law_right_18, l__law_right_19]
def m__law_right : Fn := gvD (mkD (fnD 16 (sSeq b__law_right_0 (sSeq b__law_right_1 (sSeq b__law_right_2 (sSeq b__law_right_3 (sSeq b__law_right_4 (sSeq b__law_right_5 (sSeq b__law_right_6 (sSeq b__law_right_7 (sSeq b__law_right_8 (sSeq b__law_right_9 (sSeq b__law_right_10 (sSeq b__law_right_11 (sSeq b__law_right_12 (sSeq b__law_right_13 (sSeq b__law_right_14 (sSeq b__law_right_15 (sSeq b__law_right_16 (sSeq b__law_right_17 (sSeq b__law_right_18 (b__law_right_19))))))))))))))))))))))
theorem o__law_right (T : Facts K mg) (TK : TabK K mg base tfs) : FnG PW w K mg base (glOf K cls) (tbOf K tfs) 13 T.a__law_right T.d__law_right p__law_right m__law_right :=
  FnG.give (FnG.maker ls__law_right T.t__law_right.fn s__law_right (fun cdv A outer s H E hot hc hr hgd => SB.cons (SS.asg (SE.tup (SA.cons (SE.tup (SA.cons (SE.int) (SA.cons (SE.int) (SA.nil)))) (SA.cons (SE.tup (SA.cons (SE.int) (SA.cons (SE.int) (SA.nil)))) (SA.nil)))) (SG.tup rfl rfl (SGs.cons (SG.name 1 s__law_right.nd) (SGs.cons (SG.name 2 s__law_right.nd) (SGs.nil))) (gConsD_len (gConsD_len gNilD_len)))) (SB.cons (SS.set 14 s__law_right.nd (SE.make (dd := []) T.t_Works___init__ T.mk_Works T.g_Works rfl (o_Works___init__ T TK) rfl (hr.mono (by decide)) hgd T.b_Works___init___4 rfl (SA.cons (SE.tup (SA.cons (SE.str (by decide +kernel)) (SA.cons (SE.str (by decide +kernel)) (SA.nil)))) (SA.cons (SE.tup (SA.cons (SE.str (by decide +kernel)) (SA.cons (SE.str (by decide +kernel)) (SA.nil)))) (SA.cons (SE.tup (SA.cons (SE.tup (SA.cons (SE.var 1) (SA.cons (SE.var 2) (SA.cons (SE.var 1) (SA.cons (SE.var 2) (SA.nil)))))) (SA.cons (SE.tup (SA.cons (SE.var 2) (SA.cons (SE.tup (SA.cons (SE.int) (SA.cons (SE.int) (SA.nil)))) (SA.cons (SE.var 2) (SA.cons (SE.var 1) (SA.nil)))))) (SA.nil)))) (SA.nil)))) rfl (cCons_len (cCons_len (cCons_len cNil_len))))) (SB.cons (SS.set 9 s__law_right.nd (SE.tup (SA.cons (SE.var 1) (SA.cons (SE.var 2) (SA.nil))))) (SB.cons (SS.set 5 s__law_right.nd (SE.fn (dd := []) (o__law_pick T TK) T.t__law_pick rfl (hr.mono (by decide)) hgd (T.b__law_pick_2) rfl (SA.cons (SE.var 0) (SA.cons (SE.lst (SA.cons (SE.non) (SA.cons (SE.tup (SA.nil)) (SA.cons (SE.tup (SA.cons (SE.var 1) (SA.nil))) (SA.cons (SE.lst (SA.cons (SE.var 1) (SA.cons (SE.var 1) (SA.nil)))) (SA.cons (SE.tup (SA.cons (SE.var 1) (SA.cons (SE.tup (SA.cons (SE.int) (SA.cons (SE.int) (SA.nil)))) (SA.nil)))) (SA.cons (SE.tup (SA.cons (SE.var 1) (SA.cons (SE.int) (SA.nil)))) (SA.cons (SE.op op_addAll dAdd_ok (SE.var 9) (SE.tup (SA.cons (SE.var 1) (SA.nil)))) (SA.cons (SE.str (by decide +kernel)) (SA.cons (SE.tup (SA.cons (SE.bl) (SA.cons (SE.var 1) (SA.nil)))) (SA.nil))))))))))) (SA.nil))) rfl (cCons_len (cCons_len cNil_len)))) (SB.cons (SS.set 3 s__law_right.nd (SE.lst (SA.cons (SE.lamM (l := l__law_right_0) (mk_maker TK (by decide +kernel) (hc.symm.trans T.c__law_right)) rfl (show freeB (defScope (top 53)).names l__law_right_0.scope.names = true from by decide +kernel)) (SA.cons (SE.lamM (l := l__law_right_1) (mk_maker TK (by decide +kernel) (hc.symm.trans T.c__law_right)) rfl (show freeB (defScope (top 53)).names l__law_right_1.scope.names = true from by decide +kernel)) (SA.cons (SE.lamM (l := l__law_right_2) (mk_maker TK (by decide +kernel) (hc.symm.trans T.c__law_right)) rfl (show freeB (defScope (top 53)).names l__law_right_2.scope.names = true from by decide +kernel)) (SA.nil)))))) (SB.cons (SS.if_ (ST.cmp (op_neAll hr.units) dNeV_ok (SE.lcL (own := [(Str.ofString "call", 15)]) (o1 := [15]) (tl := tl__law_right) (mk_maker TK (by decide +kernel) (hc.symm.trans T.c__law_right)) (.cons ⟨8, nl__law_right_0, k__law_right_0 T TK, show freeB (defScope (top 53)).names l__law_right_0.scope.names = true from by decide +kernel, by decide +kernel, rfl, hr.mono (by decide)⟩ (.cons ⟨8, nl__law_right_1, k__law_right_1 T TK, show freeB (defScope (top 53)).names l__law_right_1.scope.names = true from by decide +kernel, by decide +kernel, rfl, hr.mono (by decide)⟩ (.cons ⟨8, nl__law_right_2, k__law_right_2 T TK, show freeB (defScope (top 53)).names l__law_right_2.scope.names = true from by decide +kernel, by decide +kernel, rfl, hr.mono (by decide)⟩ (.cons ⟨9, nl__law_right_3, k__law_right_3 T TK, show freeB (defScope (top 53)).names l__law_right_3.scope.names = true from by decide +kernel, by decide +kernel, rfl, hr.mono (by decide)⟩ (.cons ⟨9, nl__law_right_4, k__law_right_4 T TK, show freeB (defScope (top 53)).names l__law_right_4.scope.names = true from by decide +kernel, by decide +kernel, rfl, hr.mono (by decide)⟩ (.cons ⟨9, nl__law_right_5, k__law_right_5 T TK, show freeB (defScope (top 53)).names l__law_right_5.scope.names = true from by decide +kernel, by decide +kernel, rfl, hr.mono (by decide)⟩ (.cons ⟨9, nl__law_right_6, k__law_right_6 T TK, show freeB (defScope (top 53)).names l__law_right_6.scope.names = true from by decide +kernel, by decide +kernel, rfl, hr.mono (by decide)⟩ (.cons ⟨9, nl__law_right_7, k__law_right_7 T TK, show freeB (defScope (top 53)).names l__law_right_7.scope.names = true from by decide +kernel, by decide +kernel, rfl, hr.mono (by decide)⟩ (.cons ⟨9, nl__law_right_8, k__law_right_8 T TK, show freeB (defScope (top 53)).names l__law_right_8.scope.names = true from by decide +kernel, by decide +kernel, rfl, hr.mono (by decide)⟩ (.cons ⟨9, nl__law_right_9, k__law_right_9 T TK, show freeB (defScope (top 53)).names l__law_right_9.scope.names = true from by decide +kernel, by decide +kernel, rfl, hr.mono (by decide)⟩ (.cons ⟨9, nl__law_right_10, k__law_right_10 T TK, show freeB (defScope (top 53)).names l__law_right_10.scope.names = true from by decide +kernel, by decide +kernel, rfl, hr.mono (by decide)⟩ (.cons ⟨10, nl__law_right_11, k__law_right_11 T TK, show freeB (defScope (top 53)).names l__law_right_11.scope.names = true from by decide +kernel, by decide +kernel, rfl, hr.mono (by decide)⟩ (.cons ⟨10, nl__law_right_12, k__law_right_12 T TK, show freeB (defScope (top 53)).names l__law_right_12.scope.names = true from by decide +kernel, by decide +kernel, rfl, hr.mono (by decide)⟩ (.cons ⟨10, nl__law_right_13, k__law_right_13 T TK, show freeB (defScope (top 53)).names l__law_right_13.scope.names = true from by decide +kernel, by decide +kernel, rfl, hr.mono (by decide)⟩ (.cons ⟨10, nl__law_right_14, k__law_right_14 T TK, show freeB (defScope (top 53)).names l__law_right_14.scope.names = true from by decide +kernel, by decide +kernel, rfl, hr.mono (by decide)⟩ (.cons ⟨10, nl__law_right_15, k__law_right_15 T TK, show freeB (defScope (top 53)).names l__law_right_15.scope.names = true from by decide +kernel, by decide +kernel, rfl, hr.mono (by decide)⟩ (.cons ⟨10, nl__law_right_16, k__law_right_16 T TK, show freeB (defScope (top 53)).names l__law_right_16.scope.names = true from by decide +kernel, by decide +kernel, rfl, hr.mono (by decide)⟩ (.cons ⟨10, nl__law_right_17, k__law_right_17 T TK, show freeB (defScope (top 53)).names l__law_right_17.scope.names = true from by decide +kernel, by decide +kernel, rfl, hr.mono (by decide)⟩ (.cons ⟨10, nl__law_right_18, k__law_right_18 T TK, show freeB (defScope (top 53)).names l__law_right_18.scope.names = true from by decide +kernel, by decide +kernel, rfl, hr.mono (by decide)⟩ (.cons ⟨10, nl__law_right_19, k__law_right_19 T TK, show freeB (defScope (top 53)).names l__law_right_19.scope.names = true from by decide +kernel, by decide +kernel, rfl, hr.mono (by decide)⟩ (.nil))))))))))))))))))))) (by rfl) (fun kc => o__law_word T TK kc) T.t__law_word hgd T.b__law_word_1 rfl s__law_right.nd (SI.seq rfl (SE.var 3)) (blkOk_by (by kernel_rfl)) (by decide) (fun _ _ _ _ _ _ => SG.name 15 s__law_right.nd) (fun _ _ _ _ _ _ => STs.nil) (fun _ _ _ _ _ _ => SA.cons (SE.var 15) (SA.nil)) rfl (cCons_len cNil_len)) (SE.op op_addAll dAdd_ok (SE.repC rfl (SA.cons (SE.str (by decide +kernel)) (SA.nil))) (SE.lst (SA.cons (SE.str (by decide +kernel)) (SA.nil)))) (nomark _)) (SB.one (SS.ret (SE.bl))) (SB.nil)) (SB.cons (SS.set 7 s__law_right.nd (SE.fn (dd := []) (o__law_pick T TK) T.t__law_pick rfl (hr.mono (by decide)) hgd (T.b__law_pick_2) rfl (SA.cons (SE.var 0) (SA.cons (SE.lst (SA.cons (SE.non) (SA.cons (SE.lst (SA.cons (SE.str (by decide +kernel)) (SA.nil))) (SA.cons (SE.tup (SA.cons (SE.str (by decide +kernel)) (SA.cons (SE.str (by decide +kernel)) (SA.nil)))) (SA.cons (SE.str (by decide +kernel)) (SA.cons (SE.tup (SA.cons (SE.int) (SA.nil))) (SA.cons (SE.tup (SA.cons (SE.str (by decide +kernel)) (SA.cons (SE.str (by decide +kernel)) (SA.nil)))) (SA.cons (SE.dic (SPs.cons (fun _ => SE.str (by decide +kernel)) (fun _ => SE.int) (SPs.nil)) (by simp)) (SA.cons (SE.tup (SA.cons (SE.str (by decide +kernel)) (SA.nil))) (SA.nil)))))))))) (SA.nil))) rfl (cCons_len (cCons_len cNil_len)))) (SB.cons (SS.set 6 s__law_right.nd (SE.fn (dd := []) (o__law_pick T TK) T.t__law_pick rfl (hr.mono (by decide)) hgd (T.b__law_pick_2) rfl (SA.cons (SE.var 0) (SA.cons (SE.lst (SA.cons (SE.str (by decide +kernel)) (SA.cons (SE.str (by decide +kernel)) (SA.cons (SE.str (by decide +kernel)) (SA.nil))))) (SA.nil))) rfl (cCons_len (cCons_len cNil_len)))) (SB.cons (SS.set 3 s__law_right.nd (SE.lst (SA.cons (SE.lamM (l := l__law_right_3) (mk_maker TK (by decide +kernel) (hc.symm.trans T.c__law_right)) rfl (show freeB (defScope (top 53)).names l__law_right_3.scope.names = true from by decide +kernel)) (SA.cons (SE.lamM (l := l__law_right_4) (mk_maker TK (by decide +kernel) (hc.symm.trans T.c__law_right)) rfl (show freeB (defScope (top 53)).names l__law_right_4.scope.names = true from by decide +kernel)) (SA.cons (SE.lamM (l := l__law_right_5) (mk_maker TK (by decide +kernel) (hc.symm.trans T.c__law_right)) rfl (show freeB (defScope (top 53)).names l__law_right_5.scope.names = true from by decide +kernel)) (SA.cons (SE.lamM (l := l__law_right_6) (mk_maker TK (by decide +kernel) (hc.symm.trans T.c__law_right)) rfl (show freeB (defScope (top 53)).names l__law_right_6.scope.names = true from by decide +kernel)) (SA.nil))))))) (SB.cons (SS.if_ (ST.cmp (op_neAll hr.units) dNeV_ok (SE.lcL (own := [(Str.ofString "call", 15)]) (o1 := [15]) (tl := tl__law_right) (mk_maker TK (by decide +kernel) (hc.symm.trans T.c__law_right)) (.cons ⟨8, nl__law_right_0, k__law_right_0 T TK, show freeB (defScope (top 53)).names l__law_right_0.scope.names = true from by decide +kernel, by decide +kernel, rfl, hr.mono (by decide)⟩ (.cons ⟨8, nl__law_right_1, k__law_right_1 T TK, show freeB (defScope (top 53)).names l__law_right_1.scope.names = true from by decide +kernel, by decide +kernel, rfl, hr.mono (by decide)⟩ (.cons ⟨8, nl__law_right_2, k__law_right_2 T TK, show freeB (defScope (top 53)).names l__law_right_2.scope.names = true from by decide +kernel, by decide +kernel, rfl, hr.mono (by decide)⟩ (.cons ⟨9, nl__law_right_3, k__law_right_3 T TK, show freeB (defScope (top 53)).names l__law_right_3.scope.names = true from by decide +kernel, by decide +kernel, rfl, hr.mono (by decide)⟩ (.cons ⟨9, nl__law_right_4, k__law_right_4 T TK, show freeB (defScope (top 53)).names l__law_right_4.scope.names = true from by decide +kernel, by decide +kernel, rfl, hr.mono (by decide)⟩ (.cons ⟨9, nl__law_right_5, k__law_right_5 T TK, show freeB (defScope (top 53)).names l__law_right_5.scope.names = true from by decide +kernel, by decide +kernel, rfl, hr.mono (by decide)⟩ (.cons ⟨9, nl__law_right_6, k__law_right_6 T TK, show freeB (defScope (top 53)).names l__law_right_6.scope.names = true from by decide +kernel, by decide +kernel, rfl, hr.mono (by decide)⟩ (.cons ⟨9, nl__law_right_7, k__law_right_7 T TK, show freeB (defScope (top 53)).names l__law_right_7.scope.names = true from by decide +kernel, by decide +kernel, rfl, hr.mono (by decide)⟩ (.cons ⟨9, nl__law_right_8, k__law_right_8 T TK, show freeB (defScope (top 53)).names l__law_right_8.scope.names = true from by decide +kernel, by decide +kernel, rfl, hr.mono (by decide)⟩ (.cons ⟨9, nl__law_right_9, k__law_right_9 T TK, show freeB (defScope (top 53)).names l__law_right_9.scope.names = true from by decide +kernel, by decide +kernel, rfl, hr.mono (by decide)⟩ (.cons ⟨9, nl__law_right_10, k__law_right_10 T TK, show freeB (defScope (top 53)).names l__law_right_10.scope.names = true from by decide +kernel, by decide +kernel, rfl, hr.mono (by decide)⟩ (.cons ⟨10, nl__law_right_11, k__law_right_11 T TK, show freeB (defScope (top 53)).names l__law_right_11.scope.names = true from by decide +kernel, by decide +kernel, rfl, hr.mono (by decide)⟩ (.cons ⟨10, nl__law_right_12, k__law_right_12 T TK, show freeB (defScope (top 53)).names l__law_right_12.scope.names = true from by decide +kernel, by decide +kernel, rfl, hr.mono (by decide)⟩ (.cons ⟨10, nl__law_right_13, k__law_right_13 T TK, show freeB (defScope (top 53)).names l__law_right_13.scope.names = true from by decide +kernel, by decide +kernel, rfl, hr.mono (by decide)⟩ (.cons ⟨10, nl__law_right_14, k__law_right_14 T TK, show freeB (defScope (top 53)).names l__law_right_14.scope.names = true from by decide +kernel, by decide +kernel, rfl, hr.mono (by decide)⟩ (.cons ⟨10, nl__law_right_15, k__law_right_15 T TK, show freeB (defScope (top 53)).names l__law_right_15.scope.names = true from by decide +kernel, by decide +kernel, rfl, hr.mono (by decide)⟩ (.cons ⟨10, nl__law_right_16, k__law_right_16 T TK, show freeB (defScope (top 53)).names l__law_right_16.scope.names = true from by decide +kernel, by decide +kernel, rfl, hr.mono (by decide)⟩ (.cons ⟨10, nl__law_right_17, k__law_right_17 T TK, show freeB (defScope (top 53)).names l__law_right_17.scope.names = true from by decide +kernel, by decide +kernel, rfl, hr.mono (by decide)⟩ (.cons ⟨10, nl__law_right_18, k__law_right_18 T TK, show freeB (defScope (top 53)).names l__law_right_18.scope.names = true from by decide +kernel, by decide +kernel, rfl, hr.mono (by decide)⟩ (.cons ⟨10, nl__law_right_19, k__law_right_19 T TK, show freeB (defScope (top 53)).names l__law_right_19.scope.names = true from by decide +kernel, by decide +kernel, rfl, hr.mono (by decide)⟩ (.nil))))))))))))))))))))) (by rfl) (fun kc => o__law_word T TK kc) T.t__law_word hgd T.b__law_word_1 rfl s__law_right.nd (SI.seq rfl (SE.var 3)) (blkOk_by (by kernel_rfl)) (by decide) (fun _ _ _ _ _ _ => SG.name 15 s__law_right.nd) (fun _ _ _ _ _ _ => STs.nil) (fun _ _ _ _ _ _ => SA.cons (SE.var 15) (SA.nil)) rfl (cCons_len cNil_len)) (SE.lst (SA.cons (SE.str (by decide +kernel)) (SA.cons (SE.op op_addAll dAdd_ok (SE.str (by decide +kernel)) (SE.callB (call_reprD hgd hr.units) dRepr_ok rfl T.f_repr bb_repr (SA.cons (SE.var 6) (SA.nil)))) (SA.cons (SE.str (by decide +kernel)) (SA.cons (SE.str (by decide +kernel)) (SA.nil)))))) (nomark _)) (SB.one (SS.ret (SE.bl))) (SB.nil)) (SB.cons (SS.set 8 s__law_right.nd (SE.fn (dd := []) (o__law_pick T TK) T.t__law_pick rfl (hr.mono (by decide)) hgd (T.b__law_pick_2) rfl (SA.cons (SE.var 0) (SA.cons (SE.lst (SA.cons (SE.non) (SA.cons (SE.tup (SA.nil)) (SA.cons (SE.dic (SPs.cons (fun _ => SE.str (by decide +kernel)) (fun _ => SE.str (by decide +kernel)) (SPs.nil)) (by simp)) (SA.cons (SE.dic (SPs.cons (fun _ => SE.str (by decide +kernel)) (fun _ => SE.str (by decide +kernel)) (SPs.nil)) (by simp)) (SA.cons (SE.dic (SPs.cons (fun _ => SE.str (by decide +kernel)) (fun _ => SE.int) (SPs.nil)) (by simp)) (SA.cons (SE.lst (SA.cons (SE.tup (SA.cons (SE.str (by decide +kernel)) (SA.cons (SE.str (by decide +kernel)) (SA.nil)))) (SA.nil))) (SA.cons (SE.dic (SPs.cons (fun _ => SE.int) (fun _ => SE.str (by decide +kernel)) (SPs.nil)) (by simp)) (SA.cons (SE.dic (SPs.cons (fun _ => SE.str (by decide +kernel)) (fun _ => SE.str (by decide +kernel)) (SPs.nil)) (by simp)) (SA.nil)))))))))) (SA.nil))) rfl (cCons_len (cCons_len cNil_len)))) (SB.cons (SS.set 11 s__law_right.nd (SE.fn (dd := []) (o__law_pick T TK) T.t__law_pick rfl (hr.mono (by decide)) hgd (T.b__law_pick_2) rfl (SA.cons (SE.var 0) (SA.cons (SE.lst (SA.cons (SE.dic (SPs.cons (fun _ => SE.str (by decide +kernel)) (fun _ => SE.str (by decide +kernel)) (SPs.nil)) (by simp)) (SA.cons (SE.dic (SPs.cons (fun _ => SE.str (by decide +kernel)) (fun _ => SE.str (by decide +kernel)) (SPs.nil)) (by simp)) (SA.cons (SE.dic (SPs.cons (fun _ => SE.str (by decide +kernel)) (fun _ => SE.str (by decide +kernel)) (SPs.nil)) (by simp)) (SA.cons (SE.dic (SPs.cons (fun _ => SE.str (by decide +kernel)) (fun _ => SE.str (by decide +kernel)) (SPs.cons (fun _ => SE.str (by decide +kernel)) (fun _ => SE.str (by decide +kernel)) (SPs.nil))) (by simp)) (SA.cons (SE.dic (SPs.cons (fun _ => SE.str (by decide +kernel)) (fun _ => SE.str (by decide +kernel)) (SPs.nil)) (by simp)) (SA.nil))))))) (SA.nil))) rfl (cCons_len (cCons_len cNil_len)))) (SB.cons (SS.set 3 s__law_right.nd (SE.lst (SA.cons (SE.lamM (l := l__law_right_7) (mk_maker TK (by decide +kernel) (hc.symm.trans T.c__law_right)) rfl (show freeB (defScope (top 53)).names l__law_right_7.scope.names = true from by decide +kernel)) (SA.cons (SE.lamM (l := l__law_right_8) (mk_maker TK (by decide +kernel) (hc.symm.trans T.c__law_right)) rfl (show freeB (defScope (top 53)).names l__law_right_8.scope.names = true from by decide +kernel)) (SA.cons (SE.lamM (l := l__law_right_9) (mk_maker TK (by decide +kernel) (hc.symm.trans T.c__law_right)) rfl (show freeB (defScope (top 53)).names l__law_right_9.scope.names = true from by decide +kernel)) (SA.cons (SE.lamM (l := l__law_right_10) (mk_maker TK (by decide +kernel) (hc.symm.trans T.c__law_right)) rfl (show freeB (defScope (top 53)).names l__law_right_10.scope.names = true from by decide +kernel)) (SA.nil))))))) (SB.cons (SS.if_ (ST.cmp (op_neAll hr.units) dNeV_ok (SE.lcL (own := [(Str.ofString "call", 15)]) (o1 := [15]) (tl := tl__law_right) (mk_maker TK (by decide +kernel) (hc.symm.trans T.c__law_right)) (.cons ⟨8, nl__law_right_0, k__law_right_0 T TK, show freeB (defScope (top 53)).names l__law_right_0.scope.names = true from by decide +kernel, by decide +kernel, rfl, hr.mono (by decide)⟩ (.cons ⟨8, nl__law_right_1, k__law_right_1 T TK, show freeB (defScope (top 53)).names l__law_right_1.scope.names = true from by decide +kernel, by decide +kernel, rfl, hr.mono (by decide)⟩ (.cons ⟨8, nl__law_right_2, k__law_right_2 T TK, show freeB (defScope (top 53)).names l__law_right_2.scope.names = true from by decide +kernel, by decide +kernel, rfl, hr.mono (by decide)⟩ (.cons ⟨9, nl__law_right_3, k__law_right_3 T TK, show freeB (defScope (top 53)).names l__law_right_3.scope.names = true from by decide +kernel, by decide +kernel, rfl, hr.mono (by decide)⟩ (.cons ⟨9, nl__law_right_4, k__law_right_4 T TK, show freeB (defScope (top 53)).names l__law_right_4.scope.names = true from by decide +kernel, by decide +kernel, rfl, hr.mono (by decide)⟩ (.cons ⟨9, nl__law_right_5, k__law_right_5 T TK, show freeB (defScope (top 53)).names l__law_right_5.scope.names = true from by decide +kernel, by decide +kernel, rfl, hr.mono (by decide)⟩ (.cons ⟨9, nl__law_right_6, k__law_right_6 T TK, show freeB (defScope (top 53)).names l__law_right_6.scope.names = true from by decide +kernel, by decide +kernel, rfl, hr.mono (by decide)⟩ (.cons ⟨9, nl__law_right_7, k__law_right_7 T TK, show freeB (defScope (top 53)).names l__law_right_7.scope.names = true from by decide +kernel, by decide +kernel, rfl, hr.mono (by decide)⟩ (.cons ⟨9, nl__law_right_8, k__law_right_8 T TK, show freeB (defScope (top 53)).names l__law_right_8.scope.names = true from by decide +kernel, by decide +kernel, rfl, hr.mono (by decide)⟩ (.cons ⟨9, nl__law_right_9, k__law_right_9 T TK, show freeB (defScope (top 53)).names l__law_right_9.scope.names = true from by decide +kernel, by decide +kernel, rfl, hr.mono (by decide)⟩ (.cons ⟨9, nl__law_right_10, k__law_right_10 T TK, show freeB (defScope (top 53)).names l__law_right_10.scope.names = true from by decide +kernel, by decide +kernel, rfl, hr.mono (by decide)⟩ (.cons ⟨10, nl__law_right_11, k__law_right_11 T TK, show freeB (defScope (top 53)).names l__law_right_11.scope.names = true from by decide +kernel, by decide +kernel, rfl, hr.mono (by decide)⟩ (.cons ⟨10, nl__law_right_12, k__law_right_12 T TK, show freeB (defScope (top 53)).names l__law_right_12.scope.names = true from by decide +kernel, by decide +kernel, rfl, hr.mono (by decide)⟩ (.cons ⟨10, nl__law_right_13, k__law_right_13 T TK, show freeB (defScope (top 53)).names l__law_right_13.scope.names = true from by decide +kernel, by decide +kernel, rfl, hr.mono (by decide)⟩ (.cons ⟨10, nl__law_right_14, k__law_right_14 T TK, show freeB (defScope (top 53)).names l__law_right_14.scope.names = true from by decide +kernel, by decide +kernel, rfl, hr.mono (by decide)⟩ (.cons ⟨10, nl__law_right_15, k__law_right_15 T TK, show freeB (defScope (top 53)).names l__law_right_15.scope.names = true from by decide +kernel, by decide +kernel, rfl, hr.mono (by decide)⟩ (.cons ⟨10, nl__law_right_16, k__law_right_16 T TK, show freeB (defScope (top 53)).names l__law_right_16.scope.names = true from by decide +kernel, by decide +kernel, rfl, hr.mono (by decide)⟩ (.cons ⟨10, nl__law_right_17, k__law_right_17 T TK, show freeB (defScope (top 53)).names l__law_right_17.scope.names = true from by decide +kernel, by decide +kernel, rfl, hr.mono (by decide)⟩ (.cons ⟨10, nl__law_right_18, k__law_right_18 T TK, show freeB (defScope (top 53)).names l__law_right_18.scope.names = true from by decide +kernel, by decide +kernel, rfl, hr.mono (by decide)⟩ (.cons ⟨10, nl__law_right_19, k__law_right_19 T TK, show freeB (defScope (top 53)).names l__law_right_19.scope.names = true from by decide +kernel, by decide +kernel, rfl, hr.mono (by decide)⟩ (.nil))))))))))))))))))))) (by rfl) (fun kc => o__law_word T TK kc) T.t__law_word hgd T.b__law_word_1 rfl s__law_right.nd (SI.seq rfl (SE.var 3)) (blkOk_by (by kernel_rfl)) (by decide) (fun _ _ _ _ _ _ => SG.name 15 s__law_right.nd) (fun _ _ _ _ _ _ => STs.nil) (fun _ _ _ _ _ _ => SA.cons (SE.var 15) (SA.nil)) rfl (cCons_len cNil_len)) (SE.lst (SA.cons (SE.str (by decide +kernel)) (SA.cons (SE.str (by decide +kernel)) (SA.cons (SE.str (by decide +kernel)) (SA.cons (SE.str (by decide +kernel)) (SA.nil)))))) (nomark _)) (SB.one (SS.ret (SE.bl))) (SB.nil)) (SB.cons (SS.set 10 s__law_right.nd (SE.fn (dd := []) (o__law_pick T TK) T.t__law_pick rfl (hr.mono (by decide)) hgd (T.b__law_pick_2) rfl (SA.cons (SE.var 0) (SA.cons (SE.lst (SA.cons (SE.non) (SA.cons (SE.tup (SA.nil)) (SA.cons (SE.tup (SA.cons (SE.var 9) (SA.nil))) (SA.cons (SE.lst (SA.cons (SE.var 9) (SA.cons (SE.var 9) (SA.nil)))) (SA.cons (SE.tup (SA.cons (SE.var 9) (SA.cons (SE.tup (SA.cons (SE.var 1) (SA.nil))) (SA.nil)))) (SA.cons (SE.tup (SA.cons (SE.var 9) (SA.cons (SE.var 9) (SA.cons (SE.var 9) (SA.nil))))) (SA.cons (SE.tup (SA.cons (SE.var 9) (SA.cons (SE.tup (SA.cons (SE.var 1) (SA.cons (SE.non) (SA.nil)))) (SA.nil)))) (SA.cons (SE.str (by decide +kernel)) (SA.nil)))))))))) (SA.nil))) rfl (cCons_len (cCons_len cNil_len)))) (SB.cons (SS.asg (SE.tup (SA.cons (SE.tup (SA.cons (SE.var 9) (SA.cons (SE.tup (SA.cons (SE.var 2) (SA.cons (SE.var 1) (SA.nil)))) (SA.nil)))) (SA.cons (SE.tup (SA.cons (SE.tup (SA.cons (SE.tup (SA.cons (SE.int) (SA.cons (SE.int) (SA.nil)))) (SA.cons (SE.var 2) (SA.nil)))) (SA.cons (SE.tup (SA.cons (SE.var 2) (SA.cons (SE.tup (SA.cons (SE.int) (SA.cons (SE.int) (SA.nil)))) (SA.nil)))) (SA.nil)))) (SA.nil)))) (SG.tup rfl rfl (SGs.cons (SG.name 13 s__law_right.nd) (SGs.cons (SG.name 12 s__law_right.nd) (SGs.nil))) (gConsD_len (gConsD_len gNilD_len)))) (SB.cons (SS.set 3 s__law_right.nd (SE.lst (SA.cons (SE.lamM (l := l__law_right_11) (mk_maker TK (by decide +kernel) (hc.symm.trans T.c__law_right)) rfl (show freeB (defScope (top 53)).names l__law_right_11.scope.names = true from by decide +kernel)) (SA.cons (SE.lamM (l := l__law_right_12) (mk_maker TK (by decide +kernel) (hc.symm.trans T.c__law_right)) rfl (show freeB (defScope (top 53)).names l__law_right_12.scope.names = true from by decide +kernel)) (SA.cons (SE.lamM (l := l__law_right_13) (mk_maker TK (by decide +kernel) (hc.symm.trans T.c__law_right)) rfl (show freeB (defScope (top 53)).names l__law_right_13.scope.names = true from by decide +kernel)) (SA.cons (SE.lamM (l := l__law_right_14) (mk_maker TK (by decide +kernel) (hc.symm.trans T.c__law_right)) rfl (show freeB (defScope (top 53)).names l__law_right_14.scope.names = true from by decide +kernel)) (SA.cons (SE.lamM (l := l__law_right_15) (mk_maker TK (by decide +kernel) (hc.symm.trans T.c__law_right)) rfl (show freeB (defScope (top 53)).names l__law_right_15.scope.names = true from by decide +kernel)) (SA.cons (SE.lamM (l := l__law_right_16) (mk_maker TK (by decide +kernel) (hc.symm.trans T.c__law_right)) rfl (show freeB (defScope (top 53)).names l__law_right_16.scope.names = true from by decide +kernel)) (SA.cons (SE.lamM (l := l__law_right_17) (mk_maker TK (by decide +kernel) (hc.symm.trans T.c__law_right)) rfl (show freeB (defScope (top 53)).names l__law_right_17.scope.names = true from by decide +kernel)) (SA.cons (SE.lamM (l := l__law_right_18) (mk_maker TK (by decide +kernel) (hc.symm.trans T.c__law_right)) rfl (show freeB (defScope (top 53)).names l__law_right_18.scope.names = true from by decide +kernel)) (SA.cons (SE.lamM (l := l__law_right_19) (mk_maker TK (by decide +kernel) (hc.symm.trans T.c__law_right)) rfl (show freeB (defScope (top 53)).names l__law_right_19.scope.names = true from by decide +kernel)) (SA.nil)))))))))))) (SB.cons (SS.set 4 s__law_right.nd (SE.op op_addAll dAdd_ok (SE.op op_addAll dAdd_ok (SE.op op_addAll dAdd_ok (SE.op op_addAll dAdd_ok (SE.repC rfl (SA.cons (SE.str (by decide +kernel)) (SA.nil))) (SE.repC rfl (SA.cons (SE.str (by decide +kernel)) (SA.nil)))) (SE.repC rfl (SA.cons (SE.str (by decide +kernel)) (SA.nil)))) (SE.lst (SA.cons (SE.str (by decide +kernel)) (SA.nil)))) (SE.repC rfl (SA.cons (SE.str (by decide +kernel)) (SA.nil))))) (SB.cons (SS.if_ (ST.cmp (op_neAll hr.units) dNeV_ok (SE.lcL (own := [(Str.ofString "call", 15)]) (o1 := [15]) (tl := tl__law_right) (mk_maker TK (by decide +kernel) (hc.symm.trans T.c__law_right)) (.cons ⟨8, nl__law_right_0, k__law_right_0 T TK, show freeB (defScope (top 53)).names l__law_right_0.scope.names = true from by decide +kernel, by decide +kernel, rfl, hr.mono (by decide)⟩ (.cons ⟨8, nl__law_right_1, k__law_right_1 T TK, show freeB (defScope (top 53)).names l__law_right_1.scope.names = true from by decide +kernel, by decide +kernel, rfl, hr.mono (by decide)⟩ (.cons ⟨8, nl__law_right_2, k__law_right_2 T TK, show freeB (defScope (top 53)).names l__law_right_2.scope.names = true from by decide +kernel, by decide +kernel, rfl, hr.mono (by decide)⟩ (.cons ⟨9, nl__law_right_3, k__law_right_3 T TK, show freeB (defScope (top 53)).names l__law_right_3.scope.names = true from by decide +kernel, by decide +kernel, rfl, hr.mono (by decide)⟩ (.cons ⟨9, nl__law_right_4, k__law_right_4 T TK, show freeB (defScope (top 53)).names l__law_right_4.scope.names = true from by decide +kernel, by decide +kernel, rfl, hr.mono (by decide)⟩ (.cons ⟨9, nl__law_right_5, k__law_right_5 T TK, show freeB (defScope (top 53)).names l__law_right_5.scope.names = true from by decide +kernel, by decide +kernel, rfl, hr.mono (by decide)⟩ (.cons ⟨9, nl__law_right_6, k__law_right_6 T TK, show freeB (defScope (top 53)).names l__law_right_6.scope.names = true from by decide +kernel, by decide +kernel, rfl, hr.mono (by decide)⟩ (.cons ⟨9, nl__law_right_7, k__law_right_7 T TK, show freeB (defScope (top 53)).names l__law_right_7.scope.names = true from by decide +kernel, by decide +kernel, rfl, hr.mono (by decide)⟩ (.cons ⟨9, nl__law_right_8, k__law_right_8 T TK, show freeB (defScope (top 53)).names l__law_right_8.scope.names = true from by decide +kernel, by decide +kernel, rfl, hr.mono (by decide)⟩ (.cons ⟨9, nl__law_right_9, k__law_right_9 T TK, show freeB (defScope (top 53)).names l__law_right_9.scope.names = true from by decide +kernel, by decide +kernel, rfl, hr.mono (by decide)⟩ (.cons ⟨9, nl__law_right_10, k__law_right_10 T TK, show freeB (defScope (top 53)).names l__law_right_10.scope.names = true from by decide +kernel, by decide +kernel, rfl, hr.mono (by decide)⟩ (.cons ⟨10, nl__law_right_11, k__law_right_11 T TK, show freeB (defScope (top 53)).names l__law_right_11.scope.names = true from by decide +kernel, by decide +kernel, rfl, hr.mono (by decide)⟩ (.cons ⟨10, nl__law_right_12, k__law_right_12 T TK, show freeB (defScope (top 53)).names l__law_right_12.scope.names = true from by decide +kernel, by decide +kernel, rfl, hr.mono (by decide)⟩ (.cons ⟨10, nl__law_right_13, k__law_right_13 T TK, show freeB (defScope (top 53)).names l__law_right_13.scope.names = true from by decide +kernel, by decide +kernel, rfl, hr.mono (by decide)⟩ (.cons ⟨10, nl__law_right_14, k__law_right_14 T TK, show freeB (defScope (top 53)).names l__law_right_14.scope.names = true from by decide +kernel, by decide +kernel, rfl, hr.mono (by decide)⟩ (.cons ⟨10, nl__law_right_15, k__law_right_15 T TK, show freeB (defScope (top 53)).names l__law_right_15.scope.names = true from by decide +kernel, by decide +kernel, rfl, hr.mono (by decide)⟩ (.cons ⟨10, nl__law_right_16, k__law_right_16 T TK, show freeB (defScope (top 53)).names l__law_right_16.scope.names = true from by decide +kernel, by decide +kernel, rfl, hr.mono (by decide)⟩ (.cons ⟨10, nl__law_right_17, k__law_right_17 T TK, show freeB (defScope (top 53)).names l__law_right_17.scope.names = true from by decide +kernel, by decide +kernel, rfl, hr.mono (by decide)⟩ (.cons ⟨10, nl__law_right_18, k__law_right_18 T TK, show freeB (defScope (top 53)).names l__law_right_18.scope.names = true from by decide +kernel, by decide +kernel, rfl, hr.mono (by decide)⟩ (.cons ⟨10, nl__law_right_19, k__law_right_19 T TK, show freeB (defScope (top 53)).names l__law_right_19.scope.names = true from by decide +kernel, by decide +kernel, rfl, hr.mono (by decide)⟩ (.nil))))))))))))))))))))) (by rfl) (fun kc => o__law_word T TK kc) T.t__law_word hgd T.b__law_word_1 rfl s__law_right.nd (SI.seq rfl (SE.var 3)) (blkOk_by (by kernel_rfl)) (by decide) (fun _ _ _ _ _ _ => SG.name 15 s__law_right.nd) (fun _ _ _ _ _ _ => STs.nil) (fun _ _ _ _ _ _ => SA.cons (SE.var 15) (SA.nil)) rfl (cCons_len cNil_len)) (SE.var 4) (nomark _)) (SB.one (SS.ret (SE.bl))) (SB.nil)) (SB.one (SS.ret (SE.and (SE.cmp (op_eqAll hr.units) dEqV_ok (SE.prop rfl hgd (SE.var 14) (.cons (GetAt.row T.t_Works_places rfl T.c_Works (o_Works_places T TK) (hr.mono (by decide)) T.b_Works_places rfl) (.nil))) (SE.tup (SA.cons (SE.str (by decide +kernel)) (SA.cons (SE.str (by decide +kernel)) (SA.nil)))) (nomark _)) (SE.and (SE.cmp (op_eqAll hr.units) dEqV_ok (SE.prop rfl hgd (SE.var 14) (.cons (GetAt.row T.t_Works_hands rfl T.c_Works (o_Works_hands T TK) (hr.mono (by decide)) T.b_Works_hands rfl) (.nil))) (SE.tup (SA.cons (SE.str (by decide +kernel)) (SA.cons (SE.str (by decide +kernel)) (SA.nil)))) (nomark _)) (SE.one (SE.cmp (op_eqAll hr.units) dEqV_ok (SE.ix rfl (SE.prop rfl hgd (SE.var 14) (.cons (GetAt.row T.t_Works_table rfl T.c_Works (o_Works_table T TK) (hr.mono (by decide)) T.b_Works_table rfl) (.nil))) (SE.int)) (SE.tup (SA.cons (SE.var 1) (SA.cons (SE.var 2) (SA.cons (SE.var 1) (SA.cons (SE.var 2) (SA.nil)))))) (nomark _)))))))))))))))))))))))))))
def b_law_0 : EvS := sFor (cRng1 (cCons (cArgs dMax2 (cCons (cC (.int 1)) (cCons (cArgs dMin2 (cCons (cC (.int 5)) (cCons (cArgs dLen (cCons (cVar 0) (cNil))) (cNil)))) (cNil)))) (cNil))) (gN 1) (sGC (sSeq (sSet 2 (cCall m__law_dice [] (cCons (cVar 0) (cCons (cVar 1) (cNil))))) (sFor (cRng1 (cCons (cC (.int 6)) (cNil))) (gN 3) (sIf (cNot (cTru (cCall m__law_right [] (cCons (cVar 2) (cNil))))) (sRet (cC (.bl false))) (sNil)))))
def b_law_1 : EvS := sSet 5 (cMake 0 m_Works___init__ [] (cCons (cTup (cCons (cC (.str [97])) (cNil))) (cCons (cTup (cNil)) (cCons (cTup (cCons (cTup (cCons (cTup (cCons (cC (.int 1)) (cCons (cC (.int 1)) (cNil)))) (cNil))) (cNil))) (cNil)))))
def b_law_2 : EvS := sSet 4 (cLst (cCons (cCallC m__law_word g_law_0 0 [5] (cCons (cC (.clo 0 [])) (cNil))) (cCons (cCallC m__law_word g_law_1 1 [5] (cCons (cC (.clo 1 [])) (cNil))) (cCons (cCallC m__law_word g_law_2 2 [5] (cCons (cC (.clo 2 [])) (cNil))) (cNil)))))
def b_law_3 : EvS := sRet (cBin dEqV (cVar 4) (cLst (cCons (cC (.str [102, 105, 110, 101])) (cCons (cC (.str [102, 105, 110, 101])) (cCons (cC (.str [110, 97, 109, 101, 32, 39, 104, 39])) (cNil))))))
abbrev n_law : List Str := [Str.ofString "script", Str.ofString "spot", Str.ofString "dice", Str.ofString "turn", Str.ofString "told", Str.ofString "none"]
abbrev p_law : List Str := [Str.ofString "script"]
theorem s_law : FnScope n_law p_law (defScope (top 54)) := ⟨rfl, rfl, rfl, by decide +kernel, rfl, by decide +kernel, by decide +kernel⟩
abbrev ls_law : List LT := [l_law_0, l_law_1, l_law_2]
def m_law : Fn := gvD (mkD (fnD 6 (sSeq b_law_0 (sSeq b_law_1 (sSeq b_law_2 (b_law_3))))))
theorem o_law (T : Facts K mg) (TK : TabK K mg base tfs) : FnG PW w K mg base (glOf K cls) (tbOf K tfs) 14 T.a_law T.d_law p_law m_law :=
  FnG.give (FnG.maker ls_law T.t_law.fn s_law (fun cdv A outer s H E hot hc hr hgd => SB.cons (SS.for_ (passes_of rfl) rfl (SI.range1 rfl T.f_range (SA.cons (SE.callB (call_max2 rfl) dMax2_ok rfl T.f_max bb_max (SA.cons (SE.int) (SA.cons (SE.callB (call_min2 rfl) dMin2_ok rfl T.f_min bb_min (SA.cons (SE.int) (SA.cons (SE.callB call_len dLen_ok rfl T.f_len bb_len (SA.cons (SE.var 0) (SA.nil))) (SA.nil)))) (SA.nil)))) (SA.nil))) (SG.name 1 s_law.nd) (SB.gc (SB.cons (SS.set 2 s_law.nd (SE.fn (dd := []) (o__law_dice T TK) T.t__law_dice rfl (hr.mono (by decide)) hgd (T.b__law_dice_2) rfl (SA.cons (SE.var 0) (SA.cons (SE.var 1) (SA.nil))) rfl (cCons_len (cCons_len cNil_len)))) (SB.one (SS.for_ (passes_of rfl) rfl (SI.range1 rfl T.f_range (SA.cons (SE.int) (SA.nil))) (SG.name 3 s_law.nd) (SB.one (SS.if_ (ST.not (ST.tru rfl (SE.fn (dd := []) (o__law_right T TK) T.t__law_right rfl (hr.mono (by decide)) hgd (T.b__law_right_1) rfl (SA.cons (SE.var 2) (SA.nil)) rfl (cCons_len cNil_len)))) (SB.one (SS.ret (SE.bl))) (SB.nil)))))))) (SB.cons (SS.set 5 s_law.nd (SE.make (dd := []) T.t_Works___init__ T.mk_Works T.g_Works rfl (o_Works___init__ T TK) rfl (hr.mono (by decide)) hgd T.b_Works___init___4 rfl (SA.cons (SE.tup (SA.cons (SE.str (by decide +kernel)) (SA.nil))) (SA.cons (SE.tup (SA.nil)) (SA.cons (SE.tup (SA.cons (SE.tup (SA.cons (SE.tup (SA.cons (SE.int) (SA.cons (SE.int) (SA.nil)))) (SA.nil))) (SA.nil))) (SA.nil)))) rfl (cCons_len (cCons_len (cCons_len cNil_len))))) (SB.cons (SS.set 4 s_law.nd (SE.lst (SA.cons (SE.callM (js := [5]) (l := l_law_0) (mk_maker TK (by decide +kernel) (hc.symm.trans T.c_law)) (fun kc => o__law_word T TK kc) (k_law_0 T TK) T.t__law_word rfl (hr.mono (by decide)) hgd T.b__law_word_1 (SA.cons (SE.lamM (l := l_law_0) (mk_maker TK (by decide +kernel) (hc.symm.trans T.c_law)) rfl (show freeB (defScope (top 54)).names l_law_0.scope.names = true from by decide +kernel)) (SA.nil)) rfl (cCons_len cNil_len) (show freeB (defScope (top 54)).names l_law_0.scope.names = true from by decide +kernel) (by decide +kernel) rfl) (SA.cons (SE.callM (js := [5]) (l := l_law_1) (mk_maker TK (by decide +kernel) (hc.symm.trans T.c_law)) (fun kc => o__law_word T TK kc) (k_law_1 T TK) T.t__law_word rfl (hr.mono (by decide)) hgd T.b__law_word_1 (SA.cons (SE.lamM (l := l_law_1) (mk_maker TK (by decide +kernel) (hc.symm.trans T.c_law)) rfl (show freeB (defScope (top 54)).names l_law_1.scope.names = true from by decide +kernel)) (SA.nil)) rfl (cCons_len cNil_len) (show freeB (defScope (top 54)).names l_law_1.scope.names = true from by decide +kernel) (by decide +kernel) rfl) (SA.cons (SE.callM (js := [5]) (l := l_law_2) (mk_maker TK (by decide +kernel) (hc.symm.trans T.c_law)) (fun kc => o__law_word T TK kc) (k_law_2 T TK) T.t__law_word rfl (hr.mono (by decide)) hgd T.b__law_word_1 (SA.cons (SE.lamM (l := l_law_2) (mk_maker TK (by decide +kernel) (hc.symm.trans T.c_law)) rfl (show freeB (defScope (top 54)).names l_law_2.scope.names = true from by decide +kernel)) (SA.nil)) rfl (cCons_len cNil_len) (show freeB (defScope (top 54)).names l_law_2.scope.names = true from by decide +kernel) (by decide +kernel) rfl) (SA.nil)))))) (SB.one (SS.ret (SE.cmp (op_eqAll hr.units) dEqV_ok (SE.var 4) (SE.lst (SA.cons (SE.str (by decide +kernel)) (SA.cons (SE.str (by decide +kernel)) (SA.cons (SE.str (by decide +kernel)) (SA.nil))))) (nomark _))))))))
end
/-! ### the head -/
def df (x : Str) (i : Nat) (dd : List He.Dv) : He.DefD := ⟨(x, none), x, x, defArgs (top i), defBody (top i), defScope (top i), dd, []⟩
def dm (x m q : Str) (i j : Nat) (dd : List He.Dv) : He.DefD := ⟨(x, some m), m, q, defArgs (ini i j), defBody (ini i j), defScope (ini i j), dd, []⟩
def fn : List He.DefD := [df (Str.ofString "is_integer") 14 [], df (Str.ofString "common_divisor") 16 [], df (Str.ofString "is_number") 17 [], df (Str.ofString "is_plain_row") 22 [], df (Str.ofString "is_plain_table") 23 [], df (Str.ofString "rest_row") 24 [], df (Str.ofString "reduced") 18 [], df (Str.ofString "added") 19 [], df (Str.ofString "sum_of_rows") 27 [], df (Str.ofString "multiplied") 20 [], df (Str.ofString "times_row") 28 [], df (Str.ofString "led_told") 31 []] ++ [df (Str.ofString "table_behind") 33 [], df (Str.ofString "unit_row") 25 [], df (Str.ofString "unit_table") 26 [], df (Str.ofString "are_undone") 41 [], df (Str.ofString "require_undone") 42 [], df (Str.ofString "is_name") 15 [], df (Str.ofString "are_names") 38 [], df (Str.ofString "names_fault") 39 [], df (Str.ofString "works_fault") 40 [], df (Str.ofString "columns_of") 32 [], dm (Str.ofString "Works") (Str.ofString "__init__") (Str.ofString "Works.__init__") 47 0 [], dm (Str.ofString "Works") (Str.ofString "turned") (Str.ofString "Works.turned") 47 12 []] ++ [df (Str.ofString "require_standing") 44 [], df (Str.ofString "require_turn") 45 [], df (Str.ofString "product_of") 29 [], df (Str.ofString "led_row") 30 [], df (Str.ofString "next_of") 46 [], dm (Str.ofString "Works") (Str.ofString "next") (Str.ofString "Works.next") 47 8 [], df (Str.ofString "require_hands") 43 [], dm (Str.ofString "Works") (Str.ofString "without") (Str.ofString "Works.without") 47 9 [], df (Str.ofString "_law_dice") 49 [], dm (Str.ofString "Works") (Str.ofString "renamed") (Str.ofString "Works.renamed") 47 10 [], dm (Str.ofString "Works") (Str.ofString "recast") (Str.ofString "Works.recast") 47 11 [], df (Str.ofString "_law_roll") 50 []] ++ [df (Str.ofString "_law_pick") 51 [], df (Str.ofString "_law_word") 52 [], df (Str.ofString "_law_right") 53 [], df (Str.ofString "law") 54 []]
def fa : List He.Fa := [He.Fa.glo (Str.ofString "is_integer"), He.Fa.glo (Str.ofString "common_divisor"), He.Fa.glo (Str.ofString "is_number"), He.Fa.glo (Str.ofString "is_plain_row"), He.Fa.glo (Str.ofString "is_plain_table"), He.Fa.glo (Str.ofString "rest_row"), He.Fa.glo (Str.ofString "reduced"), He.Fa.glo (Str.ofString "added"), He.Fa.glo (Str.ofString "sum_of_rows"), He.Fa.glo (Str.ofString "multiplied"), He.Fa.glo (Str.ofString "times_row"), He.Fa.glo (Str.ofString "led_told")] ++ [He.Fa.glo (Str.ofString "table_behind"), He.Fa.glo (Str.ofString "unit_row"), He.Fa.glo (Str.ofString "unit_table"), He.Fa.glo (Str.ofString "are_undone"), He.Fa.glo (Str.ofString "require_undone"), He.Fa.glo (Str.ofString "is_name"), He.Fa.glo (Str.ofString "are_names"), He.Fa.glo (Str.ofString "names_fault"), He.Fa.glo (Str.ofString "works_fault"), He.Fa.glo (Str.ofString "columns_of"), He.Fa.glo (Str.ofString "require_standing"), He.Fa.glo (Str.ofString "require_turn")] ++ [He.Fa.glo (Str.ofString "product_of"), He.Fa.glo (Str.ofString "led_row"), He.Fa.glo (Str.ofString "next_of"), He.Fa.glo (Str.ofString "require_hands"), He.Fa.glo (Str.ofString "_law_dice"), He.Fa.glo (Str.ofString "_law_roll"), He.Fa.glo (Str.ofString "_law_pick"), He.Fa.glo (Str.ofString "_law_word"), He.Fa.glo (Str.ofString "_law_right"), He.Fa.glo (Str.ofString "law"), He.Fa.free (Str.ofString "abs"), He.Fa.free (Str.ofString "all")] ++ [He.Fa.free (Str.ofString "any"), He.Fa.free (Str.ofString "bool"), He.Fa.free (Str.ofString "dict"), He.Fa.free (Str.ofString "enumerate"), He.Fa.free (Str.ofString "int"), He.Fa.free (Str.ofString "isinstance"), He.Fa.free (Str.ofString "len"), He.Fa.free (Str.ofString "max"), He.Fa.free (Str.ofString "min"), He.Fa.free (Str.ofString "range"), He.Fa.free (Str.ofString "repr"), He.Fa.free (Str.ofString "sorted")] ++ [He.Fa.free (Str.ofString "str"), He.Fa.free (Str.ofString "super"), He.Fa.free (Str.ofString "tuple"), He.Fa.free (Str.ofString "zip"), He.Fa.glo (Str.ofString "Works"), He.Fa.glo (Str.ofString "InvalidTable"), He.Fa.glo (Str.ofString "InvalidOperation"), He.Fa.glo (Str.ofString "InvalidWorks"), He.Fa.glo (Str.ofString "InvalidRow"), He.Fa.glo (Str.ofString "UnknownName"), He.Fa.cls (Str.ofString "Works"), He.Fa.mkr (Str.ofString "Works")] ++ [He.Fa.noat (Str.ofString "Works") (Str.ofString "own_columns"), He.Fa.noat (Str.ofString "Works") (Str.ofString "own_free"), He.Fa.noat (Str.ofString "Works") (Str.ofString "own_hands"), He.Fa.noat (Str.ofString "Works") (Str.ofString "own_places"), He.Fa.noat (Str.ofString "Works") (Str.ofString "own_table"), He.Fa.noat (Str.ofString "Works") (Str.ofString "own_wide"), He.Fa.noat (Str.ofString "Works") (Str.ofString "own_width"), He.Fa.meth (Str.ofString "Works") (Str.ofString "next"), He.Fa.meth (Str.ofString "Works") (Str.ofString "recast"), He.Fa.meth (Str.ofString "Works") (Str.ofString "renamed"), He.Fa.meth (Str.ofString "Works") (Str.ofString "turned"), He.Fa.meth (Str.ofString "Works") (Str.ofString "without")]
def ex (K : PySem.W.Frag) : Bool := conB K (Str.ofString "LETTERS") c_LETTERS && (conB K (Str.ofString "MAX_HANDS") c_MAX_HANDS && (conB K (Str.ofString "MAX_LETTERS") c_MAX_LETTERS && (conB K (Str.ofString "MAX_PLACES") c_MAX_PLACES && (conB K (Str.ofString "MAX_TOLD") c_MAX_TOLD && (conB K (Str.ofString "NOUGHT") c_NOUGHT && (conB K (Str.ofString "ONE") c_ONE && (conB K (Str.ofString "SIGNS") c_SIGNS && (getB K (Str.ofString "Works") (Str.ofString "places") && (getB K (Str.ofString "Works") (Str.ofString "hands") && (getB K (Str.ofString "Works") (Str.ofString "table") && (isiB K cls pks && (xpB K (Str.ofString "InvalidTable") "ValueError.__new__" bm_ValueError && (xpB K (Str.ofString "InvalidOperation") "ValueError.__new__" bm_ValueError && (xpB K (Str.ofString "InvalidWorks") "ValueError.__new__" bm_ValueError && (xpB K (Str.ofString "InvalidRow") "ValueError.__new__" bm_ValueError && (xcB K (Str.ofString "UnknownName") "LookupError.__new__" bm_KeyError && (xmB K PW.main.file (Str.ofString "UnknownName") (Str.ofString "wanted") "KeyError" "KeyError.__init__" && (xfB K (He.ga K (Str.ofString "UnknownName")) && (decide (PySem.W.findIn K (.ref (He.ga K (Str.ofString "UnknownName"))) (Str.ofString "wanted") = some none) && (subB K cls cmat && (tabNd tfs K)))))))))))))))))))))
abbrev xs : List (Str × Option Str) := [(Str.ofString "UnknownName", none), (Str.ofString "Works", some (Str.ofString "places")), (Str.ofString "Works", some (Str.ofString "hands")), (Str.ofString "Works", some (Str.ofString "table"))]
def xv : List FnS := [some (Str.ofString "__init__", Str.ofString "UnknownName.__init__", defArgs (ini 7 0), .stmts (defBody (ini 7 0)), defScope (ini 7 0), mainGlobals, [Str.ofString "__class__"], builtinsNs), some (Str.ofString "places", Str.ofString "Works.places", defArgs (ini 47 1), .stmts (defBody (ini 47 1)), defScope (ini 47 1), mainGlobals, [], builtinsNs), some (Str.ofString "hands", Str.ofString "Works.hands", defArgs (ini 47 2), .stmts (defBody (ini 47 2)), defScope (ini 47 2), mainGlobals, [], builtinsNs), some (Str.ofString "table", Str.ofString "Works.table", defArgs (ini 47 3), .stmts (defBody (ini 47 3)), defScope (ini 47 3), mainGlobals, [], builtinsNs)]
abbrev R : PySem.W.OpenRow := PySem.W.OpenLaw.row RWl
abbrev tfd : List He.Defn := tfs.map fun x => (x, none)
abbrev hk : PySem.W.Hook := hookY 6 fa fn tfd ex xs xv
def ob (s : PySem.W.SharedT) : AlY := obsY 6 fa fn tfd ex xs (HandSHeadRun.getT s)
theorem ob_eq (s : PySem.W.SharedT) : ob s = hk.obs s.abs := obsY_eq (HandSHeadRun.getT_eq s)
def names : List Str := [Str.ofString "_wall", Str.ofString "CourtError", Str.ofString "InvalidRow", Str.ofString "InvalidTable", Str.ofString "InvalidWorks", Str.ofString "InvalidOperation", Str.ofString "UnknownName", Str.ofString "NOUGHT", Str.ofString "ONE", Str.ofString "MAX_LETTERS", Str.ofString "LETTERS", Str.ofString "SIGNS"] ++ [Str.ofString "is_integer", Str.ofString "is_name", Str.ofString "common_divisor", Str.ofString "is_number", Str.ofString "reduced", Str.ofString "added", Str.ofString "multiplied", Str.ofString "is_plain_row", Str.ofString "is_plain_table", Str.ofString "rest_row", Str.ofString "unit_row", Str.ofString "unit_table"] ++ [Str.ofString "sum_of_rows", Str.ofString "times_row", Str.ofString "product_of", Str.ofString "led_row", Str.ofString "led_told", Str.ofString "columns_of", Str.ofString "table_behind", Str.ofString "MAX_PLACES", Str.ofString "MAX_HANDS", Str.ofString "MAX_TOLD", Str.ofString "are_names", Str.ofString "names_fault"] ++ [Str.ofString "works_fault", Str.ofString "are_undone", Str.ofString "require_undone", Str.ofString "require_hands", Str.ofString "require_standing", Str.ofString "require_turn", Str.ofString "next_of", Str.ofString "Works", Str.ofString "_law_dice", Str.ofString "_law_roll", Str.ofString "_law_pick", Str.ofString "_law_word"] ++ [Str.ofString "_law_right"]
theorem run (w : World) : HandSHeadRun.RunEq R (PySem.W.view R.prog [54]) hk ob 4000 names w := by
  intro os
  kernel_rfl
theorem facts {w : World} {K : PySem.W.Frag} {h hh : Heap} {mg : Str → Option Value} (X : K.In h) (G : h.Ns mainGlobals mg) (c : SaysY fa fn tfd ex xs xv w hh K) : ∃ T : Facts K mg, T.a_law = He.ga K (Str.ofString "law") ∧ tabNd tfs K = true := by
  obtain ⟨d_is_integer, t_is_integer⟩ := def_at (st := top 14) (dd := []) X G c.t.d 0 0 rfl rfl
  obtain ⟨d_common_divisor, t_common_divisor⟩ := def_at (st := top 16) (dd := []) X G c.t.d 1 1 rfl rfl
  obtain ⟨d_is_number, t_is_number⟩ := def_at (st := top 17) (dd := []) X G c.t.d 2 2 rfl rfl
  obtain ⟨d_is_plain_row, t_is_plain_row⟩ := def_at (st := top 22) (dd := []) X G c.t.d 3 3 rfl rfl
  obtain ⟨d_is_plain_table, t_is_plain_table⟩ := def_at (st := top 23) (dd := []) X G c.t.d 4 4 rfl rfl
  obtain ⟨d_rest_row, t_rest_row⟩ := def_at (st := top 24) (dd := []) X G c.t.d 5 5 rfl rfl
  obtain ⟨d_reduced, t_reduced⟩ := def_at (st := top 18) (dd := []) X G c.t.d 6 6 rfl rfl
  obtain ⟨d_added, t_added⟩ := def_at (st := top 19) (dd := []) X G c.t.d 7 7 rfl rfl
  obtain ⟨d_sum_of_rows, t_sum_of_rows⟩ := def_at (st := top 27) (dd := []) X G c.t.d 8 8 rfl rfl
  obtain ⟨d_multiplied, t_multiplied⟩ := def_at (st := top 20) (dd := []) X G c.t.d 9 9 rfl rfl
  obtain ⟨d_times_row, t_times_row⟩ := def_at (st := top 28) (dd := []) X G c.t.d 10 10 rfl rfl
  obtain ⟨d_led_told, t_led_told⟩ := def_at (st := top 31) (dd := []) X G c.t.d 11 11 rfl rfl
  obtain ⟨d_table_behind, t_table_behind⟩ := def_at (st := top 33) (dd := []) X G c.t.d 12 12 rfl rfl
  obtain ⟨d_unit_row, t_unit_row⟩ := def_at (st := top 25) (dd := []) X G c.t.d 13 13 rfl rfl
  obtain ⟨d_unit_table, t_unit_table⟩ := def_at (st := top 26) (dd := []) X G c.t.d 14 14 rfl rfl
  obtain ⟨d_are_undone, t_are_undone⟩ := def_at (st := top 41) (dd := []) X G c.t.d 15 15 rfl rfl
  obtain ⟨d_require_undone, t_require_undone⟩ := def_at (st := top 42) (dd := []) X G c.t.d 16 16 rfl rfl
  obtain ⟨d_is_name, t_is_name⟩ := def_at (st := top 15) (dd := []) X G c.t.d 17 17 rfl rfl
  obtain ⟨d_are_names, t_are_names⟩ := def_at (st := top 38) (dd := []) X G c.t.d 18 18 rfl rfl
  obtain ⟨d_names_fault, t_names_fault⟩ := def_at (st := top 39) (dd := []) X G c.t.d 19 19 rfl rfl
  obtain ⟨d_works_fault, t_works_fault⟩ := def_at (st := top 40) (dd := []) X G c.t.d 20 20 rfl rfl
  obtain ⟨d_columns_of, t_columns_of⟩ := def_at (st := top 32) (dd := []) X G c.t.d 21 21 rfl rfl
  obtain ⟨d_Works___init__, t_Works___init__⟩ := meth_at (C := Str.ofString "Works") (m := Str.ofString "__init__") (q := Str.ofString "Works.__init__") (st := (ini 47 0)) (dd := []) c.t.d 22 rfl
  obtain ⟨d_Works_turned, t_Works_turned⟩ := meth_at (C := Str.ofString "Works") (m := Str.ofString "turned") (q := Str.ofString "Works.turned") (st := (ini 47 12)) (dd := []) c.t.d 23 rfl
  obtain ⟨d_require_standing, t_require_standing⟩ := def_at (st := top 44) (dd := []) X G c.t.d 24 22 rfl rfl
  obtain ⟨d_require_turn, t_require_turn⟩ := def_at (st := top 45) (dd := []) X G c.t.d 25 23 rfl rfl
  obtain ⟨d_product_of, t_product_of⟩ := def_at (st := top 29) (dd := []) X G c.t.d 26 24 rfl rfl
  obtain ⟨d_led_row, t_led_row⟩ := def_at (st := top 30) (dd := []) X G c.t.d 27 25 rfl rfl
  obtain ⟨d_next_of, t_next_of⟩ := def_at (st := top 46) (dd := []) X G c.t.d 28 26 rfl rfl
  obtain ⟨d_Works_next, t_Works_next⟩ := meth_at (C := Str.ofString "Works") (m := Str.ofString "next") (q := Str.ofString "Works.next") (st := (ini 47 8)) (dd := []) c.t.d 29 rfl
  obtain ⟨d_require_hands, t_require_hands⟩ := def_at (st := top 43) (dd := []) X G c.t.d 30 27 rfl rfl
  obtain ⟨d_Works_without, t_Works_without⟩ := meth_at (C := Str.ofString "Works") (m := Str.ofString "without") (q := Str.ofString "Works.without") (st := (ini 47 9)) (dd := []) c.t.d 31 rfl
  obtain ⟨d__law_dice, t__law_dice⟩ := def_at (st := top 49) (dd := []) X G c.t.d 32 28 rfl rfl
  obtain ⟨d_Works_renamed, t_Works_renamed⟩ := meth_at (C := Str.ofString "Works") (m := Str.ofString "renamed") (q := Str.ofString "Works.renamed") (st := (ini 47 10)) (dd := []) c.t.d 33 rfl
  obtain ⟨d_Works_recast, t_Works_recast⟩ := meth_at (C := Str.ofString "Works") (m := Str.ofString "recast") (q := Str.ofString "Works.recast") (st := (ini 47 11)) (dd := []) c.t.d 34 rfl
  obtain ⟨d__law_roll, t__law_roll⟩ := def_at (st := top 50) (dd := []) X G c.t.d 35 29 rfl rfl
  obtain ⟨d__law_pick, t__law_pick⟩ := def_at (st := top 51) (dd := []) X G c.t.d 36 30 rfl rfl
  obtain ⟨d__law_word, t__law_word⟩ := def_at (st := top 52) (dd := []) X G c.t.d 37 31 rfl rfl
  obtain ⟨d__law_right, t__law_right⟩ := def_at (st := top 53) (dd := []) X G c.t.d 38 32 rfl rfl
  obtain ⟨d_law, t_law⟩ := def_at (st := top 54) (dd := []) X G c.t.d 39 33 rfl rfl
  have ec := c.more
  unfold ex at ec
  simp only [Bool.and_eq_true, decide_eq_true_eq] at ec
  obtain ⟨k_LETTERS, k_MAX_HANDS, k_MAX_LETTERS, k_MAX_PLACES, k_MAX_TOLD, k_NOUGHT, k_ONE, k_SIGNS, pB_Works_places, pB_Works_hands, pB_Works_table, isi, x_InvalidTable, x_InvalidOperation, x_InvalidWorks, x_InvalidRow, x_UnknownName, i_UnknownName, u_UnknownName, n_UnknownName, s_sub, nd⟩ := ec
  have v_UnknownName : fnS K (Str.ofString "UnknownName") = some (Str.ofString "__init__", Str.ofString "UnknownName.__init__", defArgs (ini 7 0), .stmts (defBody (ini 7 0)), defScope (ini 7 0), mainGlobals, [Str.ofString "__class__"], builtinsNs) := Option.some.inj (show some (fnS K (Str.ofString "UnknownName")) = some (some (Str.ofString "__init__", Str.ofString "UnknownName.__init__", defArgs (ini 7 0), .stmts (defBody (ini 7 0)), defScope (ini 7 0), mainGlobals, [Str.ofString "__class__"], builtinsNs)) from congrArg (fun l => l[0]?) c.xs)
  have v_Works_places : fnG K (Str.ofString "Works") (Str.ofString "places") = some (Str.ofString "places", Str.ofString "Works.places", defArgs (ini 47 1), .stmts (defBody (ini 47 1)), defScope (ini 47 1), mainGlobals, [], builtinsNs) := Option.some.inj (show some (fnG K (Str.ofString "Works") (Str.ofString "places")) = some (some (Str.ofString "places", Str.ofString "Works.places", defArgs (ini 47 1), .stmts (defBody (ini 47 1)), defScope (ini 47 1), mainGlobals, [], builtinsNs)) from congrArg (fun l => l[1]?) c.xs)
  obtain ⟨d_Works_places, t_Works_places⟩ := get_at (q := Str.ofString "Works.places") (st := (ini 47 1)) pB_Works_places v_Works_places
  have v_Works_hands : fnG K (Str.ofString "Works") (Str.ofString "hands") = some (Str.ofString "hands", Str.ofString "Works.hands", defArgs (ini 47 2), .stmts (defBody (ini 47 2)), defScope (ini 47 2), mainGlobals, [], builtinsNs) := Option.some.inj (show some (fnG K (Str.ofString "Works") (Str.ofString "hands")) = some (some (Str.ofString "hands", Str.ofString "Works.hands", defArgs (ini 47 2), .stmts (defBody (ini 47 2)), defScope (ini 47 2), mainGlobals, [], builtinsNs)) from congrArg (fun l => l[2]?) c.xs)
  obtain ⟨d_Works_hands, t_Works_hands⟩ := get_at (q := Str.ofString "Works.hands") (st := (ini 47 2)) pB_Works_hands v_Works_hands
  have v_Works_table : fnG K (Str.ofString "Works") (Str.ofString "table") = some (Str.ofString "table", Str.ofString "Works.table", defArgs (ini 47 3), .stmts (defBody (ini 47 3)), defScope (ini 47 3), mainGlobals, [], builtinsNs) := Option.some.inj (show some (fnG K (Str.ofString "Works") (Str.ofString "table")) = some (some (Str.ofString "table", Str.ofString "Works.table", defArgs (ini 47 3), .stmts (defBody (ini 47 3)), defScope (ini 47 3), mainGlobals, [], builtinsNs)) from congrArg (fun l => l[3]?) c.xs)
  obtain ⟨d_Works_table, t_Works_table⟩ := get_at (q := Str.ofString "Works.table") (st := (ini 47 3)) pB_Works_table v_Works_table
  refine ⟨{
    c_Works := He.cls_ok (c.t.d.fact 58 (f := .cls (Str.ofString "Works")) rfl),
    mk_Works := He.mkr_ok (c.t.d.fact 59 (f := .mkr (Str.ofString "Works")) rfl),
    na_Works_own_columns := He.noat_ok (c.t.d.fact 60 (f := .noat (Str.ofString "Works") (Str.ofString "own_columns")) rfl),
    na_Works_own_free := He.noat_ok (c.t.d.fact 61 (f := .noat (Str.ofString "Works") (Str.ofString "own_free")) rfl),
    na_Works_own_hands := He.noat_ok (c.t.d.fact 62 (f := .noat (Str.ofString "Works") (Str.ofString "own_hands")) rfl),
    na_Works_own_places := He.noat_ok (c.t.d.fact 63 (f := .noat (Str.ofString "Works") (Str.ofString "own_places")) rfl),
    na_Works_own_table := He.noat_ok (c.t.d.fact 64 (f := .noat (Str.ofString "Works") (Str.ofString "own_table")) rfl),
    na_Works_own_wide := He.noat_ok (c.t.d.fact 65 (f := .noat (Str.ofString "Works") (Str.ofString "own_wide")) rfl),
    na_Works_own_width := He.noat_ok (c.t.d.fact 66 (f := .noat (Str.ofString "Works") (Str.ofString "own_width")) rfl),
    mt_Works_next := He.meth_ok (c.t.d.fact 67 (f := .meth (Str.ofString "Works") (Str.ofString "next")) rfl),
    mt_Works_recast := He.meth_ok (c.t.d.fact 68 (f := .meth (Str.ofString "Works") (Str.ofString "recast")) rfl),
    mt_Works_renamed := He.meth_ok (c.t.d.fact 69 (f := .meth (Str.ofString "Works") (Str.ofString "renamed")) rfl),
    mt_Works_turned := He.meth_ok (c.t.d.fact 70 (f := .meth (Str.ofString "Works") (Str.ofString "turned")) rfl),
    mt_Works_without := He.meth_ok (c.t.d.fact 71 (f := .meth (Str.ofString "Works") (Str.ofString "without")) rfl),
    isi := isi_ok isi,
    f_abs := He.free_ok X G (c.t.d.fact 34 (f := .free (Str.ofString "abs")) rfl),
    f_all := He.free_ok X G (c.t.d.fact 35 (f := .free (Str.ofString "all")) rfl),
    f_any := He.free_ok X G (c.t.d.fact 36 (f := .free (Str.ofString "any")) rfl),
    f_bool := He.free_ok X G (c.t.d.fact 37 (f := .free (Str.ofString "bool")) rfl),
    f_dict := He.free_ok X G (c.t.d.fact 38 (f := .free (Str.ofString "dict")) rfl),
    f_enumerate := He.free_ok X G (c.t.d.fact 39 (f := .free (Str.ofString "enumerate")) rfl),
    f_int := He.free_ok X G (c.t.d.fact 40 (f := .free (Str.ofString "int")) rfl),
    f_isinstance := He.free_ok X G (c.t.d.fact 41 (f := .free (Str.ofString "isinstance")) rfl),
    f_len := He.free_ok X G (c.t.d.fact 42 (f := .free (Str.ofString "len")) rfl),
    f_max := He.free_ok X G (c.t.d.fact 43 (f := .free (Str.ofString "max")) rfl),
    f_min := He.free_ok X G (c.t.d.fact 44 (f := .free (Str.ofString "min")) rfl),
    f_range := He.free_ok X G (c.t.d.fact 45 (f := .free (Str.ofString "range")) rfl),
    f_repr := He.free_ok X G (c.t.d.fact 46 (f := .free (Str.ofString "repr")) rfl),
    f_sorted := He.free_ok X G (c.t.d.fact 47 (f := .free (Str.ofString "sorted")) rfl),
    f_str := He.free_ok X G (c.t.d.fact 48 (f := .free (Str.ofString "str")) rfl),
    f_super := He.free_ok X G (c.t.d.fact 49 (f := .free (Str.ofString "super")) rfl),
    f_tuple := He.free_ok X G (c.t.d.fact 50 (f := .free (Str.ofString "tuple")) rfl),
    f_zip := He.free_ok X G (c.t.d.fact 51 (f := .free (Str.ofString "zip")) rfl),
    k_LETTERS := conB_ok X G k_LETTERS,
    k_MAX_HANDS := conB_ok X G k_MAX_HANDS,
    k_MAX_LETTERS := conB_ok X G k_MAX_LETTERS,
    k_MAX_PLACES := conB_ok X G k_MAX_PLACES,
    k_MAX_TOLD := conB_ok X G k_MAX_TOLD,
    k_NOUGHT := conB_ok X G k_NOUGHT,
    k_ONE := conB_ok X G k_ONE,
    k_SIGNS := conB_ok X G k_SIGNS,
    g_Works := He.glo_ok X G (c.t.d.fact 52 (f := .glo (Str.ofString "Works")) rfl),
    g_InvalidTable := He.glo_ok X G (c.t.d.fact 53 (f := .glo (Str.ofString "InvalidTable")) rfl),
    x_InvalidTable := xp_ok x_InvalidTable (He.glo_ok X G (c.t.d.fact 53 (f := .glo (Str.ofString "InvalidTable")) rfl)),
    g_InvalidOperation := He.glo_ok X G (c.t.d.fact 54 (f := .glo (Str.ofString "InvalidOperation")) rfl),
    x_InvalidOperation := xp_ok x_InvalidOperation (He.glo_ok X G (c.t.d.fact 54 (f := .glo (Str.ofString "InvalidOperation")) rfl)),
    g_InvalidWorks := He.glo_ok X G (c.t.d.fact 55 (f := .glo (Str.ofString "InvalidWorks")) rfl),
    x_InvalidWorks := xp_ok x_InvalidWorks (He.glo_ok X G (c.t.d.fact 55 (f := .glo (Str.ofString "InvalidWorks")) rfl)),
    g_InvalidRow := He.glo_ok X G (c.t.d.fact 56 (f := .glo (Str.ofString "InvalidRow")) rfl),
    x_InvalidRow := xp_ok x_InvalidRow (He.glo_ok X G (c.t.d.fact 56 (f := .glo (Str.ofString "InvalidRow")) rfl)),
    g_UnknownName := He.glo_ok X G (c.t.d.fact 57 (f := .glo (Str.ofString "UnknownName")) rfl),
    x_UnknownName := xc_ok x_UnknownName,
    i_UnknownName := ⟨xm_ok i_UnknownName v_UnknownName rfl⟩,
    u_UnknownName := xfB_ok u_UnknownName, n_UnknownName := n_UnknownName,
    s_sub := sub_ok s_sub,
    d_Works___init__ := _, t_Works___init__ := t_Works___init__,
    d_Works_turned := _, t_Works_turned := t_Works_turned,
    d_Works_next := _, t_Works_next := t_Works_next,
    d_Works_without := _, t_Works_without := t_Works_without,
    d_Works_renamed := _, t_Works_renamed := t_Works_renamed,
    d_Works_recast := _, t_Works_recast := t_Works_recast,
    d_Works_places := _, t_Works_places := t_Works_places, b_Works_places := bindsG t_Works_places fun _ _ _ _ _ _ us hl => match us, hl with | [_], _ => rfl,
    d_Works_hands := _, t_Works_hands := t_Works_hands, b_Works_hands := bindsG t_Works_hands fun _ _ _ _ _ _ us hl => match us, hl with | [_], _ => rfl,
    d_Works_table := _, t_Works_table := t_Works_table, b_Works_table := bindsG t_Works_table fun _ _ _ _ _ _ us hl => match us, hl with | [_], _ => rfl,
    a_is_integer := _, d_is_integer := _, t_is_integer := t_is_integer,
    a_common_divisor := _, d_common_divisor := _, t_common_divisor := t_common_divisor,
    a_is_number := _, d_is_number := _, t_is_number := t_is_number,
    a_is_plain_row := _, d_is_plain_row := _, t_is_plain_row := t_is_plain_row,
    a_is_plain_table := _, d_is_plain_table := _, t_is_plain_table := t_is_plain_table,
    a_rest_row := _, d_rest_row := _, t_rest_row := t_rest_row,
    a_reduced := _, d_reduced := _, t_reduced := t_reduced,
    a_added := _, d_added := _, t_added := t_added,
    a_sum_of_rows := _, d_sum_of_rows := _, t_sum_of_rows := t_sum_of_rows,
    a_multiplied := _, d_multiplied := _, t_multiplied := t_multiplied,
    a_times_row := _, d_times_row := _, t_times_row := t_times_row,
    a_led_told := _, d_led_told := _, t_led_told := t_led_told,
    a_table_behind := _, d_table_behind := _, t_table_behind := t_table_behind,
    a_unit_row := _, d_unit_row := _, t_unit_row := t_unit_row,
    a_unit_table := _, d_unit_table := _, t_unit_table := t_unit_table,
    a_are_undone := _, d_are_undone := _, t_are_undone := t_are_undone,
    a_require_undone := _, d_require_undone := _, t_require_undone := t_require_undone,
    a_is_name := _, d_is_name := _, t_is_name := t_is_name,
    a_are_names := _, d_are_names := _, t_are_names := t_are_names,
    a_names_fault := _, d_names_fault := _, t_names_fault := t_names_fault,
    a_works_fault := _, d_works_fault := _, t_works_fault := t_works_fault,
    a_columns_of := _, d_columns_of := _, t_columns_of := t_columns_of,
    a_require_standing := _, d_require_standing := _, t_require_standing := t_require_standing,
    a_require_turn := _, d_require_turn := _, t_require_turn := t_require_turn,
    a_product_of := _, d_product_of := _, t_product_of := t_product_of,
    a_led_row := _, d_led_row := _, t_led_row := t_led_row,
    a_next_of := _, d_next_of := _, t_next_of := t_next_of,
    a_require_hands := _, d_require_hands := _, t_require_hands := t_require_hands,
    a__law_dice := _, d__law_dice := _, t__law_dice := t__law_dice,
    a__law_roll := _, d__law_roll := _, t__law_roll := t__law_roll,
    a__law_pick := _, d__law_pick := _, t__law_pick := t__law_pick,
    a__law_word := _, d__law_word := _, t__law_word := t__law_word,
    a__law_right := _, d__law_right := _, t__law_right := t__law_right, c__law_right := code_of t__law_right,
    a_law := _, d_law := _, t_law := t_law, c_law := code_of t_law,
    b_Works___init___4 := bindsM t_Works___init__ fun _ _ _ _ _ _ us hl => match us, hl with | [_, _, _, _], _ => rfl,
    b_Works_next_3 := bindsM t_Works_next fun _ _ _ _ _ _ us hl => match us, hl with | [_, _, _], _ => rfl,
    b_Works_recast_3 := bindsM t_Works_recast fun _ _ _ _ _ _ us hl => match us, hl with | [_, _, _], _ => rfl,
    b_Works_renamed_2 := bindsM t_Works_renamed fun _ _ _ _ _ _ us hl => match us, hl with | [_, _], _ => rfl,
    b_Works_turned_3 := bindsM t_Works_turned fun _ _ _ _ _ _ us hl => match us, hl with | [_, _, _], _ => rfl,
    b_Works_without_2 := bindsM t_Works_without fun _ _ _ _ _ _ us hl => match us, hl with | [_, _], _ => rfl,
    b__law_dice_2 := binds0 t__law_dice fun _ _ _ _ _ _ us hl => match us, hl with | [_, _], _ => rfl,
    b__law_pick_2 := binds0 t__law_pick fun _ _ _ _ _ _ us hl => match us, hl with | [_, _], _ => rfl,
    b__law_right_1 := binds0 t__law_right fun _ _ _ _ _ _ us hl => match us, hl with | [_], _ => rfl,
    b__law_roll_2 := binds0 t__law_roll fun _ _ _ _ _ _ us hl => match us, hl with | [_, _], _ => rfl,
    b__law_word_1 := binds0 t__law_word fun _ _ _ _ _ _ us hl => match us, hl with | [_], _ => rfl,
    b_added_2 := binds0 t_added fun _ _ _ _ _ _ us hl => match us, hl with | [_, _], _ => rfl,
    b_are_names_3 := binds0 t_are_names fun _ _ _ _ _ _ us hl => match us, hl with | [_, _, _], _ => rfl,
    b_are_undone_3 := binds0 t_are_undone fun _ _ _ _ _ _ us hl => match us, hl with | [_, _, _], _ => rfl,
    b_columns_of_2 := binds0 t_columns_of fun _ _ _ _ _ _ us hl => match us, hl with | [_, _], _ => rfl,
    b_common_divisor_2 := binds0 t_common_divisor fun _ _ _ _ _ _ us hl => match us, hl with | [_, _], _ => rfl,
    b_is_integer_1 := binds0 t_is_integer fun _ _ _ _ _ _ us hl => match us, hl with | [_], _ => rfl,
    b_is_name_1 := binds0 t_is_name fun _ _ _ _ _ _ us hl => match us, hl with | [_], _ => rfl,
    b_is_number_1 := binds0 t_is_number fun _ _ _ _ _ _ us hl => match us, hl with | [_], _ => rfl,
    b_is_plain_row_2 := binds0 t_is_plain_row fun _ _ _ _ _ _ us hl => match us, hl with | [_, _], _ => rfl,
    b_is_plain_table_3 := binds0 t_is_plain_table fun _ _ _ _ _ _ us hl => match us, hl with | [_, _, _], _ => rfl,
    b_led_row_2 := binds0 t_led_row fun _ _ _ _ _ _ us hl => match us, hl with | [_, _], _ => rfl,
    b_led_told_3 := binds0 t_led_told fun _ _ _ _ _ _ us hl => match us, hl with | [_, _, _], _ => rfl,
    b_multiplied_2 := binds0 t_multiplied fun _ _ _ _ _ _ us hl => match us, hl with | [_, _], _ => rfl,
    b_names_fault_2 := binds0 t_names_fault fun _ _ _ _ _ _ us hl => match us, hl with | [_, _], _ => rfl,
    b_next_of_3 := binds0 t_next_of fun _ _ _ _ _ _ us hl => match us, hl with | [_, _, _], _ => rfl,
    b_product_of_2 := binds0 t_product_of fun _ _ _ _ _ _ us hl => match us, hl with | [_, _], _ => rfl,
    b_reduced_2 := binds0 t_reduced fun _ _ _ _ _ _ us hl => match us, hl with | [_, _], _ => rfl,
    b_require_hands_2 := binds0 t_require_hands fun _ _ _ _ _ _ us hl => match us, hl with | [_, _], _ => rfl,
    b_require_standing_2 := binds0 t_require_standing fun _ _ _ _ _ _ us hl => match us, hl with | [_, _], _ => rfl,
    b_require_turn_2 := binds0 t_require_turn fun _ _ _ _ _ _ us hl => match us, hl with | [_, _], _ => rfl,
    b_require_undone_3 := binds0 t_require_undone fun _ _ _ _ _ _ us hl => match us, hl with | [_, _, _], _ => rfl,
    b_rest_row_1 := binds0 t_rest_row fun _ _ _ _ _ _ us hl => match us, hl with | [_], _ => rfl,
    b_sum_of_rows_2 := binds0 t_sum_of_rows fun _ _ _ _ _ _ us hl => match us, hl with | [_, _], _ => rfl,
    b_table_behind_3 := binds0 t_table_behind fun _ _ _ _ _ _ us hl => match us, hl with | [_, _, _], _ => rfl,
    b_times_row_2 := binds0 t_times_row fun _ _ _ _ _ _ us hl => match us, hl with | [_, _], _ => rfl,
    b_unit_row_2 := binds0 t_unit_row fun _ _ _ _ _ _ us hl => match us, hl with | [_, _], _ => rfl,
    b_unit_table_1 := binds0 t_unit_table fun _ _ _ _ _ _ us hl => match us, hl with | [_], _ => rfl,
    b_works_fault_3 := binds0 t_works_fault fun _ _ _ _ _ _ us hl => match us, hl with | [_, _, _], _ => rfl }, rfl, nd⟩
end Kx

set_option Elab.async false
set_option linter.all false
set_option maxRecDepth 100000
set_option maxHeartbeats 0
namespace Kx
open PySem PySem.Spec PyProof.Rows L2 G
theorem pick_eq : m__law_pick = pickF := by kernel_rfl
def g0 : EvS := sSeq b__law_right_0 (sSeq b__law_right_1 (b__law_right_2))
def o0 : G.Env := envK (g0 [some (.ref 0), none, none, none, none, none, none, none, none, none, none, none, none, none, none, none] (dcO 0 0 0 :: ([] : Sto)))
def ob0 : Sto := (stoK (g0 [some (.ref 0), none, none, none, none, none, none, none, none, none, none, none, none, none, none, none] (dcO 0 0 0 :: ([] : Sto)))).drop 1
theorem seg0 (g s c : Int) : (outK [true, true, true, true, true, true, true, true, true, true, true, true, true, true, true, false] (g0 [some (.ref 0), none, none, none, none, none, none, none, none, none, none, none, none, none, none, none] (dcO g s c :: ([] : Sto)))) = some ([some (.ref 0), o0.getD 1 none, o0.getD 2 none, none, none, none, none, none, none, o0.getD 9 none, none, none, none, none, o0.getD 14 none, none], dcO g s c :: ob0) := by kernel_rfl
def fs0 : EvA := cCons (cVar 0) (cCons (cLst (cCons (cC .non) (cCons (cTup (cNil)) (cCons (cTup (cCons (cVar 1) (cNil))) (cCons (cLst (cCons (cVar 1) (cCons (cVar 1) (cNil)))) (cCons (cTup (cCons (cVar 1) (cCons (cTup (cCons (cC (.int 2)) (cCons (cC (.int 2)) (cNil)))) (cNil)))) (cCons (cTup (cCons (cVar 1) (cCons (cC (.int 1)) (cNil)))) (cCons (cBin dAdd (cVar 9) (cTup (cCons (cVar 1) (cNil)))) (cCons (cC (.str [97, 98])) (cCons (cTup (cCons (cC (.bl true)) (cCons (cVar 1) (cNil)))) (cNil))))))))))) (cNil))
def menu0 : List D := menuK (fs0 [some (.ref 0), o0.getD 1 none, o0.getD 2 none, none, none, none, none, none, none, o0.getD 9 none, none, none, none, none, o0.getD 14 none, none] (dcO 0 0 0 :: ob0))
theorem args0 (e15 : Option D) (g s c : Int) : fs0 [some (.ref 0), o0.getD 1 none, o0.getD 2 none, none, none, none, none, none, none, o0.getD 9 none, none, none, none, none, o0.getD 14 none, e15] (dcO g s c :: ob0) = .ok [.ref 0, .lst menu0] (dcO g s c :: ob0) := by kernel_rfl
theorem bpick0 : b__law_right_3 = sSet 5 (cCall pickF [] fs0) := by rw [← pick_eq]; rfl
theorem mlen0 : 0 < menu0.length ∧ menu0.length < 1000000 := by decide +kernel
def g1 : EvS := sSeq b__law_right_4 (b__law_right_5)
def o1 : G.Env := envK (g1 [some (.ref 0), o0.getD 1 none, o0.getD 2 none, none, none, some (menu0.getD 0 .non), none, none, none, o0.getD 9 none, none, none, none, none, o0.getD 14 none, none] (dcO 0 0 0 :: ob0))
def ob1 : Sto := (stoK (g1 [some (.ref 0), o0.getD 1 none, o0.getD 2 none, none, none, some (menu0.getD 0 .non), none, none, none, o0.getD 9 none, none, none, none, none, o0.getD 14 none, none] (dcO 0 0 0 :: ob0))).drop 1
theorem seg1 (e15 : Option D) (g s c : Int) : (menu0.map fun d0 => outK [true, true, true, true, true, false, true, true, true, true, true, true, true, true, true, false] (g1 [some (.ref 0), o0.getD 1 none, o0.getD 2 none, none, none, some d0, none, none, none, o0.getD 9 none, none, none, none, none, o0.getD 14 none, e15] (dcO g s c :: ob0))) = menu0.map fun d0 => some ([some (.ref 0), o0.getD 1 none, o0.getD 2 none, o1.getD 3 none, none, none, none, none, none, o0.getD 9 none, none, none, none, none, o0.getD 14 none, none], dcO g s c :: ob1) := by kernel_rfl
def fs1 : EvA := cCons (cVar 0) (cCons (cLst (cCons (cC .non) (cCons (cLst (cCons (cC (.str [104])) (cNil))) (cCons (cTup (cCons (cC (.str [105])) (cCons (cC (.str [104])) (cNil)))) (cCons (cC (.str [104])) (cCons (cTup (cCons (cC (.int 1)) (cNil))) (cCons (cTup (cCons (cC (.str [104])) (cCons (cC (.str [104])) (cNil)))) (cCons (cDic (cPC (cC (.str [104])) (cC (.int 1)) (cPN))) (cCons (cTup (cCons (cC (.str [72])) (cNil))) (cNil)))))))))) (cNil))
def menu1 : List D := menuK (fs1 [some (.ref 0), o0.getD 1 none, o0.getD 2 none, o1.getD 3 none, none, none, none, none, none, o0.getD 9 none, none, none, none, none, o0.getD 14 none, none] (dcO 0 0 0 :: ob1))
theorem args1 (e5 e15 : Option D) (g s c : Int) : fs1 [some (.ref 0), o0.getD 1 none, o0.getD 2 none, o1.getD 3 none, none, e5, none, none, none, o0.getD 9 none, none, none, none, none, o0.getD 14 none, e15] (dcO g s c :: ob1) = .ok [.ref 0, .lst menu1] (dcO g s c :: ob1) := by kernel_rfl
theorem bpick1 : b__law_right_6 = sSet 7 (cCall pickF [] fs1) := by rw [← pick_eq]; rfl
theorem mlen1 : 0 < menu1.length ∧ menu1.length < 1000000 := by decide +kernel
def fs2 : EvA := cCons (cVar 0) (cCons (cLst (cCons (cC (.str [97])) (cCons (cC (.str [122, 122])) (cCons (cC (.str [120, 46, 49])) (cNil))))) (cNil))
def menu2 : List D := menuK (fs2 [some (.ref 0), o0.getD 1 none, o0.getD 2 none, o1.getD 3 none, none, none, none, some (menu1.getD 0 .non), none, o0.getD 9 none, none, none, none, none, o0.getD 14 none, none] (dcO 0 0 0 :: ob1))
theorem args2 (e5 e15 : Option D) (d1 : D) (g s c : Int) : fs2 [some (.ref 0), o0.getD 1 none, o0.getD 2 none, o1.getD 3 none, none, e5, none, some d1, none, o0.getD 9 none, none, none, none, none, o0.getD 14 none, e15] (dcO g s c :: ob1) = .ok [.ref 0, .lst menu2] (dcO g s c :: ob1) := by kernel_rfl
theorem bpick2 : b__law_right_7 = sSet 6 (cCall pickF [] fs2) := by rw [← pick_eq]; rfl
theorem mlen2 : 0 < menu2.length ∧ menu2.length < 1000000 := by decide +kernel
def g2 : EvS := sSeq b__law_right_8 (b__law_right_9)
def o2 : G.Env := envK (g2 [some (.ref 0), o0.getD 1 none, o0.getD 2 none, o1.getD 3 none, none, none, some (menu2.getD 0 .non), some (menu1.getD 0 .non), none, o0.getD 9 none, none, none, none, none, o0.getD 14 none, none] (dcO 0 0 0 :: ob1))
def ob2 : Sto := (stoK (g2 [some (.ref 0), o0.getD 1 none, o0.getD 2 none, o1.getD 3 none, none, none, some (menu2.getD 0 .non), some (menu1.getD 0 .non), none, o0.getD 9 none, none, none, none, none, o0.getD 14 none, none] (dcO 0 0 0 :: ob1))).drop 1
theorem seg2 (e5 e15 : Option D) (g s c : Int) : (menu1.map fun d1 => menu2.map fun d2 => outK [true, true, true, true, true, false, false, false, true, true, true, true, true, true, true, false] (g2 [some (.ref 0), o0.getD 1 none, o0.getD 2 none, o1.getD 3 none, none, e5, some d2, some d1, none, o0.getD 9 none, none, none, none, none, o0.getD 14 none, e15] (dcO g s c :: ob1))) = menu1.map fun d1 => menu2.map fun d2 => some ([some (.ref 0), o0.getD 1 none, o0.getD 2 none, o2.getD 3 none, none, none, none, none, none, o0.getD 9 none, none, none, none, none, o0.getD 14 none, none], dcO g s c :: ob2) := by kernel_rfl
def fs3 : EvA := cCons (cVar 0) (cCons (cLst (cCons (cC .non) (cCons (cTup (cNil)) (cCons (cDic (cPC (cC (.str [122, 122])) (cC (.str [97])) (cPN))) (cCons (cDic (cPC (cC (.str [97])) (cC (.str [65])) (cPN))) (cCons (cDic (cPC (cC (.str [97])) (cC (.int 1)) (cPN))) (cCons (cLst (cCons (cTup (cCons (cC (.str [97])) (cCons (cC (.str [99])) (cNil)))) (cNil))) (cCons (cDic (cPC (cC (.int 1)) (cC (.str [97])) (cPN))) (cCons (cDic (cPC (cC (.str [97])) (cC (.str [97, 98, 99, 100, 101, 102, 103, 104, 105, 106, 107, 108, 109])) (cPN))) (cNil)))))))))) (cNil))
def menu3 : List D := menuK (fs3 [some (.ref 0), o0.getD 1 none, o0.getD 2 none, o2.getD 3 none, none, none, none, none, none, o0.getD 9 none, none, none, none, none, o0.getD 14 none, none] (dcO 0 0 0 :: ob2))
theorem args3 (e5 e6 e7 e15 : Option D) (g s c : Int) : fs3 [some (.ref 0), o0.getD 1 none, o0.getD 2 none, o2.getD 3 none, none, e5, e6, e7, none, o0.getD 9 none, none, none, none, none, o0.getD 14 none, e15] (dcO g s c :: ob2) = .ok [.ref 0, .lst menu3] (dcO g s c :: ob2) := by kernel_rfl
theorem bpick3 : b__law_right_10 = sSet 8 (cCall pickF [] fs3) := by rw [← pick_eq]; rfl
theorem mlen3 : 0 < menu3.length ∧ menu3.length < 1000000 := by decide +kernel
def fs4 : EvA := cCons (cVar 0) (cCons (cLst (cCons (cDic (cPC (cC (.str [97])) (cC (.str [98])) (cPN))) (cCons (cDic (cPC (cC (.str [97])) (cC (.str [104])) (cPN))) (cCons (cDic (cPC (cC (.str [104])) (cC (.str [105])) (cPN))) (cCons (cDic (cPC (cC (.str [97])) (cC (.str [99])) (cPC (cC (.str [98])) (cC (.str [99])) (cPN)))) (cCons (cDic (cPC (cC (.str [104])) (cC (.str [98])) (cPN))) (cNil))))))) (cNil))
def menu4 : List D := menuK (fs4 [some (.ref 0), o0.getD 1 none, o0.getD 2 none, o2.getD 3 none, none, none, none, none, some (menu3.getD 0 .non), o0.getD 9 none, none, none, none, none, o0.getD 14 none, none] (dcO 0 0 0 :: ob2))
theorem args4 (e5 e6 e7 e15 : Option D) (d3 : D) (g s c : Int) : fs4 [some (.ref 0), o0.getD 1 none, o0.getD 2 none, o2.getD 3 none, none, e5, e6, e7, some d3, o0.getD 9 none, none, none, none, none, o0.getD 14 none, e15] (dcO g s c :: ob2) = .ok [.ref 0, .lst menu4] (dcO g s c :: ob2) := by kernel_rfl
theorem bpick4 : b__law_right_11 = sSet 11 (cCall pickF [] fs4) := by rw [← pick_eq]; rfl
theorem mlen4 : 0 < menu4.length ∧ menu4.length < 1000000 := by decide +kernel
def g3 : EvS := sSeq b__law_right_12 (b__law_right_13)
def o3 : G.Env := envK (g3 [some (.ref 0), o0.getD 1 none, o0.getD 2 none, o2.getD 3 none, none, none, none, none, some (menu3.getD 0 .non), o0.getD 9 none, none, some (menu4.getD 0 .non), none, none, o0.getD 14 none, none] (dcO 0 0 0 :: ob2))
def ob3 : Sto := (stoK (g3 [some (.ref 0), o0.getD 1 none, o0.getD 2 none, o2.getD 3 none, none, none, none, none, some (menu3.getD 0 .non), o0.getD 9 none, none, some (menu4.getD 0 .non), none, none, o0.getD 14 none, none] (dcO 0 0 0 :: ob2))).drop 1
theorem seg3 (e5 e6 e7 e15 : Option D) (g s c : Int) : (menu3.map fun d3 => menu4.map fun d4 => outK [true, true, true, true, true, false, false, false, false, true, true, false, true, true, true, false] (g3 [some (.ref 0), o0.getD 1 none, o0.getD 2 none, o2.getD 3 none, none, e5, e6, e7, some d3, o0.getD 9 none, none, some d4, none, none, o0.getD 14 none, e15] (dcO g s c :: ob2))) = menu3.map fun d3 => menu4.map fun d4 => some ([some (.ref 0), o0.getD 1 none, o0.getD 2 none, o3.getD 3 none, none, none, none, none, none, o0.getD 9 none, none, none, none, none, o0.getD 14 none, none], dcO g s c :: ob3) := by kernel_rfl
def fs5 : EvA := cCons (cVar 0) (cCons (cLst (cCons (cC .non) (cCons (cTup (cNil)) (cCons (cTup (cCons (cVar 9) (cNil))) (cCons (cLst (cCons (cVar 9) (cCons (cVar 9) (cNil)))) (cCons (cTup (cCons (cVar 9) (cCons (cTup (cCons (cVar 1) (cNil))) (cNil)))) (cCons (cTup (cCons (cVar 9) (cCons (cVar 9) (cCons (cVar 9) (cNil))))) (cCons (cTup (cCons (cVar 9) (cCons (cTup (cCons (cVar 1) (cCons (cC .non) (cNil)))) (cNil)))) (cCons (cC (.str [116, 97, 98, 108, 101])) (cNil)))))))))) (cNil))
def menu5 : List D := menuK (fs5 [some (.ref 0), o0.getD 1 none, o0.getD 2 none, o3.getD 3 none, none, none, none, none, none, o0.getD 9 none, none, none, none, none, o0.getD 14 none, none] (dcO 0 0 0 :: ob3))
theorem args5 (e5 e6 e7 e8 e11 e15 : Option D) (g s c : Int) : fs5 [some (.ref 0), o0.getD 1 none, o0.getD 2 none, o3.getD 3 none, none, e5, e6, e7, e8, o0.getD 9 none, none, e11, none, none, o0.getD 14 none, e15] (dcO g s c :: ob3) = .ok [.ref 0, .lst menu5] (dcO g s c :: ob3) := by kernel_rfl
theorem bpick5 : b__law_right_14 = sSet 10 (cCall pickF [] fs5) := by rw [← pick_eq]; rfl
theorem mlen5 : 0 < menu5.length ∧ menu5.length < 1000000 := by decide +kernel
def g4 : EvS := sSeq b__law_right_15 (sSeq b__law_right_16 (sSeq b__law_right_17 (sSeq b__law_right_18 (b__law_right_19))))
theorem seg4 (e5 e6 e7 e8 e11 e15 : Option D) (g s c : Int) : (menu5.map fun d5 => Res.give 1 (Res.plain (RS.fin (g4 [some (.ref 0), o0.getD 1 none, o0.getD 2 none, o3.getD 3 none, none, e5, e6, e7, e8, o0.getD 9 none, some d5, e11, none, none, o0.getD 14 none, e15] (dcO g s c :: ob3))))) = menu5.map fun d5 => Res.ok (.bl true) [dcO g s c] := by kernel_rfl
theorem body_eq : (sSeq b__law_right_0 (sSeq b__law_right_1 (sSeq b__law_right_2 (sSeq b__law_right_3 (sSeq b__law_right_4 (sSeq b__law_right_5 (sSeq b__law_right_6 (sSeq b__law_right_7 (sSeq b__law_right_8 (sSeq b__law_right_9 (sSeq b__law_right_10 (sSeq b__law_right_11 (sSeq b__law_right_12 (sSeq b__law_right_13 (sSeq b__law_right_14 (sSeq b__law_right_15 (sSeq b__law_right_16 (sSeq b__law_right_17 (sSeq b__law_right_18 (b__law_right_19)))))))))))))))))))) = (sSeq g0 (sSeq b__law_right_3 (sSeq g1 (sSeq b__law_right_6 (sSeq b__law_right_7 (sSeq g2 (sSeq b__law_right_10 (sSeq b__law_right_11 (sSeq g3 (sSeq b__law_right_14 (g4))))))))))) := by
  simp only [g0, g1, g2, g3, g4, seq_assoc]
theorem turn_eq (g s c : Int) : m__law_right [.ref 0] [dcO g s c] = Res.give 1 (Res.plain (RS.fin ((sSeq g0 (sSeq b__law_right_3 (sSeq g1 (sSeq b__law_right_6 (sSeq b__law_right_7 (sSeq g2 (sSeq b__law_right_10 (sSeq b__law_right_11 (sSeq g3 (sSeq b__law_right_14 (g4))))))))))) [some (.ref 0), none, none, none, none, none, none, none, none, none, none, none, none, none, none, none] [dcO g s c]))) := by
  rw [← body_eq]
  kernel_rfl
theorem list_L {ρ : G.Env} (h : ρ.length = 16) : ∃ a0 a1 a2 a3 a4 a5 a6 a7 a8 a9 a10 a11 a12 a13 a14 a15, ρ = [a0, a1, a2, a3, a4, a5, a6, a7, a8, a9, a10, a11, a12, a13, a14, a15] := match ρ, h with
  | [a0, a1, a2, a3, a4, a5, a6, a7, a8, a9, a10, a11, a12, a13, a14, a15], _ => ⟨a0, a1, a2, a3, a4, a5, a6, a7, a8, a9, a10, a11, a12, a13, a14, a15, rfl⟩
theorem right_ok {st : Sto} {N : Nat} (hd : Dice 0 N st) (hN : N < 900000) (h1 : st.length = 1) : ∃ st2 : Sto, m__law_right [.ref 0] st = .ok (.bl true) st2 ∧ Rolled 0 (N + 6) st st2 := by
  obtain ⟨gg0, ss0, c00, e0⟩ := Rolled.one (Rolled.refl hd) h1
  subst e0
  obtain ⟨cc0, hc0⟩ : ∃ c : Int, c = (c00 : Int) := ⟨_, rfl⟩
  rw [← hc0] at hd ⊢
  have key : ∃ g s c : Int, m__law_right [.ref 0] [dcO gg0 ss0 cc0] = .ok (.bl true) [dcO g s c] ∧ Dice 0 (N + 6) [dcO g s c] := by
    rw [turn_eq]
    have hd0 : Dice 0 N [dcO gg0 ss0 cc0] := hd
    have z0 : outK [true, true, true, true, true, true, true, true, true, true, true, true, true, true, true, false] (g0 [some (.ref 0), none, none, none, none, none, none, none, none, none, none, none, none, none, none, none] (dcO gg0 ss0 cc0 :: ([] : Sto))) = some ([some (.ref 0), o0.getD 1 none, o0.getD 2 none, none, none, none, none, none, none, o0.getD 9 none, none, none, none, none, o0.getD 14 none, none], dcO gg0 ss0 cc0 :: ob0) := seg0  gg0 ss0 cc0
    obtain ⟨ρ0, er0, em0⟩ := out_some z0
    have el0 := mask_len em0 rfl
    obtain ⟨q0, q1, q2, q3, q4, q5, q6, q7, q8, q9, q10, q11, q12, q13, q14, e15, el0⟩ := list_L el0
    subst el0
    have h0_0 : q0 = some (.ref 0) := congrArg (fun l : G.Env => l.getD 0 none) em0
    subst h0_0
    have h0_1 : q1 = o0.getD 1 none := congrArg (fun l : G.Env => l.getD 1 none) em0
    subst h0_1
    have h0_2 : q2 = o0.getD 2 none := congrArg (fun l : G.Env => l.getD 2 none) em0
    subst h0_2
    have h0_3 : q3 = none := congrArg (fun l : G.Env => l.getD 3 none) em0
    subst h0_3
    have h0_4 : q4 = none := congrArg (fun l : G.Env => l.getD 4 none) em0
    subst h0_4
    have h0_5 : q5 = none := congrArg (fun l : G.Env => l.getD 5 none) em0
    subst h0_5
    have h0_6 : q6 = none := congrArg (fun l : G.Env => l.getD 6 none) em0
    subst h0_6
    have h0_7 : q7 = none := congrArg (fun l : G.Env => l.getD 7 none) em0
    subst h0_7
    have h0_8 : q8 = none := congrArg (fun l : G.Env => l.getD 8 none) em0
    subst h0_8
    have h0_9 : q9 = o0.getD 9 none := congrArg (fun l : G.Env => l.getD 9 none) em0
    subst h0_9
    have h0_10 : q10 = none := congrArg (fun l : G.Env => l.getD 10 none) em0
    subst h0_10
    have h0_11 : q11 = none := congrArg (fun l : G.Env => l.getD 11 none) em0
    subst h0_11
    have h0_12 : q12 = none := congrArg (fun l : G.Env => l.getD 12 none) em0
    subst h0_12
    have h0_13 : q13 = none := congrArg (fun l : G.Env => l.getD 13 none) em0
    subst h0_13
    have h0_14 : q14 = o0.getD 14 none := congrArg (fun l : G.Env => l.getD 14 none) em0
    subst h0_14
    rw [seq_step er0]
    have hd0 := Dice.objs (b := ob0) hd0
    have hd0 := Dice.objs (b := ob0) hd0
    obtain ⟨d0, gg1, ss1, cc1, hm0, ep0, hd1⟩ := pick_at (items := menu0) hd0 (by omega) mlen0.1 mlen0.2
    have es0 : b__law_right_3 [some (.ref 0), o0.getD 1 none, o0.getD 2 none, none, none, none, none, none, none, o0.getD 9 none, none, none, none, none, o0.getD 14 none, e15] (dcO gg0 ss0 cc0 :: ob0) = .ok (.nx [some (.ref 0), o0.getD 1 none, o0.getD 2 none, none, none, some d0, none, none, none, o0.getD 9 none, none, none, none, none, o0.getD 14 none, e15]) (dcO gg1 ss1 cc1 :: ob0) := by
      rw [bpick0]
      exact pick_stmt (args0 e15 gg0 ss0 cc0) ep0
    rw [seq_step es0]
    have z1 : outK [true, true, true, true, true, false, true, true, true, true, true, true, true, true, true, false] (g1 [some (.ref 0), o0.getD 1 none, o0.getD 2 none, none, none, some d0, none, none, none, o0.getD 9 none, none, none, none, none, o0.getD 14 none, e15] (dcO gg1 ss1 cc1 :: ob0)) = some ([some (.ref 0), o0.getD 1 none, o0.getD 2 none, o1.getD 3 none, none, none, none, none, none, o0.getD 9 none, none, none, none, none, o0.getD 14 none, none], dcO gg1 ss1 cc1 :: ob1) := map_at (seg1 e15 gg1 ss1 cc1) d0 hm0
    obtain ⟨ρ1, er1, em1⟩ := out_some z1
    have el1 := mask_len em1 rfl
    obtain ⟨q0, q1, q2, q3, q4, e5, q6, q7, q8, q9, q10, q11, q12, q13, q14, e15, el1⟩ := list_L el1
    subst el1
    have h1_0 : q0 = some (.ref 0) := congrArg (fun l : G.Env => l.getD 0 none) em1
    subst h1_0
    have h1_1 : q1 = o0.getD 1 none := congrArg (fun l : G.Env => l.getD 1 none) em1
    subst h1_1
    have h1_2 : q2 = o0.getD 2 none := congrArg (fun l : G.Env => l.getD 2 none) em1
    subst h1_2
    have h1_3 : q3 = o1.getD 3 none := congrArg (fun l : G.Env => l.getD 3 none) em1
    subst h1_3
    have h1_4 : q4 = none := congrArg (fun l : G.Env => l.getD 4 none) em1
    subst h1_4
    have h1_6 : q6 = none := congrArg (fun l : G.Env => l.getD 6 none) em1
    subst h1_6
    have h1_7 : q7 = none := congrArg (fun l : G.Env => l.getD 7 none) em1
    subst h1_7
    have h1_8 : q8 = none := congrArg (fun l : G.Env => l.getD 8 none) em1
    subst h1_8
    have h1_9 : q9 = o0.getD 9 none := congrArg (fun l : G.Env => l.getD 9 none) em1
    subst h1_9
    have h1_10 : q10 = none := congrArg (fun l : G.Env => l.getD 10 none) em1
    subst h1_10
    have h1_11 : q11 = none := congrArg (fun l : G.Env => l.getD 11 none) em1
    subst h1_11
    have h1_12 : q12 = none := congrArg (fun l : G.Env => l.getD 12 none) em1
    subst h1_12
    have h1_13 : q13 = none := congrArg (fun l : G.Env => l.getD 13 none) em1
    subst h1_13
    have h1_14 : q14 = o0.getD 14 none := congrArg (fun l : G.Env => l.getD 14 none) em1
    subst h1_14
    rw [seq_step er1]
    have hd1 := Dice.objs (b := ob1) hd1
    have hd1 := Dice.objs (b := ob1) hd1
    obtain ⟨d1, gg2, ss2, cc2, hm1, ep1, hd2⟩ := pick_at (items := menu1) hd1 (by omega) mlen1.1 mlen1.2
    have es1 : b__law_right_6 [some (.ref 0), o0.getD 1 none, o0.getD 2 none, o1.getD 3 none, none, e5, none, none, none, o0.getD 9 none, none, none, none, none, o0.getD 14 none, e15] (dcO gg1 ss1 cc1 :: ob1) = .ok (.nx [some (.ref 0), o0.getD 1 none, o0.getD 2 none, o1.getD 3 none, none, e5, none, some d1, none, o0.getD 9 none, none, none, none, none, o0.getD 14 none, e15]) (dcO gg2 ss2 cc2 :: ob1) := by
      rw [bpick1]
      exact pick_stmt (args1 e5 e15 gg1 ss1 cc1) ep1
    rw [seq_step es1]
    have hd2 := Dice.objs (b := ob1) hd2
    obtain ⟨d2, gg3, ss3, cc3, hm2, ep2, hd3⟩ := pick_at (items := menu2) hd2 (by omega) mlen2.1 mlen2.2
    have es2 : b__law_right_7 [some (.ref 0), o0.getD 1 none, o0.getD 2 none, o1.getD 3 none, none, e5, none, some d1, none, o0.getD 9 none, none, none, none, none, o0.getD 14 none, e15] (dcO gg2 ss2 cc2 :: ob1) = .ok (.nx [some (.ref 0), o0.getD 1 none, o0.getD 2 none, o1.getD 3 none, none, e5, some d2, some d1, none, o0.getD 9 none, none, none, none, none, o0.getD 14 none, e15]) (dcO gg3 ss3 cc3 :: ob1) := by
      rw [bpick2]
      exact pick_stmt (args2 e5 e15 d1 gg2 ss2 cc2) ep2
    rw [seq_step es2]
    have z2 : outK [true, true, true, true, true, false, false, false, true, true, true, true, true, true, true, false] (g2 [some (.ref 0), o0.getD 1 none, o0.getD 2 none, o1.getD 3 none, none, e5, some d2, some d1, none, o0.getD 9 none, none, none, none, none, o0.getD 14 none, e15] (dcO gg3 ss3 cc3 :: ob1)) = some ([some (.ref 0), o0.getD 1 none, o0.getD 2 none, o2.getD 3 none, none, none, none, none, none, o0.getD 9 none, none, none, none, none, o0.getD 14 none, none], dcO gg3 ss3 cc3 :: ob2) := map_at (map_at (seg2 e5 e15 gg3 ss3 cc3) d1 hm1) d2 hm2
    obtain ⟨ρ2, er2, em2⟩ := out_some z2
    have el2 := mask_len em2 rfl
    obtain ⟨q0, q1, q2, q3, q4, e5, e6, e7, q8, q9, q10, q11, q12, q13, q14, e15, el2⟩ := list_L el2
    subst el2
    have h2_0 : q0 = some (.ref 0) := congrArg (fun l : G.Env => l.getD 0 none) em2
    subst h2_0
    have h2_1 : q1 = o0.getD 1 none := congrArg (fun l : G.Env => l.getD 1 none) em2
    subst h2_1
    have h2_2 : q2 = o0.getD 2 none := congrArg (fun l : G.Env => l.getD 2 none) em2
    subst h2_2
    have h2_3 : q3 = o2.getD 3 none := congrArg (fun l : G.Env => l.getD 3 none) em2
    subst h2_3
    have h2_4 : q4 = none := congrArg (fun l : G.Env => l.getD 4 none) em2
    subst h2_4
    have h2_8 : q8 = none := congrArg (fun l : G.Env => l.getD 8 none) em2
    subst h2_8
    have h2_9 : q9 = o0.getD 9 none := congrArg (fun l : G.Env => l.getD 9 none) em2
    subst h2_9
    have h2_10 : q10 = none := congrArg (fun l : G.Env => l.getD 10 none) em2
    subst h2_10
    have h2_11 : q11 = none := congrArg (fun l : G.Env => l.getD 11 none) em2
    subst h2_11
    have h2_12 : q12 = none := congrArg (fun l : G.Env => l.getD 12 none) em2
    subst h2_12
    have h2_13 : q13 = none := congrArg (fun l : G.Env => l.getD 13 none) em2
    subst h2_13
    have h2_14 : q14 = o0.getD 14 none := congrArg (fun l : G.Env => l.getD 14 none) em2
    subst h2_14
    rw [seq_step er2]
    have hd3 := Dice.objs (b := ob2) hd3
    have hd3 := Dice.objs (b := ob2) hd3
    obtain ⟨d3, gg4, ss4, cc4, hm3, ep3, hd4⟩ := pick_at (items := menu3) hd3 (by omega) mlen3.1 mlen3.2
    have es3 : b__law_right_10 [some (.ref 0), o0.getD 1 none, o0.getD 2 none, o2.getD 3 none, none, e5, e6, e7, none, o0.getD 9 none, none, none, none, none, o0.getD 14 none, e15] (dcO gg3 ss3 cc3 :: ob2) = .ok (.nx [some (.ref 0), o0.getD 1 none, o0.getD 2 none, o2.getD 3 none, none, e5, e6, e7, some d3, o0.getD 9 none, none, none, none, none, o0.getD 14 none, e15]) (dcO gg4 ss4 cc4 :: ob2) := by
      rw [bpick3]
      exact pick_stmt (args3 e5 e6 e7 e15 gg3 ss3 cc3) ep3
    rw [seq_step es3]
    have hd4 := Dice.objs (b := ob2) hd4
    obtain ⟨d4, gg5, ss5, cc5, hm4, ep4, hd5⟩ := pick_at (items := menu4) hd4 (by omega) mlen4.1 mlen4.2
    have es4 : b__law_right_11 [some (.ref 0), o0.getD 1 none, o0.getD 2 none, o2.getD 3 none, none, e5, e6, e7, some d3, o0.getD 9 none, none, none, none, none, o0.getD 14 none, e15] (dcO gg4 ss4 cc4 :: ob2) = .ok (.nx [some (.ref 0), o0.getD 1 none, o0.getD 2 none, o2.getD 3 none, none, e5, e6, e7, some d3, o0.getD 9 none, none, some d4, none, none, o0.getD 14 none, e15]) (dcO gg5 ss5 cc5 :: ob2) := by
      rw [bpick4]
      exact pick_stmt (args4 e5 e6 e7 e15 d3 gg4 ss4 cc4) ep4
    rw [seq_step es4]
    have z3 : outK [true, true, true, true, true, false, false, false, false, true, true, false, true, true, true, false] (g3 [some (.ref 0), o0.getD 1 none, o0.getD 2 none, o2.getD 3 none, none, e5, e6, e7, some d3, o0.getD 9 none, none, some d4, none, none, o0.getD 14 none, e15] (dcO gg5 ss5 cc5 :: ob2)) = some ([some (.ref 0), o0.getD 1 none, o0.getD 2 none, o3.getD 3 none, none, none, none, none, none, o0.getD 9 none, none, none, none, none, o0.getD 14 none, none], dcO gg5 ss5 cc5 :: ob3) := map_at (map_at (seg3 e5 e6 e7 e15 gg5 ss5 cc5) d3 hm3) d4 hm4
    obtain ⟨ρ3, er3, em3⟩ := out_some z3
    have el3 := mask_len em3 rfl
    obtain ⟨q0, q1, q2, q3, q4, e5, e6, e7, e8, q9, q10, e11, q12, q13, q14, e15, el3⟩ := list_L el3
    subst el3
    have h3_0 : q0 = some (.ref 0) := congrArg (fun l : G.Env => l.getD 0 none) em3
    subst h3_0
    have h3_1 : q1 = o0.getD 1 none := congrArg (fun l : G.Env => l.getD 1 none) em3
    subst h3_1
    have h3_2 : q2 = o0.getD 2 none := congrArg (fun l : G.Env => l.getD 2 none) em3
    subst h3_2
    have h3_3 : q3 = o3.getD 3 none := congrArg (fun l : G.Env => l.getD 3 none) em3
    subst h3_3
    have h3_4 : q4 = none := congrArg (fun l : G.Env => l.getD 4 none) em3
    subst h3_4
    have h3_9 : q9 = o0.getD 9 none := congrArg (fun l : G.Env => l.getD 9 none) em3
    subst h3_9
    have h3_10 : q10 = none := congrArg (fun l : G.Env => l.getD 10 none) em3
    subst h3_10
    have h3_12 : q12 = none := congrArg (fun l : G.Env => l.getD 12 none) em3
    subst h3_12
    have h3_13 : q13 = none := congrArg (fun l : G.Env => l.getD 13 none) em3
    subst h3_13
    have h3_14 : q14 = o0.getD 14 none := congrArg (fun l : G.Env => l.getD 14 none) em3
    subst h3_14
    rw [seq_step er3]
    have hd5 := Dice.objs (b := ob3) hd5
    have hd5 := Dice.objs (b := ob3) hd5
    obtain ⟨d5, gg6, ss6, cc6, hm5, ep5, hd6⟩ := pick_at (items := menu5) hd5 (by omega) mlen5.1 mlen5.2
    have es5 : b__law_right_14 [some (.ref 0), o0.getD 1 none, o0.getD 2 none, o3.getD 3 none, none, e5, e6, e7, e8, o0.getD 9 none, none, e11, none, none, o0.getD 14 none, e15] (dcO gg5 ss5 cc5 :: ob3) = .ok (.nx [some (.ref 0), o0.getD 1 none, o0.getD 2 none, o3.getD 3 none, none, e5, e6, e7, e8, o0.getD 9 none, some d5, e11, none, none, o0.getD 14 none, e15]) (dcO gg6 ss6 cc6 :: ob3) := by
      rw [bpick5]
      exact pick_stmt (args5 e5 e6 e7 e8 e11 e15 gg5 ss5 cc5) ep5
    rw [seq_step es5]
    have z4 : Res.give 1 (Res.plain (RS.fin (g4 [some (.ref 0), o0.getD 1 none, o0.getD 2 none, o3.getD 3 none, none, e5, e6, e7, e8, o0.getD 9 none, some d5, e11, none, none, o0.getD 14 none, e15] (dcO gg6 ss6 cc6 :: ob3)))) = Res.ok (.bl true) [dcO gg6 ss6 cc6] := map_at (seg4 e5 e6 e7 e8 e11 e15 gg6 ss6 cc6) d5 hm5
    exact ⟨_, _, _, z4, Dice.mono (Dice.objs hd6) (by omega)⟩
  obtain ⟨g, s, c, e, h⟩ := key
  exact ⟨_, e, rolled_one (N := 0) h⟩
end Kx

set_option Elab.async false
set_option linter.all false
set_option maxRecDepth 100000
set_option maxHeartbeats 0
namespace Kx
open PySem PySem.Spec PyProof.Rows L2 G
theorem law_ok (ns : List Int) : ∃ st, m_law [.lst (ns.map D.int)] [] = .ok (.bl true) st := by
  obtain ⟨ρ, e, hl, h0⟩ := spots_ok (right := m__law_right) (R := 6) (fun h1 h2 h3 => right_ok h1 h2 h3) (T := 6) (C := 5) (by decide) (by decide) (by decide) (L := 2) (ns := ns) (ρ := [some (.lst (ns.map D.int)), none, none, none, none, none]) rfl rfl
  match ρ, hl, h0 with
  | [some (.lst xs), a, b, c, d, f], _, h0 =>
    have z : Res.give 0 (Res.plain (fnD 6 (sSeq b_law_0 (sSeq b_law_1 (sSeq b_law_2 b_law_3))) [.lst (ns.map D.int)] [])) = .ok (.bl true) [] := by
      have e : b_law_0 [some (.lst (ns.map D.int)), none, none, none, none, none] [] = .ok (.nx [some (.lst xs), a, b, c, d, f]) [] := e
      rw [show fnD 6 (sSeq b_law_0 (sSeq b_law_1 (sSeq b_law_2 b_law_3))) [.lst (ns.map D.int)] [] = RS.fin (sSeq b_law_0 (sSeq b_law_1 (sSeq b_law_2 b_law_3)) [some (.lst (ns.map D.int)), none, none, none, none, none] []) from rfl]
      rw [seq_step e]
      kernel_rfl
    have nci : ∀ l : List Int, ncs (l.map D.int) = true := fun l => by
      induction l with
      | nil => rfl
      | cons n l ih =>
        rw [List.map_cons, ncs, ih]
        rfl
    have hc : (ncs [D.lst (ns.map D.int)] && ([] : Sto).all ncO) = true := by
      rw [ncs, nc, nci]
      rfl
    refine ⟨[], ?_⟩
    show Res.give 0 (if (ncs [D.lst (ns.map D.int)] && ([] : Sto).all ncO) = true then Res.plain (fnD 6 (sSeq b_law_0 (sSeq b_law_1 (sSeq b_law_2 b_law_3))) [.lst (ns.map D.int)] []) else .bad) = _
    rw [if_pos hc]
    exact z
end Kx

set_option Elab.async false
set_option linter.all false
set_option maxRecDepth 100000
set_option maxHeartbeats 0
open PySem PySem.W PySem.Calls PyProof.Rows
theorem PySem.Challenge.cw_amongliars_k29_errors_of_works_as_object_holds : PySem.Challenge.rw_amongliars_k29_errors_of_works_as_object.Holds := by
  w_on; o_law
  refine HandSHeadRun.head_any (r := OpenLaw.row PySem.Challenge.rw_amongliars_k29_errors_of_works_as_object) (q := view (OpenLaw.row PySem.Challenge.rw_amongliars_k29_errors_of_works_as_object).prog [54]) (H := Kx.hk) (ob := Kx.ob) (M := 4000) (loose := Kx.names) (d := HandSHeadRun.topDef (OpenLaw.row PySem.Challenge.rw_amongliars_k29_errors_of_works_as_object).prog 54) (kwd := []) Kx.ob_eq
    (by kernel_rfl) (fun s => by kernel_rfl) Kx.run (by kernel_rfl) (by kernel_rfl) (by kernel_rfl) (by rfl) (by first | assumption | decide +kernel) (by decide +kernel) ⟨rfl, rfl, rfl, rfl, rfl, by decide +kernel⟩ ?hw ?hc
  case hw => w_witness2
  case hc =>
    refine G.walkT (l := PySem.Challenge.rw_amongliars_k29_errors_of_works_as_object) (n := 63) (k := 14) (x := PySem.Str.ofString "script") rfl (by decide) (by kernel_rfl) ⟨rfl, by decide, by decide⟩ ?F
    intro w mg fa h Y GN hmg0
    obtain ⟨K, KX, c⟩ := Y
    obtain ⟨T, _, nd⟩ := Kx.facts KX GN c
    have e : (HandSHeadRun.topDef (OpenLaw.row PySem.Challenge.rw_amongliars_k29_errors_of_works_as_object).prog 54).name = (PySem.Str.ofString "law" : PySem.Str) := by kernel_rfl
    have hmg1 := (congrArg mg e).symm.trans hmg0
    have e2 : T.a_law = fa := PySem.Value.ref.inj (Option.some.inj (T.t_law.g.symm.trans hmg1))
    have b := L2.FunD.bindsA (ps := [PySem.Str.ofString "script"]) T.t_law.fn fun _ _ _ _ _ _ us hl => match us, hl with | [_], _ => rfl
    exact ⟨K, T.d_law, G.glOf K Kx.cls, Kx.tfs, Kx.m_law, KX, G.tabs_of KX c, nd, fun s v => b s [v] rfl, fun ns _ => Kx.law_ok ns, fun base _ _ TK => e2 ▸ Kx.o_law T TK⟩
