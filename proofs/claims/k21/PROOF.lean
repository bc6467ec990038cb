import PyProof.Rows.All
import Wide.All
import OpenK.AllK
import Wide.FinOn
import KE.KStateDown
import Lean
import HandS.ForMost
import HandS.ForExc
import HandS.Wide
import HandS.TupAny
import HandS.IsInst
import HandS.Defaults
import HandS.CallSlots
import HandS.Zip
import HandS.Style
import HandS.Head0
import HandS.Head1
import HandS.Head2
import HandS.HeadEnd
import HandS.HeadHook1
import HandS.HeadHook2
import HandS.HeadHook3
import HandS.HeadHook4
import PySem.Challenge.RW_amongliars_k21_whole_numbers
set_option Elab.async false
set_option linter.all false
set_option maxRecDepth 100000
set_option maxHeartbeats 4000000
/-! A pure reading of Python code: values D, a store, results; each construct of the hand layer as a rule that speaks of such values alone. -/
namespace G
open PySem PySem.Spec PyProof.Rows L2

/-- the built-in types that are named -/
inductive Ty where
  | int | bool | str | tuple | list | dict | none | set | float
  deriving DecidableEq
def Ty.name : Ty → String
  | .int => "int" | .bool => "bool" | .str => "str" | .tuple => "tuple" | .list => "list" | .dict => "dict" | .none => "NoneType" | .set => "set" | .float => "float"
/-- values -/
inductive D where
  | non | bl (b : Bool) | int (i : Int) | str (s : List Nat) | ty (t : Ty)
  | glo (k : Nat) | ref (n : Nat)
  | tup (ds : List D) | lst (ds : List D)

/-- objects that may change -/
inductive SO where
  | lst (ds : List D)
abbrev Sto := List SO
/-- an exception: its class, by the number of the global; its fields -/
structure Exc where
  cls : Nat
  fs : List (Str × D)
inductive Res (α : Type) where
  | ok (a : α) (st : Sto) | exc (x : Exc) (st : Sto) | bad
def Res.bind {α β : Type} (r : Res α) (k : α → Sto → Res β) : Res β := match r with
  | .ok a st => k a st
  | .exc x st => .exc x st
  | .bad => .bad
abbrev Env := List (Option D)
abbrev Ev := Env → Sto → Res D
abbrev EvA := Env → Sto → Res (List D)
abbrev EvT := Env → Sto → Res Bool
abbrev Fn := List D → Sto → Res D

/-- what is fixed: the written part, the addresses of the globals by number, what is being made -/
structure Cfg where
  K : PySem.W.Frag
  gl : Nat → Option Addr
  hot : List Addr

/-! ### what stands for what -/
/-- of the written part -/
def KLst (K : PySem.W.Frag) (a : Addr) (xs : List V) : Prop := ∃ (o : Obj) (its : Array Value) (n : Nat), K.lookup a = some o ∧ o.cls = .type "list" ∧ o.dict = none ∧ o.data = .seq its n ∧ its.size ≤ sizeLine ∧ Vals xs its.toList
def KTup (K : PySem.W.Frag) (a : Addr) (xs : List V) : Prop := ∃ (o : Obj) (its : Array Value) (n : Nat), K.lookup a = some o ∧ o.cls = .type "tuple" ∧ o.data = .seq its n ∧ its.size ≤ sizeLine ∧ Vals xs its.toList
/-- a list, a tuple at a that nothing changes -/
def TupAt (C : Cfg) (η : List Addr) (H : Hp) (a : Addr) (vs : List V) : Prop := (a ∉ η ∧ a ∉ C.hot ∧ Rd H a (.tup vs)) ∨ KTup C.K a vs
def LstAt (C : Cfg) (η : List Addr) (H : Hp) (a : Addr) (vs : List V) : Prop := (a ∉ η ∧ a ∉ C.hot ∧ Rd H a (.lst vs)) ∨ KLst C.K a vs
mutual
def Rep (C : Cfg) (η : List Addr) (H : Hp) : D → V → Prop
  | .non, v => v = .non
  | .bl b, v => v = .bl b
  | .int i, v => v = .int i
  | .str s, v => v = .str ⟨s.toArray⟩
  | .ty t, v => v = .ty t.name
  | .glo k, v => ∃ a, C.gl k = some a ∧ v = .ref a
  | .ref n, v => ∃ a, η[n]? = some a ∧ v = .ref a
  | .tup ds, v => ∃ a vs, v = .ref a ∧ TupAt C η H a vs ∧ RepL C η H ds vs
  | .lst ds, v => ∃ a vs, v = .ref a ∧ LstAt C η H a vs ∧ RepL C η H ds vs
def RepL (C : Cfg) (η : List Addr) (H : Hp) : List D → List V → Prop
  | [], vs => vs = []
  | d :: ds, vs => ∃ v r, vs = v :: r ∧ Rep C η H d v ∧ RepL C η H ds r
end
def SOk (C : Cfg) (η : List Addr) (H : Hp) (a : Addr) : SO → Prop
  | .lst ds => ∃ vs, H a = some (.lst vs) ∧ RepL C η H ds vs
structure StOk (C : Cfg) (η : List Addr) (st : Sto) (H : Hp) : Prop where
  len : η.length = st.length
  nd : η.Nodup
  ok : ∀ (n : Nat) (a : Addr) (o : SO), η[n]? = some a → st[n]? = some o → SOk C η H a o
  hot : ∀ a ∈ C.hot, H a ≠ none
/-- from (η, H) on to (η', H') -/
structure Step (η : List Addr) (H : Hp) (η' : List Addr) (H' : Hp) : Prop where
  ext : ∃ t, η' = η ++ t ∧ ∀ p ∈ t, H p = none
  keep : ∀ a o, H a = some o → a ∉ η → H' a = some o
  dom : ∀ a, H' a = none → H a = none
section
variable {C : Cfg} {η η' η1 η2 : List Addr} {H H' H1 H2 : Hp} {st st' : Sto} {a : Addr} {d : D} {v : V} {ds : List D} {vs : List V}
theorem TupAt.sq (h : TupAt C η H a vs) : SqT C.K H a vs := by
  rcases h with ⟨_, _, h⟩ | h
  · exact .inl h
  · exact .inr h
theorem LstAt.sq (h : LstAt C η H a vs) : SqL C.K H a vs := by
  rcases h with ⟨_, _, h⟩ | h
  · exact .inl h
  · exact .inr h
theorem Step.refl : Step η H η H := ⟨⟨[], by simp, by simp⟩, fun _ _ h _ => h, fun _ h => h⟩
theorem Step.nin (s : Step η H η' H') {o : HO} (h : H a = some o) (n : a ∉ η) : a ∉ η' := by
  obtain ⟨t, rfl, ht⟩ := s.ext
  intro m
  rcases List.mem_append.mp m with m | m
  · exact n m
  · rw [ht a m] at h
    cases h
theorem Step.trans (s : Step η H η1 H1) (s2 : Step η1 H1 η2 H2) : Step η H η2 H2 := by
  refine ⟨?_, fun a o h n => s2.keep a o (s.keep a o h n) (s.nin h n), fun a h => s.dom a (s2.dom a h)⟩
  obtain ⟨t, rfl, ht⟩ := s.ext
  obtain ⟨t2, rfl, ht2⟩ := s2.ext
  refine ⟨t ++ t2, by simp, fun p hp => ?_⟩
  rcases List.mem_append.mp hp with m | m
  · exact ht p m
  · exact s.dom p (ht2 p m)
theorem Step.ref (s : Step η H η' H') {n : Nat} (h : η[n]? = some a) : η'[n]? = some a := by
  obtain ⟨t, rfl, _⟩ := s.ext
  rw [List.getElem?_append_left (List.getElem?_eq_some_iff.mp h).1]
  exact h
theorem Step.rd (s : Step η H η' H') {u : HO} (n : a ∉ η) (h : Rd H a u) : a ∉ η' ∧ Rd H' a u := by
  rcases h with h | ⟨o, h⟩
  · exact ⟨s.nin h n, .inl (s.keep _ _ h n)⟩
  · exact ⟨s.nin h n, .inr ⟨o, s.keep _ _ h n⟩⟩
theorem TupAt.mono (s : Step η H η' H') (h : TupAt C η H a vs) : TupAt C η' H' a vs := by
  rcases h with ⟨n, m, h⟩ | h
  · exact .inl ⟨(s.rd n h).1, m, (s.rd n h).2⟩
  · exact .inr h
theorem LstAt.mono (s : Step η H η' H') (h : LstAt C η H a vs) : LstAt C η' H' a vs := by
  rcases h with ⟨n, m, h⟩ | h
  · exact .inl ⟨(s.rd n h).1, m, (s.rd n h).2⟩
  · exact .inr h
mutual
theorem Rep.mono (s : Step η H η' H') : ∀ {d : D} {v : V}, Rep C η H d v → Rep C η' H' d v
  | .non, _, h => h
  | .bl _, _, h => h
  | .int _, _, h => h
  | .str _, _, h => h
  | .ty _, _, h => h
  | .glo _, _, h => h
  | .ref _, _, h => by
    rw [Rep] at h ⊢
    obtain ⟨a, e, r⟩ := h
    exact ⟨a, s.ref e, r⟩
  | .tup ds, _, h => by
    rw [Rep] at h ⊢
    obtain ⟨a, vs, e, t, r⟩ := h
    exact ⟨a, vs, e, t.mono s, RepL.mono s r⟩
  | .lst ds, _, h => by
    rw [Rep] at h ⊢
    obtain ⟨a, vs, e, t, r⟩ := h
    exact ⟨a, vs, e, t.mono s, RepL.mono s r⟩
theorem RepL.mono (s : Step η H η' H') : ∀ {ds : List D} {vs : List V}, RepL C η H ds vs → RepL C η' H' ds vs
  | [], _, h => h
  | d :: ds, _, h => by
    rw [RepL] at h ⊢
    obtain ⟨v, r, e, h1, h2⟩ := h
    exact ⟨v, r, e, Rep.mono s h1, RepL.mono s h2⟩
end
theorem RepL.length : ∀ {ds : List D} {vs : List V}, RepL C η H ds vs → ds.length = vs.length
  | [], _, h => by
    rw [RepL] at h
    subst h
    rfl
  | d :: ds, _, h => by
    rw [RepL] at h
    obtain ⟨v, r, e, h1, h2⟩ := h
    subst e
    rw [List.length_cons, List.length_cons, RepL.length h2]
theorem RepL.get : ∀ {ds : List D} {vs : List V} {i : Nat} {d : D}, RepL C η H ds vs → ds[i]? = some d → ∃ v, vs[i]? = some v ∧ Rep C η H d v
  | [], _, _, _, _, e => by simp at e
  | d :: ds, _, i, x, h, e => by
    rw [RepL] at h
    obtain ⟨v, r, rfl, h1, h2⟩ := h
    cases i with
    | zero =>
      simp at e
      subst e
      exact ⟨v, by simp, h1⟩
    | succ i =>
      obtain ⟨u, e2, q⟩ := RepL.get (i := i) h2 (by simpa using e)
      exact ⟨u, by simpa using e2, q⟩
theorem RepL.getV : ∀ {ds : List D} {vs : List V} {i : Nat} {v : V}, RepL C η H ds vs → vs[i]? = some v → ∃ d, ds[i]? = some d ∧ Rep C η H d v
  | [], _, _, _, h, e => by
    rw [RepL] at h
    subst h
    simp at e
  | d :: ds, _, i, x, h, e => by
    rw [RepL] at h
    obtain ⟨v, r, rfl, h1, h2⟩ := h
    cases i with
    | zero =>
      simp at e
      subst e
      exact ⟨d, by simp, h1⟩
    | succ i =>
      obtain ⟨u, e2, q⟩ := RepL.getV (i := i) h2 (by simpa using e)
      exact ⟨u, by simpa using e2, q⟩
theorem RepL.append : ∀ {ds es : List D} {vs us : List V}, RepL C η H ds vs → RepL C η H es us → RepL C η H (ds ++ es) (vs ++ us)
  | [], _, _, _, h, h' => by
    rw [RepL] at h
    subst h
    exact h'
  | d :: ds, _, _, _, h, h' => by
    rw [RepL] at h
    obtain ⟨v, r, rfl, h1, h2⟩ := h
    rw [List.cons_append, List.cons_append, RepL]
    exact ⟨v, _, rfl, h1, RepL.append h2 h'⟩
theorem RepL.one (h : Rep C η H d v) : RepL C η H [d] [v] := by
  rw [RepL]
  exact ⟨v, [], rfl, h, by rw [RepL]⟩
theorem RepL.nil : RepL C η H [] [] := by rw [RepL]
theorem RepL.cons (h : Rep C η H d v) (h' : RepL C η H ds vs) : RepL C η H (d :: ds) (v :: vs) := by
  rw [RepL]
  exact ⟨v, vs, rfl, h, h'⟩
theorem RepL.set : ∀ {ds : List D} {vs : List V} (i : Nat), RepL C η H ds vs → Rep C η H d v → RepL C η H (ds.set i d) (vs.set i v)
  | [], _, _, h, _ => by
    rw [RepL] at h
    subst h
    exact RepL.nil
  | e :: ds, _, i, h, q => by
    rw [RepL] at h
    obtain ⟨u, r, rfl, h1, h2⟩ := h
    cases i with
    | zero => exact RepL.cons q h2
    | succ i => exact RepL.cons h1 (RepL.set i h2 q)
theorem RepL.take : ∀ {ds : List D} {vs : List V} (n : Nat), RepL C η H ds vs → RepL C η H (ds.take n) (vs.take n)
  | [], _, _, h => by
    rw [RepL] at h
    subst h
    simp only [List.take_nil]
    exact RepL.nil
  | e :: ds, _, i, h => by
    rw [RepL] at h
    obtain ⟨u, r, rfl, h1, h2⟩ := h
    cases i with
    | zero => exact RepL.nil
    | succ i => exact RepL.cons h1 (RepL.take i h2)
theorem RepL.drop : ∀ {ds : List D} {vs : List V} (n : Nat), RepL C η H ds vs → RepL C η H (ds.drop n) (vs.drop n)
  | [], _, _, h => by
    rw [RepL] at h
    subst h
    simp only [List.drop_nil]
    exact RepL.nil
  | e :: ds, _, i, h => by
    rw [RepL] at h
    obtain ⟨u, r, rfl, h1, h2⟩ := h
    cases i with
    | zero => exact RepL.cons h1 h2
    | succ i => exact RepL.drop i h2
theorem RepL.reverse : ∀ {ds : List D} {vs : List V}, RepL C η H ds vs → RepL C η H ds.reverse vs.reverse
  | [], _, h => by
    rw [RepL] at h
    subst h
    exact RepL.nil
  | e :: ds, _, h => by
    rw [RepL] at h
    obtain ⟨u, r, rfl, h1, h2⟩ := h
    rw [List.reverse_cons, List.reverse_cons]
    exact RepL.append (RepL.reverse h2) (RepL.one h1)
theorem SOk.mono {o : SO} (s : Step η H η' H') (e : H' a = H a) (h : SOk C η H a o) : SOk C η' H' a o := by
  cases o with
  | lst ds =>
    obtain ⟨vs, q, r⟩ := h
    exact ⟨vs, e.trans q, r.mono s⟩
theorem SOk.some {o : SO} (h : SOk C η H a o) : ∃ u, H a = some u := by
  cases o with
  | lst ds =>
    obtain ⟨vs, q, r⟩ := h
    exact ⟨_, q⟩
theorem StOk.at_ (k : StOk C η st H) {n : Nat} {o : SO} (h : st[n]? = some o) : ∃ a, η[n]? = some a ∧ SOk C η H a o := by
  have hn : n < η.length := by
    rw [k.len]
    exact (List.getElem?_eq_some_iff.mp h).1
  exact ⟨η[n], by simp [hn], k.ok n _ o (by simp [hn]) h⟩
theorem StOk.there (k : StOk C η st H) (h : a ∈ η) : ∃ u, H a = some u := by
  obtain ⟨n, hn, rfl⟩ := List.getElem_of_mem h
  have h2 : n < st.length := by
    rw [← k.len]
    exact hn
  exact (k.ok n _ st[n] (by simp [hn]) (by simp [h2])).some
/-- a new thing that nothing changes -/
theorem Step.new {p : Addr} {o : HO} (h : H p = none) : Step η H η (upd H p o) := ⟨⟨[], by simp, by simp⟩, fun b u e _ => by rw [upd_ne (ne_of_none e h)]; exact e, fun b e => by
  by_cases hb : b = p
  · subst hb
    exact h
  · rw [upd_ne hb] at e
    exact e⟩
theorem StOk.stay (k : StOk C η st H) (s : Step η H η H') (e : ∀ a ∈ η, H' a = H a) : StOk C η st H' :=
  ⟨k.len, k.nd, fun n a o h1 h2 => (k.ok n a o h1 h2).mono s (e a (List.mem_of_getElem? h1)), fun a ha z => k.hot a ha (s.dom a z)⟩
theorem StOk.new (k : StOk C η st H) {p : Addr} {o : HO} (h : H p = none) : StOk C η st (upd H p o) := k.stay (Step.new h) fun a ha => by
  obtain ⟨u, e⟩ := k.there ha
  rw [upd_ne (ne_of_none e h)]
/-- a new object of the store -/
theorem Step.push {p : Addr} {o : HO} (h : H p = none) : Step η H (η ++ [p]) (upd H p o) := ⟨⟨[p], rfl, fun q hq => by
  have e : q = p := by simpa using hq
  rw [e]
  exact h⟩, (Step.new (η := η) h).keep, (Step.new (η := η) h).dom⟩
theorem StOk.push (k : StOk C η st H) {p : Addr} {o : SO} {u : HO} (h : H p = none) (new : SOk C (η ++ [p]) (upd H p u) p o) : StOk C (η ++ [p]) (st ++ [o]) (upd H p u) := by
  have np : p ∉ η := fun m => by
    obtain ⟨w, e⟩ := k.there m
    rw [h] at e
    cases e
  refine ⟨by simp [k.len], ?_, fun n a x h1 h2 => ?_, fun b hb z => k.hot b hb ((Step.push (η := η) h).dom b z)⟩
  · rw [List.nodup_append]
    exact ⟨k.nd, by simp, fun a ha b hb => by
      have e : b = p := by simpa using hb
      rw [e]
      exact fun z => np (z ▸ ha)⟩
  · by_cases hn : n < η.length
    · rw [List.getElem?_append_left hn] at h1
      rw [List.getElem?_append_left (by rw [← k.len]; exact hn)] at h2
      have q := k.ok n a x h1 h2
      obtain ⟨w, e⟩ := q.some
      exact q.mono (Step.push h) (by rw [upd_ne (ne_of_none e h)])
    · have hl : n < (η ++ [p]).length := (List.getElem?_eq_some_iff.mp h1).1
      have e : n = η.length := by
        simp at hl
        omega
      subst e
      have e1 : p = a := by simpa using h1
      have e2 : o = x := by
        rw [k.len] at h2
        simpa using h2
      subst e1 e2
      exact new
/-- an object of the store is changed -/
theorem StOk.step_set (k : StOk C η st H) {n : Nat} {u : HO} (h1 : η[n]? = some a) : Step η H η (upd H a u) := ⟨⟨[], by simp, by simp⟩, fun b o e nb => by
  have ne : b ≠ a := fun z => nb (by rw [z]; exact List.mem_of_getElem? h1)
  rw [upd_ne ne]
  exact e, fun b e => by
  by_cases hb : b = a
  · subst hb
    rw [upd_same] at e
    cases e
  · rw [upd_ne hb] at e
    exact e⟩
theorem StOk.put (k : StOk C η st H) {n : Nat} {o : SO} {u : HO} (h1 : η[n]? = some a) (new : SOk C η (upd H a u) a o) : StOk C η (st.set n o) (upd H a u) := by
  refine ⟨by simp [k.len], k.nd, fun m b x e1 e2 => ?_, fun b hb z => k.hot b hb ((k.step_set h1).dom b z)⟩
  by_cases hm : m = n
  · subst hm
    rw [h1] at e1
    cases e1
    have hl : m < st.length := by
      have := (List.getElem?_eq_some_iff.mp e2).1
      simpa using this
    rw [List.getElem?_set_self hl] at e2
    cases e2
    exact new
  · rw [List.getElem?_set_ne (Ne.symm hm)] at e2
    refine (k.ok m b x e1 e2).mono (k.step_set h1) ?_
    rw [upd_ne]
    intro z
    subst z
    obtain ⟨l1, g1⟩ := List.getElem?_eq_some_iff.mp e1
    obtain ⟨l2, g2⟩ := List.getElem?_eq_some_iff.mp h1
    exact hm ((List.getElem_inj k.nd).mp (g1.trans g2.symm))
/-- the slots -/
structure EnvOk (C : Cfg) (η : List Addr) (H : Hp) (ρ : Env) (σ : L2.St) : Prop where
  len : ρ.length = σ.length
  ok : ∀ (i : Nat) (d : D), ρ[i]? = some (some d) → ∃ v, σ[i]? = some (some v) ∧ Rep C η H d v
theorem EnvOk.mono {ρ : Env} {σ : L2.St} (e : EnvOk C η H ρ σ) (s : Step η H η' H') : EnvOk C η' H' ρ σ := ⟨e.len, fun i d h => by
  obtain ⟨v, e1, r⟩ := e.ok i d h
  exact ⟨v, e1, r.mono s⟩⟩
theorem EnvOk.set {ρ : Env} {σ : L2.St} (e : EnvOk C η H ρ σ) (i : Nat) (r : Rep C η H d v) : EnvOk C η H (ρ.set i (some d)) (σ.set i (some v)) := by
  refine ⟨by simp [e.len], fun j x h => ?_⟩
  by_cases hj : j = i
  · subst hj
    have hl : j < ρ.length := by simpa using (List.getElem?_eq_some_iff.mp h).1
    rw [List.getElem?_set_self hl] at h
    cases h
    exact ⟨v, by rw [List.getElem?_set_self (by rw [← e.len]; exact hl)], r⟩
  · rw [List.getElem?_set_ne (Ne.symm hj)] at h
    obtain ⟨w, e1, q⟩ := e.ok j x h
    exact ⟨w, by rw [List.getElem?_set_ne (Ne.symm hj)]; exact e1, q⟩
theorem EnvOk.unset {ρ : Env} {σ : L2.St} (e : EnvOk C η H ρ σ) (i : Nat) : EnvOk C η H (ρ.set i none) σ := by
  refine ⟨by simp [e.len], fun j x h => ?_⟩
  by_cases hj : j = i
  · subst hj
    have hl : j < ρ.length := by simpa using (List.getElem?_eq_some_iff.mp h).1
    rw [List.getElem?_set_self hl] at h
    cases h
  · rw [List.getElem?_set_ne (Ne.symm hj)] at h
    exact e.ok j x h
end
/-- an exception in the air: its fields stand in its own dict -/
def RepF (C : Cfg) (η : List Addr) (H : Hp) (fs : List (Str × D)) (d : Option Addr) : Prop :=
  (fs = [] ∧ d = none) ∨ ∃ a us, d = some a ∧ a ∉ η ∧ a ∉ C.hot ∧ H a = some (.xd us) ∧ us.map (·.1) = fs.map (·.1) ∧ RepL C η H (fs.map (·.2)) (us.map (·.2))
def RepX (C : Cfg) (η : List Addr) (H : Hp) (x : Exc) (c : Value) (d : Option Addr) : Prop := (∃ a, C.gl x.cls = some a ∧ c = .ref a) ∧ RepF C η H x.fs d
/-- what is wanted behind a result -/
def Post (C : Cfg) (W : WX) (σ : L2.St) {α β : Type} (R : List Addr → Hp → α → β → Prop) (η : List Addr) (H : Hp) (r : Res α) (Q : β → Hp → Prop) : Prop := match r with
  | .ok a st' => ∀ v η' H', Step η H η' H' → StOk C η' st' H' → R η' H' a v → Q v H'
  | .exc x st' => ∀ c d η' H', Step η H η' H' → StOk C η' st' H' → RepX C η' H' x c d → W c d σ H'
  | .bad => False
section
variable {C : Cfg} {W : WX} {σ : L2.St} {α β γ δ : Type} {R : List Addr → Hp → α → β → Prop} {R2 : List Addr → Hp → γ → δ → Prop} {η η' : List Addr} {H H' : Hp}
theorem Post.step {r : Res α} {Q : β → Hp → Prop} (s : Step η H η' H') (h : Post C W σ R η H r Q) : Post C W σ R η' H' r Q := by
  cases r with
  | ok a st' => exact fun v η1 H1 s1 => h v η1 H1 (s.trans s1)
  | exc x st' => exact fun c d η1 H1 s1 => h c d η1 H1 (s.trans s1)
  | bad => exact h
theorem Post.bind {r : Res α} {k : α → Sto → Res γ} {Q : δ → Hp → Prop} {Q1 : β → Hp → Prop} (h : Post C W σ R2 η H (r.bind k) Q)
    (hk : ∀ a st1 v η1 H1, r = .ok a st1 → Step η H η1 H1 → StOk C η1 st1 H1 → R η1 H1 a v → Post C W σ R2 η1 H1 (k a st1) Q → Q1 v H1) : Post C W σ R η H r Q1 := by
  cases r with
  | ok a st1 => exact fun v η1 H1 s1 k1 r1 => hk a st1 v η1 H1 rfl s1 k1 r1 (Post.step s1 h)
  | exc x st1 => exact h
  | bad => exact h
theorem Post.imp {r : Res α} {Q Q1 : β → Hp → Prop} (h : Post C W σ R η H r Q) (hk : ∀ v H, Q v H → Q1 v H) : Post C W σ R η H r Q1 := by
  cases r with
  | ok a st1 => exact fun v η1 H1 s1 k1 r1 => hk _ _ (h v η1 H1 s1 k1 r1)
  | exc x st1 => exact h
  | bad => exact h
theorem Post.ret {a : α} {st : Sto} {Q : β → Hp → Prop} {v : β} (h : Post C W σ R η H (.ok a st) Q) (k : StOk C η st H) (r : R η H a v) : Q v H := h v η H Step.refl k r
theorem Post.at_ {a : α} {st : Sto} {Q : β → Hp → Prop} {v : β} (h : Post C W σ R η H (.ok a st) Q) (s : Step η H η' H') (k : StOk C η' st H') (r : R η' H' a v) : Q v H' := h v η' H' s k r
end
def tE (C : Cfg) (W : WX) (f : Ev) : TE := fun σ H Q => ∃ η ρ st, StOk C η st H ∧ EnvOk C η H ρ σ ∧ Post C W σ (Rep C) η H (f ρ st) Q
def tAr (C : Cfg) (W : WX) (f : EvA) : TA := fun σ H Q => ∃ η ρ st, StOk C η st H ∧ EnvOk C η H ρ σ ∧ Post C W σ (RepL C) η H (f ρ st) Q
def tT (C : Cfg) (W : WX) (f : EvT) : TT := fun σ H Q => ∃ η ρ st, StOk C η st H ∧ EnvOk C η H ρ σ ∧ Post C W σ (fun _ _ a b => a = b) η H (f ρ st) Q
/-- an expression reads as f; arguments; a test -/
structure SE (X : Cx) (C : Cfg) (e : Expr) (f : Ev) : Prop where
  run : ∀ W, Takes X W → PE X e (tE C W f)
structure SA (X : Cx) (C : Cfg) (es : List Expr) (f : EvA) : Prop where
  run : ∀ W, Takes X W → PA X es (tAr C W f)
structure ST (X : Cx) (C : Cfg) (e : Expr) (f : EvT) : Prop where
  run : ∀ W, Takes X W → PT X e (tT C W f)
structure SW (X : Cx) (C : Cfg) (e : Expr) (f : EvT) : Prop where
  run : ∀ W, Takes X W → PW X e (tT C W f)
theorem PE_imp {X : Cx} {e : Expr} {t t' : TE} (h : PE X e t) (i : ∀ σ H Q, t' σ H Q → t σ H Q) : PE X e t' := ⟨fun pins s σ H Q I q => h.run pins s σ H Q I (i σ H Q q)⟩
theorem PT_imp {X : Cx} {e : Expr} {t t' : TT} (h : PT X e t) (i : ∀ σ H Q, t' σ H Q → t σ H Q) : PT X e t' := ⟨fun pins s σ H Q I q => h.run pins s σ H Q I (i σ H Q q)⟩
theorem PW_imp {X : Cx} {e : Expr} {t t' : TT} (h : PW X e t) (i : ∀ σ H Q, t' σ H Q → t σ H Q) : PW X e t' := ⟨fun wh pins s σ H Q I q => h.run wh pins s σ H Q I (i σ H Q q)⟩
theorem PA_imp {X : Cx} {e : List Expr} {t t' : TA} (h : PA X e t) (i : ∀ σ H Q, t' σ H Q → t σ H Q) : PA X e t' := ⟨fun pos pins s σ H Q I q => h.run pos pins s σ H Q I (i σ H Q q)⟩
end G

set_option Elab.async false
set_option linter.all false
set_option maxRecDepth 100000
set_option maxHeartbeats 4000000
/-! Expressions. -/
namespace G
open PySem PySem.Spec PyProof.Rows L2

/-- the bound of lengths -/
def big (n : Nat) : Bool := Nat.ble n 100000
theorem big_line {n : Nat} (h : big n = true) : n ≤ sizeLine := Nat.le_trans (Nat.le_of_ble_eq_true h) (by decide)
theorem big_lt {n : Nat} (h : big (n + 1) = true) : n < sizeLine := Nat.lt_of_lt_of_le (Nat.lt_of_succ_le (Nat.le_of_ble_eq_true h)) (by decide)

/-- what is read at a value: a list of the store by its items -/
def vw (st : Sto) (d : D) : D := match d with
  | .ref n => (match st[n]? with
    | some (.lst ds) => .lst ds
    | none => .ref n)
  | d => d

section
variable {C : Cfg} {η : List Addr} {H : Hp} {st : Sto} {d : D} {v : V}
theorem vw_lst {ds : List D} (k : StOk C η st H) (r : Rep C η H d v) (e : vw st d = .lst ds) : ∃ a vs, v = .ref a ∧ SqL C.K H a vs ∧ RepL C η H ds vs := by
  cases d with
  | lst xs =>
    have e' : xs = ds := by simpa [vw] using e
    subst e'
    rw [Rep] at r
    obtain ⟨a, vs, e1, t, q⟩ := r
    exact ⟨a, vs, e1, t.sq, q⟩
  | ref n =>
    rw [Rep] at r
    obtain ⟨a, e1, e2⟩ := r
    unfold vw at e
    simp only at e
    cases h : st[n]? with
    | none => rw [h] at e; cases e
    | some o =>
      rw [h] at e
      cases o with
      | lst xs =>
        have e' : xs = ds := by simpa using e
        subst e'
        obtain ⟨vs, q1, q2⟩ := k.ok n a _ e1 h
        exact ⟨a, vs, e2, .inl (.inl q1), q2⟩
  | _ => cases e
theorem vw_ne {x : D} (e : vw st d = x) (h1 : ∀ ds, x ≠ .lst ds) : (∃ n, d = .ref n ∧ x = .ref n) ∨ d = x := by
  cases d with
  | ref n =>
    left
    refine ⟨n, rfl, ?_⟩
    unfold vw at e
    simp only at e
    cases h : st[n]? with
    | none => rw [h] at e; exact e.symm
    | some o =>
      rw [h] at e
      cases o with
      | lst xs => exact absurd e.symm (h1 xs)
  | _ => right; exact e
theorem vw_tup {ds : List D} (r : Rep C η H d v) (e : vw st d = .tup ds) : ∃ a vs, v = .ref a ∧ SqT C.K H a vs ∧ RepL C η H ds vs := by
  rcases vw_ne e (fun _ z => by cases z) with ⟨n, _, z⟩ | rfl
  · cases z
  · rw [Rep] at r
    obtain ⟨a, vs, e1, t, q⟩ := r
    exact ⟨a, vs, e1, t.sq, q⟩
theorem vw_int {i : Int} (r : Rep C η H d v) (e : vw st d = .int i) : v = .int i := by
  rcases vw_ne e (fun _ z => by cases z) with ⟨n, _, z⟩ | rfl
  · cases z
  · rw [Rep] at r; exact r
theorem vw_bl {i : Bool} (r : Rep C η H d v) (e : vw st d = .bl i) : v = .bl i := by
  rcases vw_ne e (fun _ z => by cases z) with ⟨n, _, z⟩ | rfl
  · cases z
  · rw [Rep] at r; exact r
theorem vw_str {i : List Nat} (r : Rep C η H d v) (e : vw st d = .str i) : v = .str ⟨i.toArray⟩ := by
  rcases vw_ne e (fun _ z => by cases z) with ⟨n, _, z⟩ | rfl
  · cases z
  · rw [Rep] at r; exact r
theorem vw_non (r : Rep C η H d v) (e : vw st d = .non) : v = .non := by
  rcases vw_ne e (fun _ z => by cases z) with ⟨n, _, z⟩ | rfl
  · cases z
  · rw [Rep] at r; exact r
theorem vw_ty {i : Ty} (r : Rep C η H d v) (e : vw st d = .ty i) : v = .ty i.name := by
  rcases vw_ne e (fun _ z => by cases z) with ⟨n, _, z⟩ | rfl
  · cases z
  · rw [Rep] at r; exact r
/-- a new list, a new tuple that nothing changes -/
theorem new_out {p : Addr} (k : StOk C η st H) (h : H p = none) : p ∉ η := fun m => by
  obtain ⟨u, e⟩ := k.there m
  rw [h] at e
  cases e
theorem new_cold {p : Addr} (k : StOk C η st H) (h : H p = none) : p ∉ C.hot := fun m => k.hot p m h
theorem new_lst {ds : List D} {vs : List V} {p : Addr} (k : StOk C η st H) (r : RepL C η H ds vs) (h : H p = none) : Rep C η (upd H p (.lst vs)) (.lst ds) (.ref p) := by
  rw [Rep]
  exact ⟨p, vs, rfl, .inl ⟨new_out k h, new_cold k h, .inl upd_same⟩, r.mono (Step.new h)⟩
theorem new_tup {ds : List D} {vs : List V} {p : Addr} (k : StOk C η st H) (r : RepL C η H ds vs) (h : H p = none) : Rep C η (upd H p (.tup vs)) (.tup ds) (.ref p) := by
  rw [Rep]
  exact ⟨p, vs, rfl, .inl ⟨new_out k h, new_cold k h, .inl upd_same⟩, r.mono (Step.new h)⟩
theorem Post.lst {W : WX} {σ : L2.St} {ds : List D} {vs : List V} {Q : VK} (h : Post C W σ (Rep C) η H (.ok (.lst ds) st) Q) (k : StOk C η st H) (r : RepL C η H ds vs) : ∀ p, H p = none → Q (.ref p) (upd H p (.lst vs)) :=
  fun p hp => h.at_ (Step.new hp) (k.new hp) (new_lst k r hp)
theorem Post.tup {W : WX} {σ : L2.St} {ds : List D} {vs : List V} {Q : VK} (h : Post C W σ (Rep C) η H (.ok (.tup ds) st) Q) (k : StOk C η st H) (r : RepL C η H ds vs) : ∀ p, H p = none → Q (.ref p) (upd H p (.tup vs)) :=
  fun p hp => h.at_ (Step.new hp) (k.new hp) (new_tup k r hp)
end

section
variable {X : Cx} {C : Cfg} {a b c e : Expr} {es : List Expr} {fa fb fc f : Ev} {fs : EvA} {ft fu : EvT} {pos : Pos}
/-! ### names, constants -/
def cVar (i : Nat) : Ev := fun ρ st => match ρ[i]? with
  | some (some d) => .ok d st
  | _ => .bad
theorem SE.var (i : Nat) {x : Str} {pos : Pos} (hN : X.N[i]? = some x := by rfl) (hv : Vis X.env.scope x := by first | exact Or.inl rfl | exact Or.inr (Or.inl rfl) | exact Or.inr (Or.inr rfl)) (hd : (x == ("__debug__" : Str)) = false := by decide)
    (hcd : (x == ("__classdict__" : Str)) = false := by decide) : SE X C (.Name x pos) (cVar i) := ⟨fun W tk => PE_imp (pe_var hN hv hd hcd) fun σ H Q ⟨η, ρ, st, k, en, p⟩ => by
  unfold cVar at p
  cases h : ρ[i]? with
  | none => rw [h] at p; exact p.elim
  | some o =>
    cases o with
    | none => rw [h] at p; exact p.elim
    | some d =>
      rw [h] at p
      obtain ⟨v, e1, r⟩ := en.ok i d h
      exact ⟨v, e1, p.ret k r⟩⟩
def cC (d : D) : Ev := fun _ st => .ok d st
theorem SE.const {v : V} {d : D} (h : PE X e (tC v)) (r : ∀ η H, Rep C η H d v) : SE X C e (cC d) := ⟨fun W tk => PE_imp h fun σ H Q ⟨η, ρ, st, k, en, p⟩ => p.ret k (r η H)⟩
theorem SE.int {i : Int} {j : Nat} {pos : Pos} : SE X C (.Constant (.int i) j pos) (cC (.int i)) := SE.const pe_int fun η H => by rw [Rep]
theorem SE.bl {i : Bool} {j : Nat} {pos : Pos} : SE X C (.Constant (.bool i) j pos) (cC (.bl i)) := SE.const pe_bl fun η H => by rw [Rep]
theorem SE.non {j : Nat} {pos : Pos} : SE X C (.Constant .none j pos) (cC .non) := SE.const pe_non fun η H => by rw [Rep]
theorem SE.str {x : Str} {cs : List Nat} {j : Nat} {pos : Pos} (h : x.cps.toList = cs) : SE X C (.Constant (.str x) j pos) (cC (.str cs)) := SE.const pe_str fun η H => by
  rw [Rep, ← h]
/-- a module's name: what stands at it in the written part -/
theorem SE.glob {x : Str} {v : V} {u : Value} {d : D} {pos : Pos} (hg : Gl X x) (hm : X.mg x = some u) (rv : RelV v u) (r : ∀ η H, Rep C η H d v) (hd : (x == ("__debug__" : Str)) = false := by decide) : SE X C (.Name x pos) (cC d) := SE.const (pe_glob hg hm rv hd) r
theorem SE.bltn {x : Str} {n : Ty} {pos : Pos} (hg : Gl X x) (hm : X.mg x = none) (hv : bootBuiltins x = some (.type n.name)) (hn : x ≠ "__name__" := by decide) (hd : (x == ("__debug__" : Str)) = false := by decide) : SE X C (.Name x pos) (cC (.ty n)) :=
  SE.const (pe_bltn (v := .ty n.name) hg hm hv rfl hn hd) fun η H => by rw [Rep]

/-! ### operators -/
def OpD (C : Cfg) (op : D → D → Sto → Res D) (r : R2) : Prop := ∀ (W : WX) (σ : L2.St) (η : List Addr) (st : Sto) (a b : D) (x y : V) (H : Hp) (Q : VK), StOk C η st H → Rep C η H a x → Rep C η H b y → Post C W σ (Rep C) η H (op a b st) Q → r x y H Q
def UnD (C : Cfg) (op : D → Sto → Res D) (r : V → Hp → VK → Prop) : Prop := ∀ (W : WX) (σ : L2.St) (η : List Addr) (st : Sto) (a : D) (x : V) (H : Hp) (Q : VK), StOk C η st H → Rep C η H a x → Post C W σ (Rep C) η H (op a st) Q → r x H Q
def cBin (op : D → D → Sto → Res D) (fa fb : Ev) : Ev := fun ρ st => (fa ρ st).bind fun a st1 => (fb ρ st1).bind fun b st2 => op a b st2
def cUn (op : D → Sto → Res D) (fa : Ev) : Ev := fun ρ st => (fa ρ st).bind fun a st1 => op a st1
theorem bin_imp {op : D → D → Sto → Res D} {r : R2} (o : OpD C op r) {W : WX} {σ : L2.St} {H : Hp} {Q : VK} (h : tE C W (cBin op fa fb) σ H Q) : tOp r (tE C W fa) (tE C W fb) σ H Q := by
  obtain ⟨η, ρ, st, k, en, p⟩ := h
  refine ⟨η, ρ, st, k, en, Post.bind (R := Rep C) (r := fa ρ st) p fun a st1 v η1 H1 _ s1 k1 ra p1 => ?_⟩
  refine ⟨η1, ρ, st1, k1, en.mono s1, Post.bind (R := Rep C) (r := fb ρ st1) p1 fun b st2 u η2 H2 _ s2 k2 rb p2 => ?_⟩
  exact o W σ η2 st2 a b v u H2 Q k2 (ra.mono s2) rb p2
theorem un_imp {op : D → Sto → Res D} {r : V → Hp → VK → Prop} (o : UnD C op r) {W : WX} {σ : L2.St} {H : Hp} {Q : VK} (h : tE C W (cUn op fa) σ H Q) : tUn r (tE C W fa) σ H Q := by
  obtain ⟨η, ρ, st, k, en, p⟩ := h
  exact ⟨η, ρ, st, k, en, Post.bind (R := Rep C) (r := fa ρ st) p fun a st1 v η1 H1 _ s1 k1 ra p1 => o W σ η1 st1 a v H1 Q k1 ra p1⟩
theorem SE.op {op : Operator} {r : R2} {g : D → D → Sto → Res D} (ho : OpR X (binaryOp op) r) (o : OpD C g r) (ha : SE X C a fa) (hb : SE X C b fb) : SE X C (.BinOp a op b pos) (cBin g fa fb) := ⟨fun W tk => PE_imp (pe_op ho (ha.run W tk) (hb.run W tk)) fun _ _ _ h => bin_imp o h⟩
theorem SE.un {op : UnaryOp} {r : V → Hp → VK → Prop} {g : D → Sto → Res D} (ho : UnR X (unaryOp op) r) (o : UnD C g r) (ha : SE X C a fa) : SE X C (.UnaryOp op a pos) (cUn g fa) := ⟨fun W tk => PE_imp (pe_un ho (ha.run W tk)) fun _ _ _ h => un_imp o h⟩
theorem SE.cmp {op : CmpOp} {r : R2} {g : D → D → Sto → Res D} (ho : OpR X (compareOp op) r) (o : OpD C g r) (ha : SE X C a fa) (hb : SE X C b fb) (hm : behindInMarks op b = false) : SE X C (.Compare a [op] [b] pos) (cBin g fa fb) := ⟨fun W tk => PE_imp (pe_cmpR ho (ha.run W tk) (hb.run W tk) hm) fun _ _ _ h => bin_imp o h⟩
/-- a bool's value as a test -/
def Res.bool (r : Res D) : Res Bool := r.bind fun d st => match d with
  | .bl b => .ok b st
  | _ => .bad
def cB (f : Ev) : EvT := fun ρ st => (f ρ st).bool
theorem test_imp {W : WX} {σ : L2.St} {H : Hp} {Q : Bool → Hp → Prop} (h : tT C W (cB f) σ H Q) : tE C W f σ H fun x H' => ∃ k, x = .bl k ∧ Q k H' := by
  obtain ⟨η, ρ, st, k, en, p⟩ := h
  refine ⟨η, ρ, st, k, en, Post.bind (R := Rep C) (r := f ρ st) p fun a st1 v η1 H1 _ s1 k1 ra p1 => ?_⟩
  cases a with
  | bl b =>
    rw [Rep] at ra
    exact ⟨b, ra, p1.ret k1 rfl⟩
  | _ => exact p1.elim
theorem ST.cmp {op : CmpOp} {r : R2} {g : D → D → Sto → Res D} (ho : OpR X (compareOp op) r) (o : OpD C g r) (ha : SE X C a fa) (hb : SE X C b fb) (hm : behindInMarks op b = false) : ST X C (.Compare a [op] [b] pos) (cB (cBin g fa fb)) :=
  ⟨fun W tk => PT_imp (pt_cmpR ho (ha.run W tk) (hb.run W tk) hm) fun _ _ _ h => by
    obtain ⟨η, ρ, st, k, en, p⟩ := test_imp h
    exact bin_imp o ⟨η, ρ, st, k, en, p⟩⟩
/-- a < b < c -/
def cChain (g g' : D → D → Sto → Res D) (fa fb fc : Ev) : Ev := fun ρ st => (fa ρ st).bind fun a st1 => (fb ρ st1).bind fun b st2 => (g a b st2).bind fun d st3 => match d with
  | .bl true => (fc ρ st3).bind fun c st4 => g' b c st4
  | .bl false => .ok (.bl false) st3
  | _ => .bad
theorem chain_imp {g g' : D → D → Sto → Res D} {r r' : R2} (o : OpD C g r) (o' : OpD C g' r') {W : WX} {σ : L2.St} {H : Hp} {Q : VK} (h : tE C W (cChain g g' fa fb fc) σ H Q) :
    tE C W fa σ H fun x H1 => tE C W fb σ H1 fun y H2 => r x y H2 fun z H3 => ∃ k, z = .bl k ∧ if k = true then tE C W fc σ H3 fun w H4 => r' y w H4 Q else Q (.bl false) H3 := by
  obtain ⟨η, ρ, st, k, en, p⟩ := h
  refine ⟨η, ρ, st, k, en, Post.bind (R := Rep C) (r := fa ρ st) p fun a st1 v η1 H1 _ s1 k1 ra p1 => ?_⟩
  refine ⟨η1, ρ, st1, k1, en.mono s1, Post.bind (R := Rep C) (r := fb ρ st1) p1 fun b st2 u η2 H2 _ s2 k2 rb p2 => ?_⟩
  refine o W σ η2 st2 a b v u H2 _ k2 (ra.mono s2) rb (Post.bind (R := Rep C) (r := g a b st2) p2 fun d st3 w η3 H3 _ s3 k3 rd p3 => ?_)
  cases d with
  | bl q =>
    rw [Rep] at rd
    refine ⟨q, rd, ?_⟩
    cases q with
    | true =>
      rw [if_pos rfl]
      refine ⟨η3, ρ, st3, k3, (en.mono (s1.trans s2)).mono s3, Post.bind (R := Rep C) (r := fc ρ st3) p3 fun c st4 w4 η4 H4 _ s4 k4 rc p4 => ?_⟩
      exact o' W σ η4 st4 b c u w4 H4 Q k4 (rb.mono (s3.trans s4)) rc p4
    | false =>
      rw [if_neg Bool.false_ne_true]
      exact p3.ret k3 (by rw [Rep])
  | _ => exact p3.elim
theorem SE.chain {op op' : CmpOp} {r r' : R2} {g g' : D → D → Sto → Res D} (ho : OpR X (compareOp op) r) (ho' : OpR X (compareOp op') r') (o : OpD C g r) (o' : OpD C g' r') (ha : SE X C a fa) (hb : SE X C b fb) (hc : SE X C c fc)
    (hm : lastMarks [op, op'] [b, c] = false := by with_unfolding_all rfl) : SE X C (.Compare a [op, op'] [b, c] pos) (cChain g g' fa fb fc) :=
  ⟨fun W tk => PE_imp (pe_chain ho ho' (ha.run W tk) (hb.run W tk) (hc.run W tk) hm) fun _ _ _ h => chain_imp o o' h⟩

theorem ST.chain {op op' : CmpOp} {r r' : R2} {g g' : D → D → Sto → Res D} (ho : OpR X (compareOp op) r) (ho' : OpR X (compareOp op') r') (o : OpD C g r) (o' : OpD C g' r') (ha : SE X C a fa) (hb : SE X C b fb) (hc : SE X C c fc)
    (hm : lastMarks [op, op'] [b, c] = false := by with_unfolding_all rfl) : ST X C (.Compare a [op, op'] [b, c] pos) (cB (cChain g g' fa fb fc)) :=
  ⟨fun W tk => PT_imp (pt_chain ho ho' (ha.run W tk) (hb.run W tk) (hc.run W tk) hm) fun _ _ _ h => by
    obtain ⟨η, ρ, st, k, en, p⟩ := test_imp h
    exact chain_imp o o' ⟨η, ρ, st, k, en, p⟩⟩

/-! ### truth, and, or, not, if -/
def dTru (d : D) (st : Sto) : Res Bool := match vw st d with
  | .non => .ok false st
  | .bl b => .ok b st
  | .int i => .ok (i != 0) st
  | .str s => if big s.length then .ok (!s.isEmpty) st else .bad
  | .lst ds => .ok (!ds.isEmpty) st
  | .tup ds => .ok (!ds.isEmpty) st
  | _ => .bad
def cTru (f : Ev) : EvT := fun ρ st => (f ρ st).bind fun d st1 => dTru d st1
theorem isEmpty_rep {η : List Addr} {H : Hp} {ds : List D} {vs : List V} (r : RepL C η H ds vs) : ds.isEmpty = vs.isEmpty := by
  have h := r.length
  cases ds <;> cases vs <;> simp at h ⊢
theorem tru_imp {W : WX} {σ : L2.St} {H : Hp} {Q : Bool → Hp → Prop} (h : tT C W (cTru f) σ H Q) : tE C W f σ H fun x H' => ∃ k, TruV C.K x H' k ∧ Q k H' := by
  obtain ⟨η, ρ, st, k, en, p⟩ := h
  refine ⟨η, ρ, st, k, en, Post.bind (R := Rep C) (r := f ρ st) p fun d st1 v η1 H1 _ s1 k1 ra p1 => ?_⟩
  unfold dTru at p1
  split at p1
  · rename_i e
    rw [vw_non ra e]
    exact ⟨_, rfl, p1.ret k1 rfl⟩
  · rename_i b e
    rw [vw_bl ra e]
    exact ⟨_, rfl, p1.ret k1 rfl⟩
  · rename_i i e
    rw [vw_int ra e]
    exact ⟨_, rfl, p1.ret k1 rfl⟩
  · rename_i s e
    rw [vw_str ra e]
    split at p1
    · rename_i hb
      refine ⟨!s.isEmpty, ⟨big_line hb, ?_⟩, p1.ret k1 rfl⟩
      cases s with
      | nil => rfl
      | cons x xs =>
        show true = _
        symm
        rw [bne_iff_ne]
        have : (0 : Int) < ((⟨(x :: xs).toArray⟩ : Str).length : Int) := by
          show (0 : Int) < (((x :: xs).toArray.size : Nat) : Int)
          simp
        omega
    · exact p1.elim
  · rename_i ds e
    obtain ⟨a, vs, rfl, q, r⟩ := vw_lst k1 ra e
    refine ⟨_, .inl ⟨vs, q, rfl⟩, ?_⟩
    rw [← isEmpty_rep r]
    exact p1.ret k1 rfl
  · rename_i ds e
    obtain ⟨a, vs, rfl, q, r⟩ := vw_tup ra e
    refine ⟨_, .inr (.inl ⟨vs, q, rfl⟩), ?_⟩
    rw [← isEmpty_rep r]
    exact p1.ret k1 rfl
  · exact p1.elim
/-- the test of a name, a call, an item .. -/
theorem ST.tru (hK : X.K = C.K) (ha : SE X C a fa) (he : ∀ whole, isTrue a X.env whole = (do let v ← whole; standAt a.pos; holding [v] (truthy v)) := by intro _; rfl) : ST X C a (cTru fa) :=
  ⟨fun W tk => PT_imp (pt_truth (ha.run W tk) he) fun _ _ _ h => by rw [hK]; exact tru_imp h⟩
def cNot (t : EvT) : EvT := fun ρ st => (t ρ st).bind fun b st1 => .ok (!b) st1
def cAnd (t u : EvT) : EvT := fun ρ st => (t ρ st).bind fun b st1 => match b with
  | true => u ρ st1
  | false => .ok false st1
def cOr (t u : EvT) : EvT := fun ρ st => (t ρ st).bind fun b st1 => match b with
  | true => .ok true st1
  | false => u ρ st1
theorem ST.not (ha : ST X C a ft) : ST X C (.UnaryOp .Not a pos) (cNot ft) := ⟨fun W tk => PT_imp (pt_not (ha.run W tk)) fun σ H Q ⟨η, ρ, st, k, en, p⟩ =>
  ⟨η, ρ, st, k, en, Post.bind (R := fun _ _ a b => a = b) (r := ft ρ st) p fun b st1 v η1 H1 _ s1 k1 ra p1 => by
    subst ra
    exact p1.ret k1 rfl⟩⟩
theorem ST.of (h : SW X C e ft) : ST X C e ft := ⟨fun W tk => (h.run W tk).pt⟩
variable {rest : List Expr}
theorem SW.and1 (ha : ST X C a ft) : SW X C (.BoolOp .And [a] pos) ft := ⟨fun W tk => pw_and1 (ha.run W tk)⟩
theorem SW.or1 (ha : ST X C a ft) : SW X C (.BoolOp .Or [a] pos) ft := ⟨fun W tk => pw_or1 (ha.run W tk)⟩
theorem SW.and (ha : ST X C a ft) (hb : SW X C (.BoolOp .And (b :: rest) pos) fu) : SW X C (.BoolOp .And (a :: b :: rest) pos) (cAnd ft fu) := ⟨fun W tk => PW_imp (pw_and (ha.run W tk) (hb.run W tk)) fun σ H Q ⟨η, ρ, st, k, en, p⟩ =>
  ⟨η, ρ, st, k, en, Post.bind (R := fun _ _ a b => a = b) (r := ft ρ st) p fun b st1 v η1 H1 _ s1 k1 ra p1 => by
    subst ra
    cases b with
    | true => exact iteT ⟨η1, ρ, st1, k1, en.mono s1, p1⟩
    | false => exact iteF (p1.ret k1 rfl)⟩⟩
theorem SW.or (ha : ST X C a ft) (hb : SW X C (.BoolOp .Or (b :: rest) pos) fu) : SW X C (.BoolOp .Or (a :: b :: rest) pos) (cOr ft fu) := ⟨fun W tk => PW_imp (pw_or (ha.run W tk) (hb.run W tk)) fun σ H Q ⟨η, ρ, st, k, en, p⟩ =>
  ⟨η, ρ, st, k, en, Post.bind (R := fun _ _ a b => a = b) (r := ft ρ st) p fun b st1 v η1 H1 _ s1 k1 ra p1 => by
    subst ra
    cases b with
    | true => exact iteT (p1.ret k1 rfl)
    | false => exact iteF ⟨η1, ρ, st1, k1, en.mono s1, p1⟩⟩⟩
/-- as values, bools all but the last -/
def cAndV (fa fb : Ev) : Ev := fun ρ st => (fa ρ st).bind fun d st1 => match d with
  | .bl true => fb ρ st1
  | .bl false => .ok (.bl false) st1
  | _ => .bad
def cOrV (fa fb : Ev) : Ev := fun ρ st => (fa ρ st).bind fun d st1 => match d with
  | .bl true => .ok (.bl true) st1
  | .bl false => fb ρ st1
  | _ => .bad
def cNotV (fa : Ev) : Ev := fun ρ st => (fa ρ st).bind fun d st1 => match d with
  | .bl b => .ok (.bl (!b)) st1
  | _ => .bad
theorem SE.one {op} (h : SE X C a fa) : SE X C (.BoolOp op [a] pos) fa := ⟨fun W tk => pe_one (h.run W tk)⟩
theorem SE.and (ha : SE X C a fa) (hb : SE X C (.BoolOp .And (b :: rest) pos) fb) : SE X C (.BoolOp .And (a :: b :: rest) pos) (cAndV fa fb) := ⟨fun W tk => PE_imp (pe_and (ha.run W tk) (hb.run W tk)) fun σ H Q ⟨η, ρ, st, k, en, p⟩ =>
  ⟨η, ρ, st, k, en, Post.bind (R := Rep C) (r := fa ρ st) p fun d st1 v η1 H1 _ s1 k1 ra p1 => by
    cases d with
    | bl b =>
      rw [Rep] at ra
      refine ⟨b, ra, ?_⟩
      cases b with
      | true => exact iteT ⟨η1, ρ, st1, k1, en.mono s1, p1⟩
      | false => exact iteF (p1.ret k1 (by rw [Rep]))
    | _ => exact p1.elim⟩⟩
theorem SE.or (ha : SE X C a fa) (hb : SE X C (.BoolOp .Or (b :: rest) pos) fb) : SE X C (.BoolOp .Or (a :: b :: rest) pos) (cOrV fa fb) := ⟨fun W tk => PE_imp (pe_or (ha.run W tk) (hb.run W tk)) fun σ H Q ⟨η, ρ, st, k, en, p⟩ =>
  ⟨η, ρ, st, k, en, Post.bind (R := Rep C) (r := fa ρ st) p fun d st1 v η1 H1 _ s1 k1 ra p1 => by
    cases d with
    | bl b =>
      rw [Rep] at ra
      refine ⟨b, ra, ?_⟩
      cases b with
      | true => exact iteT (p1.ret k1 (by rw [Rep]))
      | false => exact iteF ⟨η1, ρ, st1, k1, en.mono s1, p1⟩
    | _ => exact p1.elim⟩⟩
theorem SE.not (ha : SE X C a fa) : SE X C (.UnaryOp .Not a pos) (cNotV fa) := ⟨fun W tk => PE_imp (pe_not (ha.run W tk)) fun σ H Q ⟨η, ρ, st, k, en, p⟩ =>
  ⟨η, ρ, st, k, en, Post.bind (R := Rep C) (r := fa ρ st) p fun d st1 v η1 H1 _ s1 k1 ra p1 => by
    cases d with
    | bl b =>
      rw [Rep] at ra
      exact ⟨b, ra, p1.ret k1 (by rw [Rep])⟩
    | _ => exact p1.elim⟩⟩
def cIf (t : EvT) (fa fb : Ev) : Ev := fun ρ st => (t ρ st).bind fun b st1 => match b with
  | true => fa ρ st1
  | false => fb ρ st1
theorem SE.ifExp (hc : ST X C c ft) (ha : SE X C a fa) (hb : SE X C b fb) : SE X C (.IfExp c a b pos) (cIf ft fa fb) := ⟨fun W tk => PE_imp (pe_ifExp (hc.run W tk) (ha.run W tk) (hb.run W tk)) fun σ H Q ⟨η, ρ, st, k, en, p⟩ =>
  ⟨η, ρ, st, k, en, Post.bind (R := fun _ _ a b => a = b) (r := ft ρ st) p fun b st1 v η1 H1 _ s1 k1 ra p1 => by
    subst ra
    cases b with
    | true => exact iteT ⟨η1, ρ, st1, k1, en.mono s1, p1⟩
    | false => exact iteF ⟨η1, ρ, st1, k1, en.mono s1, p1⟩⟩⟩
/-! ### arguments, displays -/
def cNil : EvA := fun _ st => .ok [] st
def cCons (fa : Ev) (fs : EvA) : EvA := fun ρ st => (fa ρ st).bind fun d st1 => (fs ρ st1).bind fun ds st2 => .ok (d :: ds) st2
theorem SA.nil : SA X C [] cNil := ⟨fun W tk => PA_imp pa_nil fun σ H Q ⟨η, ρ, st, k, en, p⟩ => p.ret k RepL.nil⟩
theorem SA.cons (ha : SE X C e fa) (hs : SA X C es fs) (h : starEach (e :: es) X.env = (false, eval e X.env) :: starEach es X.env := by rfl) : SA X C (e :: es) (cCons fa fs) := ⟨fun W tk => PA_imp (pa_cons (ha.run W tk) (hs.run W tk) h) fun σ H Q ⟨η, ρ, st, k, en, p⟩ =>
  ⟨η, ρ, st, k, en, Post.bind (R := Rep C) (r := fa ρ st) p fun d st1 v η1 H1 _ s1 k1 ra p1 =>
    ⟨η1, ρ, st1, k1, en.mono s1, Post.bind (R := RepL C) (r := fs ρ st1) p1 fun ds st2 vs η2 H2 _ s2 k2 rs p2 => p2.ret k2 (RepL.cons (ra.mono s2) rs)⟩⟩⟩
def cTup (fs : EvA) : Ev := fun ρ st => (fs ρ st).bind fun ds st1 => if big ds.length then .ok (.tup ds) st1 else .bad
def cLst (fs : EvA) : Ev := fun ρ st => (fs ρ st).bind fun ds st1 => if big ds.length then .ok (.lst ds) st1 else .bad
/-- a list that may change -/
def cNew (fs : EvA) : Ev := fun ρ st => (fs ρ st).bind fun ds st1 => if big ds.length then .ok (.ref st1.length) (st1 ++ [.lst ds]) else .bad
theorem SE.tup {j} (hs : SA X C es fs) : SE X C (.Tuple es j pos) (cTup fs) := ⟨fun W tk => PE_imp (pe_tup (hs.run W tk)) fun σ H Q ⟨η, ρ, st, k, en, p⟩ =>
  ⟨η, ρ, st, k, en, Post.bind (R := RepL C) (r := fs ρ st) p fun ds st1 vs η1 H1 _ s1 k1 rs p1 => by
    by_cases hb : big ds.length = true
    · simp only [hb, if_true] at p1
      exact ⟨by rw [← rs.length]; exact big_line hb, p1.tup k1 rs⟩
    · simp only [hb] at p1
      exact p1.elim⟩⟩
theorem SE.lst (hs : SA X C es fs) : SE X C (.List es pos) (cLst fs) := ⟨fun W tk => PE_imp (pe_lst (hs.run W tk)) fun σ H Q ⟨η, ρ, st, k, en, p⟩ =>
  ⟨η, ρ, st, k, en, Post.bind (R := RepL C) (r := fs ρ st) p fun ds st1 vs η1 H1 _ s1 k1 rs p1 => by
    by_cases hb : big ds.length = true
    · simp only [hb, if_true] at p1
      exact ⟨by rw [← rs.length]; exact big_line hb, p1.lst k1 rs⟩
    · simp only [hb] at p1
      exact p1.elim⟩⟩
theorem Post.new {η : List Addr} {H : Hp} {st : Sto} {W : WX} {σ : L2.St} {ds : List D} {vs : List V} {Q : VK} (h : Post C W σ (Rep C) η H (.ok (.ref st.length) (st ++ [.lst ds])) Q) (k : StOk C η st H) (r : RepL C η H ds vs) : ∀ p, H p = none → Q (.ref p) (upd H p (.lst vs)) :=
  fun p hp => h.at_ (Step.push hp) (k.push hp ⟨vs, upd_same, r.mono (Step.push hp)⟩) (by
    rw [Rep]
    exact ⟨p, by rw [← k.len]; simp, rfl⟩)
theorem SE.new (hs : SA X C es fs) : SE X C (.List es pos) (cNew fs) := ⟨fun W tk => PE_imp (pe_lst (hs.run W tk)) fun σ H Q ⟨η, ρ, st, k, en, p⟩ =>
  ⟨η, ρ, st, k, en, Post.bind (R := RepL C) (r := fs ρ st) p fun ds st1 vs η1 H1 _ s1 k1 rs p1 => by
    by_cases hb : big ds.length = true
    · simp only [hb, if_true] at p1
      exact ⟨by rw [← rs.length]; exact big_line hb, p1.new k1 rs⟩
    · simp only [hb] at p1
      exact p1.elim⟩⟩
end
end G

set_option Elab.async false
set_option linter.all false
set_option maxRecDepth 100000
set_option maxHeartbeats 4000000
/-! Operators upon values. -/
namespace G
open PySem PySem.Spec PyProof.Rows L2

/-! ### numbers, sums -/
def dAdd (a b : D) (st : Sto) : Res D := match vw st a, vw st b with
  | .int i, .int j => .ok (.int (i + j)) st
  | .str x, .str y => if big (x.length + y.length) then .ok (.str (x ++ y)) st else .bad
  | .tup x, .tup y => if big (x.length + y.length) then .ok (.tup (x ++ y)) st else .bad
  | .lst x, .lst y => if big (x.length + y.length) then .ok (.lst (x ++ y)) st else .bad
  | .int i, .bl k => .ok (.int (i + b2i k)) st
  | _, _ => .bad
/-- list + list, of any origin -/
def rCatS (K : PySem.W.Frag) : R2 := fun x y H Q => ∃ l b xs zs, x = .ref l ∧ y = .ref b ∧ SqL K H l xs ∧ SqL K H b zs ∧ xs.length + zs.length ≤ sizeLine ∧ ∀ p, H p = none → Q (.ref p) (upd H p (.lst (xs ++ zs)))
theorem op_catS {X : Cx} : OpR X (binaryOp .Add) (rCatS X.K) := by
  intro pins s σ H x y v u Q I rx ry h
  obtain ⟨l, b, xs, zs, rfl, rfl, hH, hB, hz, q⟩ := h
  cases rx
  cases ry
  obtain ⟨its, r, pl, _⟩ := I.list hH
  obtain ⟨its2, r2, pl2, _⟩ := I.list hB
  have l1 := r.length
  have l2 := r2.length
  obtain ⟨⟨cls, dd, data, sl⟩, ho, hc, n, hd⟩ := pl.isList
  obtain ⟨⟨cls2, dd2, data2, sl2⟩, ho2, hc2, n2, hd2⟩ := pl2.isList
  simp only at hc hd hc2 hd2
  subst hc hd hc2 hd2
  have e : its.toArray ++ its2.toArray = (its ++ its2).toArray := by simp
  refine concat_meets ⟨_, ho, rfl⟩ ⟨_, ho2, rfl⟩ noFill_list_add seq_list_add PySem.F.slot_list_add PySem.F.entry_list_add (PySem.F.args_list_add_2 _ _) (list_addW l b its.toArray its2.toArray n n2 dd dd2 sl sl2 (by simp; omega)) ⟨ho, ho2, ?_⟩
  rw [e]
  refine ⟨.ref _, _, I.laid (t' := s.toks) (o := .lst (xs ++ zs)) (fun b o q => Heap.get?_push_of_some _ q) (Nat.le_refl _) ?_, rfl, q _ (I.hok.fresh (Nat.le_refl _))⟩
  exact ⟨by rw [List.length_append]; exact hz, its ++ its2, 0, r.append r2, Heap.get?_push_size _ rfl⟩
abbrev rStrAdd : R2 := fun x y H Q => ∃ i j, x = .str i ∧ y = .str j ∧ i.length + j.length ≤ sizeLine ∧ Q (.str (i ++ j)) H
abbrev rAddAll (K : PySem.W.Frag) : R2 := fun x y H Q => rI0 (fun i j => .int (i + j)) x y H Q ∨ rStrAdd x y H Q ∨ rCatA K x y H Q ∨ rCatS K x y H Q ∨ ∃ i k, x = .int i ∧ y = .bl k ∧ Q (.int (i + b2i k)) H
theorem op_addAll {X : Cx} : OpR X (binaryOp .Add) (rAddAll X.K) := op_add.or (op_add_str.or (op_catA.or (op_catS.or op_add_ib)))
theorem str_app (x y : List Nat) : ((⟨x.toArray⟩ : Str) ++ (⟨y.toArray⟩ : Str)) = (⟨(x ++ y).toArray⟩ : Str) := by
  show (⟨x.toArray ++ y.toArray⟩ : Str) = _
  simp
theorem dAdd_ok {C : Cfg} : OpD C dAdd (rAddAll C.K) := by
  intro W σ η st a b x y H Q k ra rb p
  unfold dAdd at p
  split at p
  · rename_i i j e1 e2
    rw [vw_int ra e1, vw_int rb e2]
    exact .inl ⟨i, j, rfl, rfl, p.ret k (by rw [Rep])⟩
  · rename_i s t e1 e2
    rw [vw_str ra e1, vw_str rb e2]
    split at p
    · rename_i hb
      refine .inr (.inl ⟨_, _, rfl, rfl, big_line hb, p.ret k ?_⟩)
      rw [Rep, str_app]
    · exact p.elim
  · rename_i s t e1 e2
    obtain ⟨a1, xs, rfl, q1, r1⟩ := vw_tup ra e1
    obtain ⟨a2, ys, rfl, q2, r2⟩ := vw_tup rb e2
    split at p
    · rename_i hb
      have l1 := r1.length
      have l2 := r2.length
      refine .inr (.inr (.inl ⟨a1, a2, xs, ys, rfl, rfl, q1, q2, by rw [← l1, ← l2]; exact big_line hb, fun e => ?_, fun _ e => ?_, fun _ _ => p.tup k (r1.append r2)⟩))
      · subst e
        have e3 : s = [] := List.eq_nil_of_length_eq_zero l1
        subst e3
        rcases vw_ne e2 (fun _ z => by cases z) with ⟨n, _, z⟩ | rfl
        · cases z
        · exact p.ret k rb
      · subst e
        have e3 : t = [] := List.eq_nil_of_length_eq_zero l2
        subst e3
        rcases vw_ne e1 (fun _ z => by cases z) with ⟨n, _, z⟩ | rfl
        · cases z
        · rw [List.append_nil] at p
          exact p.ret k ra
    · exact p.elim
  · rename_i s t e1 e2
    obtain ⟨a1, xs, rfl, q1, r1⟩ := vw_lst k ra e1
    obtain ⟨a2, ys, rfl, q2, r2⟩ := vw_lst k rb e2
    split at p
    · rename_i hb
      have l1 := r1.length
      have l2 := r2.length
      exact .inr (.inr (.inr (.inl ⟨a1, a2, xs, ys, rfl, rfl, q1, q2, by rw [← l1, ← l2]; exact big_line hb, p.lst k (r1.append r2)⟩)))
    · exact p.elim
  · rename_i i j e1 e2
    rw [vw_int ra e1, vw_bl rb e2]
    exact .inr (.inr (.inr (.inr ⟨i, j, rfl, rfl, p.ret k (by rw [Rep])⟩)))
  · exact p.elim
def dSub (a b : D) (st : Sto) : Res D := match a, b with
  | .int i, .int j => .ok (.int (i - j)) st
  | _, _ => .bad
theorem dSub_ok {C : Cfg} : OpD C dSub (rI0 fun i j => .int (i - j)) := by
  intro W σ η st a b x y H Q k ra rb p
  unfold dSub at p
  split at p
  · rw [Rep] at ra rb
    exact ⟨_, _, ra, rb, p.ret k (by rw [Rep])⟩
  · exact p.elim
def dMul (a b : D) (st : Sto) : Res D := match a, b with
  | .int i, .int j => if Nat.ble (i.natAbs.log2 + j.natAbs.log2) 999998 then .ok (.int (i * j)) st else .bad
  | _, _ => .bad
theorem dMul_ok {C : Cfg} : OpD C dMul (rI CMulW fun i j => .int (i * j)) := by
  intro W σ η st a b x y H Q k ra rb p
  unfold dMul at p
  split at p
  · rw [Rep] at ra rb
    split at p
    · rename_i h
      have h' := Nat.le_of_ble_eq_true h
      exact ⟨_, _, ra, rb, by unfold CMulW; omega, p.ret k (by rw [Rep])⟩
    · exact p.elim
  · exact p.elim
def dFdiv (a b : D) (st : Sto) : Res D := match a, b with
  | .int i, .int j => if decide (0 < j) && Nat.ble j.natAbs.log2 8999 then .ok (.int (i / j)) st else .bad
  | _, _ => .bad
theorem dFdiv_ok {C : Cfg} : OpD C dFdiv (rI CDivW fun i j => .int (i / j)) := by
  intro W σ η st a b x y H Q k ra rb p
  unfold dFdiv at p
  split at p
  · rw [Rep] at ra rb
    split at p
    · rename_i h
      rw [Bool.and_eq_true] at h
      have h' := Nat.le_of_ble_eq_true h.2
      exact ⟨_, _, ra, rb, ⟨of_decide_eq_true h.1, by omega⟩, p.ret k (by rw [Rep])⟩
    · exact p.elim
  · exact p.elim
def dMod (a b : D) (st : Sto) : Res D := match a, b with
  | .int i, .int j => if decide (0 < j) then .ok (.int (i % j)) st else .bad
  | _, _ => .bad
theorem dMod_ok {C : Cfg} : OpD C dMod (rI (fun _ j => 0 < j) fun i j => .int (i % j)) := by
  intro W σ η st a b x y H Q k ra rb p
  unfold dMod at p
  split at p
  · rw [Rep] at ra rb
    split at p
    · rename_i h
      exact ⟨_, _, ra, rb, of_decide_eq_true h, p.ret k (by rw [Rep])⟩
    · exact p.elim
  · exact p.elim
/-- powers of any size in the line -/
def CPowW (i j : Int) : Prop := 0 ≤ j ∧ (i.natAbs.log2 + 1) * j.toNat ≤ 1000000
theorem op_powW {X : Cx} : OpR X (binaryOp .Pow) (rI CPowW fun i j => .int (i ^ j.toNat)) := opI fun i j _ _ _ _ _ hc q => by
  refine pow_int hc.1 ?_ q
  have b : Builtin.Int.intBits i ≤ i.natAbs.log2 + 1 := by
    unfold Builtin.Int.intBits
    split <;> omega
  have h1 : (Builtin.Int.intBits i) * j.toNat ≤ (i.natAbs.log2 + 1) * j.toNat := Nat.mul_le_mul_right _ b
  have h2 := hc.2
  have h3 : ((Builtin.Int.intBits i * j.toNat : Nat) : Int) ≤ 1000000 := by omega
  have h4 : ((j.toNat : Nat) : Int) = j := Int.toNat_of_nonneg hc.1
  rw [Int.natCast_mul, h4] at h3
  have h5 : (1000000 : Int) ≤ 2 ^ 27 := by decide
  omega
def dPow (a b : D) (st : Sto) : Res D := match a, b with
  | .int i, .int j => if decide (0 ≤ j) && Nat.ble ((i.natAbs.log2 + 1) * j.toNat) 1000000 then .ok (.int (i ^ j.toNat)) st else .bad
  | _, _ => .bad
theorem dPow_ok {C : Cfg} : OpD C dPow (rI CPowW fun i j => .int (i ^ j.toNat)) := by
  intro W σ η st a b x y H Q k ra rb p
  unfold dPow at p
  split at p
  · rw [Rep] at ra rb
    split at p
    · rename_i h
      rw [Bool.and_eq_true] at h
      exact ⟨_, _, ra, rb, ⟨of_decide_eq_true h.1, Nat.le_of_ble_eq_true h.2⟩, p.ret k (by rw [Rep])⟩
    · exact p.elim
  · exact p.elim
def dNeg (a : D) (st : Sto) : Res D := match a with
  | .int i => .ok (.int (-i)) st
  | _ => .bad
theorem dNeg_ok {C : Cfg} : UnD C dNeg (rU fun i => .int (-i)) := by
  intro W σ η st a x H Q k ra p
  unfold dNeg at p
  split at p
  · rw [Rep] at ra
    exact ⟨_, ra, p.ret k (by rw [Rep])⟩
  · exact p.elim

/-! ### comparisons -/
/-- ints, by p; texts, by q -/
def dCmp (p : Int → Int → Bool) (a b : D) (st : Sto) : Res D := match a, b with
  | .int i, .int j => .ok (.bl (p i j)) st
  | _, _ => .bad
theorem dCmp_ok {C : Cfg} {p : Int → Int → Bool} : OpD C (dCmp p) (rI0 fun i j => .bl (p i j)) := by
  intro W σ η st a b x y H Q k ra rb q
  unfold dCmp at q
  split at q
  · rw [Rep] at ra rb
    exact ⟨_, _, ra, rb, q.ret k (by rw [Rep])⟩
  · exact q.elim
/-- a < b: ints, texts -/
def ltN : List Nat → List Nat → Bool
  | _, [] => false
  | [], _ :: _ => true
  | a :: as, b :: bs => Nat.blt a b || (Nat.beq a b && ltN as bs)
theorem ltN_eq : ∀ (a b : List Nat), ltN a b = decide (a < b)
  | a, [] => by
    unfold ltN
    cases a <;> simp
  | [], b :: bs => by simp [ltN]
  | a :: as, b :: bs => by
    rw [ltN, ltN_eq as bs, Bool.eq_iff_iff]
    simp only [Bool.or_eq_true, Bool.and_eq_true, decide_eq_true_eq, List.cons_lt_cons_iff, Nat.blt_eq, Nat.beq_eq]
def dLt (a b : D) (st : Sto) : Res D := match a, b with
  | .int i, .int j => .ok (.bl (decide (i < j))) st
  | .str x, .str y => .ok (.bl (ltN x y)) st
  | _, _ => .bad
abbrev rLtStr : R2 := fun x y H Q => ∃ i j, x = .str i ∧ y = .str j ∧ Q (.bl (decide (i.cps.toList < j.cps.toList))) H
abbrev rLtAll : R2 := fun x y H Q => rI0 (fun i j => .bl (decide (i < j))) x y H Q ∨ rLtStr x y H Q
theorem op_ltAll {X : Cx} : OpR X (compareOp .Lt) rLtAll := op_lt.or op_lt_str
theorem dLt_ok {C : Cfg} : OpD C dLt rLtAll := by
  intro W σ η st a b x y H Q k ra rb q
  unfold dLt at q
  split at q
  · rw [Rep] at ra rb
    exact .inl ⟨_, _, ra, rb, q.ret k (by rw [Rep])⟩
  · rw [Rep] at ra rb
    refine .inr ⟨_, _, ra, rb, q.ret k ?_⟩
    rw [Rep, ltN_eq]
  · exact q.elim
def isNon : D → Bool
  | .non => true
  | _ => false
def dIsN (a b : D) (st : Sto) : Res D := match b with
  | .non => .ok (.bl (isNon a)) st
  | _ => .bad
def dNotN (a b : D) (st : Sto) : Res D := match b with
  | .non => .ok (.bl (!isNon a)) st
  | _ => .bad
theorem rep_non {C : Cfg} {η : List Addr} {H : Hp} {a : D} {x : V} (r : Rep C η H a x) : decide (x = .non) = isNon a := by
  cases a with
  | non => rw [Rep] at r; subst r; rfl
  | bl b => rw [Rep] at r; subst r; rfl
  | int b => rw [Rep] at r; subst r; rfl
  | str b => rw [Rep] at r; subst r; rfl
  | ty b => rw [Rep] at r; subst r; rfl
  | glo b => rw [Rep] at r; obtain ⟨_, _, r⟩ := r; subst r; rfl
  | ref b => rw [Rep] at r; obtain ⟨_, _, r⟩ := r; subst r; rfl
  | tup b => rw [Rep] at r; obtain ⟨_, _, r, _⟩ := r; subst r; rfl
  | lst b => rw [Rep] at r; obtain ⟨_, _, r, _⟩ := r; subst r; rfl
theorem dIsN_ok {C : Cfg} : OpD C dIsN (fun x y H Q => y = .non ∧ Q (.bl (decide (x = .non))) H) := by
  intro W σ η st a b x y H Q k ra rb q
  unfold dIsN at q
  split at q
  · rw [Rep] at rb
    refine ⟨rb, q.ret k ?_⟩
    rw [Rep, rep_non ra]
  · exact q.elim
theorem dNotN_ok {C : Cfg} : OpD C dNotN (fun x y H Q => y = .non ∧ Q (.bl (!decide (x = .non))) H) := by
  intro W σ η st a b x y H Q k ra rb q
  unfold dNotN at q
  split at q
  · rw [Rep] at rb
    refine ⟨rb, q.ret k ?_⟩
    rw [Rep, rep_non ra]
  · exact q.elim

/-! ### == of data -/
def bne_ (a b : Bool) : Bool := match a, b with
  | true, true => true
  | false, false => true
  | _, _ => false
def eqNs : List Nat → List Nat → Bool
  | [], [] => true
  | a :: as, b :: bs => Nat.beq a b && eqNs as bs
  | _, _ => false
theorem eqNs_eq : ∀ (a b : List Nat), eqNs a b = (a == b)
  | [], [] => rfl
  | [], _ :: _ => rfl
  | _ :: _, [] => rfl
  | a :: as, b :: bs => by
    rw [eqNs, eqNs_eq as bs, List.cons_beq_cons]
    have e : Nat.beq a b = (a == b) := by
      rw [Bool.eq_iff_iff, beq_iff_eq, Nat.beq_eq]
    rw [e]
mutual
/-- as Python's ==, on data -/
def dEq : D → D → Bool
  | .non, .non => true
  | .bl a, .bl b => a == b
  | .bl a, .int j => (if a then 1 else 0) == j
  | .int i, .bl b => i == (if b then 1 else 0)
  | .int i, .int j => i == j
  | .str x, .str y => eqNs x y
  | .tup xs, .tup ys => dEqs xs ys
  | .lst xs, .lst ys => dEqs xs ys
  | _, _ => false
def dEqs : List D → List D → Bool
  | [], [] => true
  | x :: xs, y :: ys => dEq x y && dEqs xs ys
  | _, _ => false
end
/-- signs -/
def okS (s : List Nat) : Bool := s.all fun c => Nat.blt c 1114112
theorem okS_ok {s : List Nat} (h : okS s = true) : PyData.strOk ⟨s.toArray⟩ = true := by
  unfold okS at h
  unfold PyData.strOk
  rw [List.all_eq_true] at h
  rw [Array.all_eq_true_iff_forall_mem]
  intro c hc
  have h1 := h c (by simpa using hc)
  rw [Nat.blt_eq] at h1
  exact decide_eq_true h1
mutual
/-- data of at most this depth -/
def dat : Nat → D → Bool
  | _, .non => true
  | _, .bl _ => true
  | _, .int _ => true
  | _, .str s => okS s
  | n + 1, .tup xs => dats n xs
  | n + 1, .lst xs => dats n xs
  | _, _ => false
def dats : Nat → List D → Bool
  | _, [] => true
  | n, x :: xs => dat n x && dats n xs
end
mutual
def pyd : D → PyData
  | .non => .none
  | .bl b => .bool b
  | .int i => .int i
  | .str s => .str ⟨s.toArray⟩
  | .tup xs => .tuple (pyds xs)
  | .lst xs => .list (pyds xs)
  | _ => .none
def pyds : List D → List PyData
  | [] => []
  | x :: xs => pyd x :: pyds xs
end
mutual
theorem pyd_lay : ∀ (n : Nat) (d : D), dat n d = true → (pyd d).canLay0 = true ∧ (pyd d).depth ≤ n
  | n, .non, _ => ⟨by simp [pyd, PyData.canLay0], by simp [pyd, PyData.depth]⟩
  | n, .bl _, _ => ⟨by simp [pyd, PyData.canLay0], by simp [pyd, PyData.depth]⟩
  | n, .int _, _ => ⟨by simp [pyd, PyData.canLay0], by simp [pyd, PyData.depth]⟩
  | n, .str s, h => ⟨by simp only [pyd, PyData.canLay0]; exact okS_ok (by cases n <;> simpa [dat] using h), by simp [pyd, PyData.depth]⟩
  | 0, .tup xs, h => by simp [dat] at h
  | 0, .lst xs, h => by simp [dat] at h
  | n + 1, .tup xs, h => by
    obtain ⟨h1, h2⟩ := pyds_lay n xs (by simpa [dat] using h)
    exact ⟨by simp only [pyd, PyData.canLay0]; exact h1, by simp only [pyd, PyData.depth]; omega⟩
  | n + 1, .lst xs, h => by
    obtain ⟨h1, h2⟩ := pyds_lay n xs (by simpa [dat] using h)
    exact ⟨by simp only [pyd, PyData.canLay0]; exact h1, by simp only [pyd, PyData.depth]; omega⟩
  | n, .ty _, h => by cases n <;> simp [dat] at h
  | n, .glo _, h => by cases n <;> simp [dat] at h
  | n, .ref _, h => by cases n <;> simp [dat] at h
theorem pyds_lay : ∀ (n : Nat) (ds : List D), dats n ds = true → PyData.canLayAll0 (pyds ds) = true ∧ PyData.depthAll (pyds ds) ≤ n
  | n, [], _ => ⟨by simp [pyds, PyData.canLayAll0], by simp [pyds, PyData.depthAll]⟩
  | n, x :: xs, h => by
    rw [dats, Bool.and_eq_true] at h
    obtain ⟨h1, h2⟩ := pyd_lay n x h.1
    obtain ⟨h3, h4⟩ := pyds_lay n xs h.2
    exact ⟨by simp only [pyds, PyData.canLayAll0, h1, h3, Bool.and_self], by simp only [pyds, PyData.depthAll]; omega⟩
end
theorem pyd_shaped {n : Nat} {d : D} (h : dat n d = true) (hn : n ≤ 64) : SeqAt.shaped (pyd d) = true := by
  obtain ⟨h1, h2⟩ := pyd_lay n d h
  show ((pyd d).canLay0 && decide ((pyd d).depth ≤ 64)) = true
  rw [h1, Bool.true_and]
  exact decide_eq_true (by omega)
theorem str_beq (x y : List Nat) : ((⟨x.toArray⟩ : Str) == (⟨y.toArray⟩ : Str)) = (x == y) := by
  rw [Bool.eq_iff_iff, beq_iff_eq, beq_iff_eq]
  constructor
  · intro h
    have h1 : x.toArray = y.toArray := congrArg Str.cps h
    simpa using h1
  · intro h
    rw [h]
mutual
theorem eqv_pyd : ∀ (n : Nat) (a b : D), dat n a = true → dat n b = true → PyData.eqv (pyd a) (pyd b) = dEq a b
  | n, .non, b, _, h => by cases b <;> first | (cases n <;> simp [dat] at h; done) | (simp [pyd, PyData.eqv, dEq]; done)
  | n, .bl x, b, _, h => by cases b <;> first | (cases n <;> simp [dat] at h; done) | (simp [pyd, PyData.eqv, dEq]; done)
  | n, .int x, b, _, h => by cases b <;> first | (cases n <;> simp [dat] at h; done) | (simp [pyd, PyData.eqv, dEq]; done)
  | n, .str x, b, _, h => by cases b <;> first | (cases n <;> simp [dat] at h; done) | (simp [pyd, PyData.eqv, dEq, str_beq, eqNs_eq]; done)
  | 0, .tup xs, _, h, _ => by simp [dat] at h
  | 0, .lst xs, _, h, _ => by simp [dat] at h
  | n + 1, .tup xs, b, h, h' => by
    cases b with
    | tup ys =>
      simp only [pyd, PyData.eqv, dEq]
      exact eqvs_pyd n xs ys (by simpa [dat] using h) (by simpa [dat] using h')
    | _ => first | (simp [dat] at h'; done) | (simp [pyd, PyData.eqv, dEq]; done)
  | n + 1, .lst xs, b, h, h' => by
    cases b with
    | lst ys =>
      simp only [pyd, PyData.eqv, dEq]
      exact eqvs_pyd n xs ys (by simpa [dat] using h) (by simpa [dat] using h')
    | _ => first | (simp [dat] at h'; done) | (simp [pyd, PyData.eqv, dEq]; done)
  | n, .ty _, _, h, _ => by cases n <;> simp [dat] at h
  | n, .glo _, _, h, _ => by cases n <;> simp [dat] at h
  | n, .ref _, _, h, _ => by cases n <;> simp [dat] at h
theorem eqvs_pyd : ∀ (n : Nat) (a b : List D), dats n a = true → dats n b = true → PyData.eqvAll (pyds a) (pyds b) = dEqs a b
  | n, [], [], _, _ => by simp [pyds, PyData.eqvAll, dEqs]
  | n, [], y :: ys, _, _ => by simp [pyds, PyData.eqvAll, dEqs]
  | n, x :: xs, [], _, _ => by simp [pyds, PyData.eqvAll, dEqs]
  | n, x :: xs, y :: ys, h, h' => by
    rw [dats, Bool.and_eq_true] at h h'
    simp only [pyds, PyData.eqvAll, dEqs, eqv_pyd n x y h.1 h'.1, eqvs_pyd n xs ys h.2 h'.2]
end
section
variable {C : Cfg} {η : List Addr} {H : Hp} {st : Sto}
mutual
theorem rep_dp : ∀ (n : Nat) (d : D) (v : V), dat n d = true → Rep C η H d v → Dp C.K H v (pyd d)
  | n, .non, v, _, r => by
    rw [Rep] at r
    subst r
    simp only [pyd]
    exact .non
  | n, .bl b, v, _, r => by
    rw [Rep] at r
    subst r
    simp only [pyd]
    exact .bl b
  | n, .int b, v, _, r => by
    rw [Rep] at r
    subst r
    simp only [pyd]
    exact .int b
  | n, .str b, v, _, r => by
    rw [Rep] at r
    subst r
    simp only [pyd]
    exact .str _
  | 0, .tup xs, _, h, _ => by simp [dat] at h
  | 0, .lst xs, _, h, _ => by simp [dat] at h
  | n + 1, .tup xs, v, h, r => by
    rw [Rep] at r
    obtain ⟨a, vs, rfl, t, q⟩ := r
    simp only [pyd]
    exact .tup t.sq (reps_dp n xs vs (by simpa [dat] using h) q)
  | n + 1, .lst xs, v, h, r => by
    rw [Rep] at r
    obtain ⟨a, vs, rfl, t, q⟩ := r
    simp only [pyd]
    exact .lst t.sq (reps_dp n xs vs (by simpa [dat] using h) q)
  | n, .ty _, _, h, _ => by cases n <;> simp [dat] at h
  | n, .glo _, _, h, _ => by cases n <;> simp [dat] at h
  | n, .ref _, _, h, _ => by cases n <;> simp [dat] at h
theorem reps_dp : ∀ (n : Nat) (ds : List D) (vs : List V), dats n ds = true → RepL C η H ds vs → DpAll C.K H vs (pyds ds)
  | n, [], vs, _, r => by
    rw [RepL] at r
    subst r
    simp only [pyds]
    exact .nil
  | n, d :: ds, vs, h, r => by
    rw [RepL] at r
    obtain ⟨v, us, rfl, r1, r2⟩ := r
    rw [dats, Bool.and_eq_true] at h
    simp only [pyds]
    exact .cons (rep_dp n d v h.1 r1) (reps_dp n ds us h.2 r2)
end
/-- .. through the store -/
theorem vw_dp (n : Nat) {d : D} {v : V} (k : StOk C η st H) (h : dat n (vw st d) = true) (r : Rep C η H d v) : Dp C.K H v (pyd (vw st d)) := by
  cases e : vw st d with
  | lst ds =>
    obtain ⟨a, vs, rfl, q, q2⟩ := vw_lst k r e
    rw [e] at h
    cases n with
    | zero => simp [dat] at h
    | succ n =>
      simp only [pyd]
      exact .lst q (reps_dp n ds vs (by simpa [dat] using h) q2)
  | _ =>
    rw [e] at h
    rcases vw_ne e (fun _ z => by cases z) with ⟨m, _, z⟩ | rfl
    · cases z
      try (cases n <;> simp [dat] at h)
    · exact rep_dp n _ _ h r
end
abbrev rEqAll (K : PySem.W.Frag) : R2 := fun x y H Q => rEq x y H Q ∨ rEqD K x y H Q
abbrev rNeAll (K : PySem.W.Frag) : R2 := fun x y H Q => rNe x y H Q ∨ rNeD K x y H Q
theorem op_eqAll {X : Cx} (hu : X.A.units + 64 < cLine) : OpR X (compareOp .Eq) (rEqAll X.K) := op_eq.or (op_eqD hu)
theorem op_neAll {X : Cx} (hu : X.A.units + 64 < cLine) : OpR X (compareOp .NotEq) (rNeAll X.K) := op_ne.or (op_neD hu)
def dEqV (a b : D) (st : Sto) : Res D := match vw st a, vw st b with
  | .str x, .str y => .ok (.bl (eqNs x y)) st
  | u, v => if dat 30 u && dat 30 v then .ok (.bl (dEq u v)) st else .bad
def dNeV (a b : D) (st : Sto) : Res D := match vw st a, vw st b with
  | .str x, .str y => .ok (.bl (!eqNs x y)) st
  | u, v => if dat 30 u && dat 30 v then .ok (.bl (!dEq u v)) st else .bad
theorem dec_strN (x y : List Nat) : decide (V.str ⟨x.toArray⟩ = V.str ⟨y.toArray⟩) = eqNs x y := by
  rw [eqNs_eq, Bool.eq_iff_iff]
  simp
theorem dEqV_ok {C : Cfg} : OpD C dEqV (rEqAll C.K) := by
  intro W σ η st a b x y H Q k ra rb p
  unfold dEqV at p
  split at p
  · rename_i s t e1 e2
    rw [vw_str ra e1, vw_str rb e2]
    refine .inl ⟨rfl, p.ret k ?_⟩
    rw [Rep, dec_strN]
  split at p
  · rename_i h
    rw [Bool.and_eq_true] at h
    refine .inr ⟨_, _, vw_dp 30 k h.1 ra, vw_dp 30 k h.2 rb, pyd_shaped h.1 (by decide), pyd_shaped h.2 (by decide), p.ret k ?_⟩
    rw [Rep, eqv_pyd 30 _ _ h.1 h.2]
  · exact p.elim
theorem dNeV_ok {C : Cfg} : OpD C dNeV (rNeAll C.K) := by
  intro W σ η st a b x y H Q k ra rb p
  unfold dNeV at p
  split at p
  · rename_i s t e1 e2
    rw [vw_str ra e1, vw_str rb e2]
    refine .inl ⟨rfl, p.ret k ?_⟩
    rw [Rep, dec_strN]
  split at p
  · rename_i h
    rw [Bool.and_eq_true] at h
    refine .inr ⟨_, _, vw_dp 30 k h.1 ra, vw_dp 30 k h.2 rb, pyd_shaped h.1 (by decide), pyd_shaped h.2 (by decide), p.ret k ?_⟩
    rw [Rep, eqv_pyd 30 _ _ h.1 h.2]
  · exact p.elim
/-! ### in, of flat items -/
def flatD : D → Bool
  | .non => true
  | .bl _ => true
  | .int _ => true
  | .str _ => true
  | _ => false
theorem rep_flat {C : Cfg} {η : List Addr} {H : Hp} {d : D} {v : V} (f : flatD d = true) (r : Rep C η H d v) : flatV v = true := by
  cases d <;> first | (rw [Rep] at r; subst r; rfl) | cases f
theorem rep_eqV {C : Cfg} {η : List Addr} {H : Hp} {d e : D} {v u : V} (f : flatD d = true) (g : flatD e = true) (r : Rep C η H d v) (q : Rep C η H e u) : eqV v u = dEq d e := by
  cases d <;> first | (simp [flatD] at f; done) | skip
  all_goals (rw [Rep] at r; subst r)
  all_goals (cases e <;> first | (simp [flatD] at g; done) | skip)
  all_goals (rw [Rep] at q; subst q)
  all_goals simp [eqV, dEq, str_beq, eqNs_eq]
theorem rep_flats {C : Cfg} {η : List Addr} {H : Hp} : ∀ {ds : List D} {vs : List V}, ds.all flatD = true → RepL C η H ds vs → vs.all flatV = true
  | [], _, _, r => by
    rw [RepL] at r
    subst r
    rfl
  | d :: ds, _, f, r => by
    rw [RepL] at r
    obtain ⟨v, us, rfl, r1, r2⟩ := r
    rw [List.all_cons, Bool.and_eq_true] at f
    rw [List.all_cons, rep_flat f.1 r1, rep_flats f.2 r2]
    rfl
theorem rep_inV {C : Cfg} {η : List Addr} {H : Hp} {x : D} {v : V} (fx : flatD x = true) (rx : Rep C η H x v) : ∀ {ds : List D} {vs : List V}, ds.all flatD = true → RepL C η H ds vs → inV v vs = ds.any fun d => dEq d x
  | [], _, _, r => by
    rw [RepL] at r
    subst r
    rfl
  | d :: ds, _, f, r => by
    rw [RepL] at r
    obtain ⟨u, us, rfl, r1, r2⟩ := r
    rw [List.all_cons, Bool.and_eq_true] at f
    have h := rep_inV fx rx f.2 r2
    show (eqV u v || inV v us) = _
    rw [h, rep_eqV f.1 fx r1 rx, List.any_cons]
def items (st : Sto) (d : D) : Option (List D) := match vw st d with
  | .lst ds => some ds
  | .tup ds => some ds
  | _ => none
theorem items_sq {C : Cfg} {η : List Addr} {H : Hp} {st : Sto} {d : D} {v : V} {ds : List D} (k : StOk C η st H) (r : Rep C η H d v) (e : items st d = some ds) : ∃ a vs, v = .ref a ∧ (SqL C.K H a vs ∨ SqT C.K H a vs) ∧ RepL C η H ds vs := by
  unfold items at e
  split at e
  · rename_i xs h
    cases e
    obtain ⟨a, vs, e1, q, q2⟩ := vw_lst k r h
    exact ⟨a, vs, e1, .inl q, q2⟩
  · rename_i xs h
    cases e
    obtain ⟨a, vs, e1, q, q2⟩ := vw_tup r h
    exact ⟨a, vs, e1, .inr q, q2⟩
  · cases e
def dIn (neg : Bool) (a b : D) (st : Sto) : Res D := match items st b with
  | some ds => if flatD a && ds.all flatD then .ok (.bl (if neg then !(ds.any fun d => dEq d a) else ds.any fun d => dEq d a)) st else .bad
  | none => .bad
theorem dIn_ok {C : Cfg} {neg : Bool} : OpD C (dIn neg) (rIn C.K neg) := by
  intro W σ η st a b x y H Q k ra rb p
  unfold dIn at p
  split at p
  · rename_i ds e
    obtain ⟨a1, vs, rfl, q, r⟩ := items_sq k rb e
    split at p
    · rename_i h
      rw [Bool.and_eq_true] at h
      refine ⟨a1, vs, rfl, q, rep_flat h.1 ra, rep_flats h.2 r, p.ret k ?_⟩
      rw [Rep, rep_inV h.1 ra h.2 r]
    · exact p.elim
  · exact p.elim
end G

set_option Elab.async false
set_option linter.all false
set_option maxRecDepth 100000
set_option maxHeartbeats 4000000
/-! Items, slices, calls. -/
namespace G
open PySem PySem.Spec PyProof.Rows L2

section
variable {X : Cx} {C : Cfg} {a b c e : Expr} {es : List Expr} {fa fb fc f : Ev} {fs : EvA} {ft fu : EvT} {pos p2 : Pos}
/-! ### items -/
theorem atI_rep {η : List Addr} {H : Hp} {ds : List D} {vs : List V} {i : Int} {d : D} (r : RepL C η H ds vs) (h : atI ds i = some d) : ∃ v, atI vs i = some v ∧ Rep C η H d v := by
  unfold atI at h ⊢
  rw [← r.length]
  cases e : ixN ds.length i with
  | none => rw [e] at h; cases h
  | some j =>
    rw [e] at h
    exact r.get h
def dIx (a b : D) (st : Sto) : Res D := match b with
  | .int i => (match vw st a with
    | .lst ds => (match atI ds i with
      | some d => .ok d st
      | none => .bad)
    | .tup ds => (match atI ds i with
      | some d => .ok d st
      | none => .bad)
    | .str s => if big s.length then (match atI s i with
      | some c => .ok (.str [c]) st
      | none => .bad) else .bad
    | _ => .bad)
  | _ => .bad
theorem dIx_ok : OpD C dIx (rIx C.K) := by
  intro W σ η st a b x y H Q k ra rb p
  unfold dIx at p
  split at p
  · rename_i i
    rw [Rep] at rb
    split at p
    · rename_i ds e
      obtain ⟨a1, vs, rfl, q, r⟩ := vw_lst k ra e
      split at p
      · rename_i d h
        obtain ⟨v, h2, rd⟩ := atI_rep r h
        exact .inl ⟨a1, vs, i, v, rfl, rb, q, h2, p.ret k rd⟩
      · exact p.elim
    · rename_i ds e
      obtain ⟨a1, vs, rfl, q, r⟩ := vw_tup ra e
      split at p
      · rename_i d h
        obtain ⟨v, h2, rd⟩ := atI_rep r h
        exact .inr (.inl ⟨a1, vs, i, v, rfl, rb, q, h2, p.ret k rd⟩)
      · exact p.elim
    · rename_i s e
      rw [vw_str ra e]
      split at p
      · rename_i hb
        split at p
        · rename_i c h
          refine .inr (.inr ⟨_, i, c, rfl, rb, big_line hb, h, p.ret k ?_⟩)
          rw [Rep]
        · exact p.elim
      · exact p.elim
    · exact p.elim
  · exact p.elim
theorem SE.ix (hK : X.K = C.K) (ha : SE X C a fa) (hb : SE X C b fb) (hs : PlainIx b := by intro _ _; rfl) : SE X C (.Subscript a b pos) (cBin dIx fa fb) := ⟨fun W tk => PE_imp (pe_ix ix_seq (ha.run W tk) (hb.run W tk) hs) fun _ _ _ h => by
  rw [hK]
  exact bin_imp dIx_ok h⟩

/-! ### slices -/
structure SO_ (X : Cx) (C : Cfg) (e : Option Expr) (f : Env → Sto → Res (Option Int)) : Prop where
  run : ∀ W, Takes X W → PO X e (fun σ H Q => ∃ η ρ st, StOk C η st H ∧ EnvOk C η H ρ σ ∧ Post C W σ (fun _ _ a b => a = b) η H (f ρ st) Q)
def cNoP : Env → Sto → Res (Option Int) := fun _ st => .ok none st
def cPart (f : Ev) : Env → Sto → Res (Option Int) := fun ρ st => (f ρ st).bind fun d st1 => match d with
  | .int i => .ok (some i) st1
  | _ => .bad
theorem PO_imp {X : Cx} {e : Option Expr} {t t' : TO} (h : PO X e t) (i : ∀ σ H Q, t' σ H Q → t σ H Q) : PO X e t' := ⟨fun pins s σ H Q I q => h.run pins s σ H Q I (i σ H Q q)⟩
theorem SO_.no : SO_ X C none cNoP := ⟨fun W tk => PO_imp po_none fun σ H Q ⟨η, ρ, st, k, en, p⟩ => p.ret k rfl⟩
theorem SO_.part (h : SE X C e f) : SO_ X C (some e) (cPart f) := ⟨fun W tk => PO_imp (po_some (h.run W tk)) fun σ H Q ⟨η, ρ, st, k, en, p⟩ =>
  ⟨η, ρ, st, k, en, Post.bind (R := Rep C) (r := f ρ st) p fun d st1 v η1 H1 _ s1 k1 ra p1 => by
    cases d with
    | int i =>
      rw [Rep] at ra
      exact ⟨i, ra, p1.ret k1 rfl⟩
    | _ => exact p1.elim⟩⟩
def cut {α : Type} (xs : List α) (lo hi : Option Int) : List α := (xs.drop (HT.sIx xs.length 0 lo)).take (HT.sIx xs.length xs.length hi - HT.sIx xs.length 0 lo)
def dSl (a : D) (lo hi : Option Int) (st : Sto) : Res D := match vw st a with
  | .lst ds => .ok (.lst (cut ds lo hi)) st
  | .tup ds => .ok (.tup (cut ds lo hi)) st
  | .str s => if big s.length then .ok (.str (cut s lo hi)) st else .bad
  | _ => .bad
def cSl (f : Ev) (lo hi : Env → Sto → Res (Option Int)) : Ev := fun ρ st => (f ρ st).bind fun d st1 => (lo ρ st1).bind fun l st2 => (hi ρ st2).bind fun h st3 => dSl d l h st3
abbrev rSlAll (K : PySem.W.Frag) : V → Option Int → Option Int → Hp → VK → Prop := fun x lo hi H Q => rSlL K x lo hi H Q ∨ rSlA K x lo hi H Q ∨ rSlS x lo hi H Q
theorem cut_len {α β : Type} {xs : List α} {ys : List β} (h : xs.length = ys.length) (lo hi : Option Int) : HT.sIx xs.length 0 lo = HT.sIx ys.length 0 lo ∧ HT.sIx xs.length xs.length hi = HT.sIx ys.length ys.length hi := by
  rw [h]
  exact ⟨rfl, rfl⟩
theorem RepL.cut {η : List Addr} {H : Hp} {ds : List D} {vs : List V} (r : RepL C η H ds vs) (lo hi : Option Int) : RepL C η H (G.cut ds lo hi) (cutV vs lo hi) := by
  obtain ⟨h1, h2⟩ := cut_len r.length lo hi
  unfold G.cut cutV
  rw [h1, h2]
  exact (r.drop _).take _
theorem cut_whole {α : Type} (xs : List α) {lo hi : Option Int} (h : HT.sIx xs.length 0 lo = 0 ∧ HT.sIx xs.length xs.length hi = xs.length) : cut xs lo hi = xs := by
  unfold cut
  rw [h.1, h.2]
  simp
theorem SE.slice {lo hi : Option Expr} {fl fh : Env → Sto → Res (Option Int)} (hK : X.K = C.K) (ha : SE X C a fa) (hl : SO_ X C lo fl) (hh : SO_ X C hi fh) : SE X C (.Subscript a (.Slice lo hi none p2) pos) (cSl fa fl fh) :=
  ⟨fun W tk => PE_imp (pe_slice (sl_list.or (sl_tupA.or sl_str)) (ha.run W tk) (hl.run W tk) (hh.run W tk)) fun σ H Q ⟨η, ρ, st, k, en, p⟩ =>
    ⟨η, ρ, st, k, en, Post.bind (R := Rep C) (r := fa ρ st) p fun d st1 v η1 H1 _ s1 k1 rd p1 =>
      ⟨η1, ρ, st1, k1, en.mono s1, Post.bind (R := fun _ _ a b => a = b) (r := fl ρ st1) p1 fun l st2 l' η2 H2 _ s2 k2 el p2 =>
        ⟨η2, ρ, st2, k2, en.mono (s1.trans s2), Post.bind (R := fun _ _ a b => a = b) (r := fh ρ st2) p2 fun h st3 h' η3 H3 _ s3 k3 eh p3 => by
          subst el eh
          have rd' := rd.mono (s2.trans s3)
          unfold dSl at p3
          rw [hK]
          split at p3
          · rename_i ds e
            obtain ⟨a1, vs, rfl, q, r⟩ := vw_lst k3 rd' e
            exact .inl ⟨a1, vs, rfl, q, p3.lst k3 (r.cut l h)⟩
          · rename_i ds e
            obtain ⟨a1, vs, rfl, q, r⟩ := vw_tup rd' e
            refine .inr (.inl ⟨a1, vs, rfl, q, fun w => ?_, fun _ => p3.tup k3 (r.cut l h)⟩)
            obtain ⟨h1, h2⟩ := cut_len r.length l h
            have w' : HT.sIx ds.length 0 l = 0 ∧ HT.sIx ds.length ds.length h = ds.length := by
              rw [h1, h2, r.length]
              exact w
            rw [cut_whole ds w'] at p3
            rcases vw_ne e (fun _ z => by cases z) with ⟨n, _, z⟩ | rfl
            · cases z
            · exact p3.ret k3 rd'
          · rename_i s e
            rw [vw_str rd' e]
            split at p3
            · rename_i hb
              refine .inr (.inr ⟨_, rfl, big_line hb, p3.ret k3 ?_⟩)
              rw [Rep]
              rfl
            · exact p3.elim
          · exact p3.elim⟩⟩⟩⟩
/-- xs[::-1] of a list -/
def dRev (a : D) (st : Sto) : Res D := match vw st a with
  | .lst ds => .ok (.lst ds.reverse) st
  | _ => .bad

/-! ### built-in functions -/
def CallD (C : Cfg) (g : Fn) (r : List V → Hp → VK → Prop) : Prop := ∀ (W : WX) (σ : L2.St) (η : List Addr) (st : Sto) (ds : List D) (vs : List V) (H : Hp) (Q : VK), StOk C η st H → RepL C η H ds vs → Post C W σ (Rep C) η H (g ds st) Q → r vs H Q
def cArgs (g : Fn) (fs : EvA) : Ev := fun ρ st => (fs ρ st).bind fun ds st1 => g ds st1
theorem args_imp {g : Fn} {r : List V → Hp → VK → Prop} (o : CallD C g r) {W : WX} {σ : L2.St} {H : Hp} {Q : VK} (h : tE C W (cArgs g fs) σ H Q) : tCB r (tAr C W fs) σ H Q := by
  obtain ⟨η, ρ, st, k, en, p⟩ := h
  exact ⟨η, ρ, st, k, en, Post.bind (R := RepL C) (r := fs ρ st) p fun ds st1 vs η1 H1 _ s1 k1 rs p1 => o W σ η1 st1 ds vs H1 Q k1 rs p1⟩
variable {x : Str} {bid T : String} {r : List V → Hp → VK → Prop} {g : Fn} {p : Pos}
theorem SE.callB (hc : CallR X (.builtin bid) r) (o : CallD C g r) (hg : Gl X x) (hm : X.mg x = none) (hv : bootBuiltins x = some (.builtin bid)) (ha : SA X C (e :: es) fs) (hn : x ≠ "__name__" := by decide) (hdb : (x == ("__debug__" : Str)) = false := by decide)
    (he : starEach (e :: es) X.env = (false, eval e X.env) :: starEach es X.env := by rfl) (hpl : (backTo pos (starEach es X.env)).any (·.1) = false := by rfl) : SE X C (.Call (.Name x p) (e :: es) [] pos) (cArgs g fs) :=
  ⟨fun W tk => PE_imp (pe_callB hc hg hm hv (ha.run W tk) hn hdb he hpl) fun _ _ _ h => args_imp o h⟩
theorem SE.callTy (hc : CallR X (.type T) r) (o : CallD C g r) (hg : Gl X x) (hm : X.mg x = none) (hv : bootBuiltins x = some (.type T)) (ha : SA X C (e :: es) fs) (hn : x ≠ "__name__" := by decide) (hdb : (x == ("__debug__" : Str)) = false := by decide)
    (he : starEach (e :: es) X.env = (false, eval e X.env) :: starEach es X.env := by rfl) (hpl : (backTo pos (starEach es X.env)).any (·.1) = false := by rfl) : SE X C (.Call (.Name x p) (e :: es) [] pos) (cArgs g fs) :=
  ⟨fun W tk => PE_imp (pe_callTy hc hg hm hv (ha.run W tk) hn hdb he hpl) fun _ _ _ h => args_imp o h⟩
theorem RepL.one_inv {η : List Addr} {H : Hp} {d : D} {vs : List V} (r : RepL C η H [d] vs) : ∃ v, vs = [v] ∧ Rep C η H d v := by
  rw [RepL] at r
  obtain ⟨v, u, rfl, h1, h2⟩ := r
  rw [RepL] at h2
  subst h2
  exact ⟨v, rfl, h1⟩
theorem RepL.two_inv {η : List Addr} {H : Hp} {d e : D} {vs : List V} (r : RepL C η H [d, e] vs) : ∃ v u, vs = [v, u] ∧ Rep C η H d v ∧ Rep C η H e u := by
  rw [RepL] at r
  obtain ⟨v, w, rfl, h1, h2⟩ := r
  obtain ⟨u, rfl, h3⟩ := h2.one_inv
  exact ⟨v, u, rfl, h1, h3⟩
def dLen : Fn := fun ds st => match ds with
  | [d] => (match vw st d with
    | .lst xs => .ok (.int xs.length) st
    | .tup xs => .ok (.int xs.length) st
    | .str s => if big s.length then .ok (.int s.length) st else .bad
    | _ => .bad)
  | _ => .bad
theorem dLen_ok : CallD C dLen (fun xs H Q => ∃ x n, xs = [x] ∧ LenV C.K x H n ∧ Q (.int n) H) := by
  intro W σ η st ds vs H Q k rs p
  unfold dLen at p
  split at p
  · rename_i d
    obtain ⟨v, rfl, rd⟩ := rs.one_inv
    split at p
    · rename_i xs e
      obtain ⟨a1, us, rfl, q, r⟩ := vw_lst k rd e
      exact ⟨_, xs.length, rfl, .inl ⟨us, q, r.length⟩, p.ret k (by rw [Rep])⟩
    · rename_i xs e
      obtain ⟨a1, us, rfl, q, r⟩ := vw_tup rd e
      exact ⟨_, xs.length, rfl, .inr ⟨us, q, r.length⟩, p.ret k (by rw [Rep])⟩
    · rename_i s e
      rw [vw_str rd e]
      split at p
      · rename_i hb
        exact ⟨_, s.length, rfl, ⟨big_line hb, rfl⟩, p.ret k (by rw [Rep])⟩
      · exact p.elim
    · exact p.elim
  · exact p.elim
def dAbs : Fn := fun ds st => match ds with
  | [.int i] => .ok (.int (if i < 0 then -i else i)) st
  | _ => .bad
theorem dAbs_ok : CallD C dAbs (fun xs H Q => ∃ i, xs = [.int i] ∧ Q (.int (if i < 0 then -i else i)) H) := by
  intro W σ η st ds vs H Q k rs p
  unfold dAbs at p
  split at p
  · rename_i i
    obtain ⟨v, rfl, rd⟩ := rs.one_inv
    rw [Rep] at rd
    subst rd
    exact ⟨i, rfl, p.ret k (by rw [Rep])⟩
  · exact p.elim
def dMax2 : Fn := fun ds st => match ds with
  | [.int i, .int j] => .ok (.int (if j > i then j else i)) st
  | _ => .bad
theorem dMax2_ok : CallD C dMax2 (fun xs H Q => ∃ i j, xs = [.int i, .int j] ∧ Q (.int (if j > i then j else i)) H) := by
  intro W σ η st ds vs H Q k rs p
  unfold dMax2 at p
  split at p
  · rename_i i j
    obtain ⟨v, u, rfl, rd, re⟩ := rs.two_inv
    rw [Rep] at rd re
    subst rd re
    exact ⟨i, j, rfl, p.ret k (by rw [Rep])⟩
  · exact p.elim
def dMin2 : Fn := fun ds st => match ds with
  | [.int i, .int j] => .ok (.int (if j < i then j else i)) st
  | _ => .bad
theorem dMin2_ok : CallD C dMin2 (fun xs H Q => ∃ i j, xs = [.int i, .int j] ∧ Q (.int (if j < i then j else i)) H) := by
  intro W σ η st ds vs H Q k rs p
  unfold dMin2 at p
  split at p
  · rename_i i j
    obtain ⟨v, u, rfl, rd, re⟩ := rs.two_inv
    rw [Rep] at rd re
    subst rd re
    exact ⟨i, j, rfl, p.ret k (by rw [Rep])⟩
  · exact p.elim
def dInt1 : Fn := fun ds st => match ds with
  | [.int i] => .ok (.int i) st
  | [.bl b] => .ok (.int (if b then 1 else 0)) st
  | _ => .bad
theorem dInt1_ok : CallD C dInt1 (fun xs H Q => (∃ i, xs = [.int i] ∧ Q (.int i) H) ∨ ∃ k, xs = [.bl k] ∧ Q (.int (if k then 1 else 0)) H) := by
  intro W σ η st ds vs H Q k rs p
  unfold dInt1 at p
  split at p
  · rename_i i
    obtain ⟨v, rfl, rd⟩ := rs.one_inv
    rw [Rep] at rd
    subst rd
    exact .inl ⟨i, rfl, p.ret k (by rw [Rep])⟩
  · rename_i i
    obtain ⟨v, rfl, rd⟩ := rs.one_inv
    rw [Rep] at rd
    subst rd
    exact .inr ⟨i, rfl, p.ret k (by rw [Rep])⟩
  · exact p.elim
def dTuple : Fn := fun ds st => match ds with
  | [d] => (match vw st d with
    | .lst xs => .ok (.tup xs) st
    | .tup xs => .ok (.tup xs) st
    | _ => .bad)
  | _ => .bad
theorem dTuple_ok : CallD C dTuple (fun xs H Q => ∃ p ys, xs = [.ref p] ∧ ((SqL C.K H p ys ∧ ∀ l, H l = none → Q (.ref l) (upd H l (.tup ys))) ∨ (SqT C.K H p ys ∧ Q (.ref p) H))) := by
  intro W σ η st ds vs H Q k rs p
  unfold dTuple at p
  split at p
  · rename_i d
    obtain ⟨v, rfl, rd⟩ := rs.one_inv
    split at p
    · rename_i xs e
      obtain ⟨a1, us, rfl, q, r⟩ := vw_lst k rd e
      exact ⟨a1, us, rfl, .inl ⟨q, p.tup k r⟩⟩
    · rename_i xs e
      obtain ⟨a1, us, rfl, q, r⟩ := vw_tup rd e
      rcases vw_ne e (fun _ z => by cases z) with ⟨n, _, z⟩ | rfl
      · cases z
      · exact ⟨a1, us, rfl, .inr ⟨q, p.ret k rd⟩⟩
    · exact p.elim
  · exact p.elim
abbrev rListOf (K : PySem.W.Frag) : List V → Hp → VK → Prop := fun xs H Q => ∃ p ys, xs = [.ref p] ∧ (SqL K H p ys ∨ SqT K H p ys) ∧ ∀ l, H l = none → Q (.ref l) (upd H l (.lst ys))
def dList : Fn := fun ds st => match ds with
  | [d] => (match items st d with
    | some xs => .ok (.lst xs) st
    | none => .bad)
  | _ => .bad
theorem dList_ok : CallD C dList (rListOf C.K) := by
  intro W σ η st ds vs H Q k rs p
  unfold dList at p
  split at p
  · rename_i d
    obtain ⟨v, rfl, rd⟩ := rs.one_inv
    split at p
    · rename_i xs e
      obtain ⟨a1, us, rfl, q, r⟩ := items_sq k rd e
      exact ⟨a1, us, rfl, q, p.lst k r⟩
    · exact p.elim
  · exact p.elim
/-- .. that may change -/
def dListN : Fn := fun ds st => match ds with
  | [d] => (match items st d with
    | some xs => .ok (.ref st.length) (st ++ [.lst xs])
    | none => .bad)
  | _ => .bad
theorem dListN_ok : CallD C dListN (rListOf C.K) := by
  intro W σ η st ds vs H Q k rs p
  unfold dListN at p
  split at p
  · rename_i d
    obtain ⟨v, rfl, rd⟩ := rs.one_inv
    split at p
    · rename_i xs e
      obtain ⟨a1, us, rfl, q, r⟩ := items_sq k rd e
      exact ⟨a1, us, rfl, q, p.new k r⟩
    · exact p.elim
  · exact p.elim
/-- the bools of a list -/
def blsOf : List D → Option (List Bool)
  | [] => some []
  | .bl b :: ds => (match blsOf ds with
    | some bs => some (b :: bs)
    | none => none)
  | _ => none
theorem blsOf_rep {η : List Addr} {H : Hp} : ∀ {ds : List D} {vs : List V} {bs : List Bool}, blsOf ds = some bs → RepL C η H ds vs → vs = bs.map V.bl
  | [], _, _, h, r => by
    rw [RepL] at r
    cases h
    exact r
  | d :: ds, _, _, h, r => by
    rw [RepL] at r
    obtain ⟨v, u, rfl, h1, h2⟩ := r
    cases d with
    | bl b =>
      unfold blsOf at h
      cases e : blsOf ds with
      | none => rw [e] at h; cases h
      | some bs =>
        rw [e] at h
        cases h
        rw [Rep] at h1
        subst h1
        rw [List.map_cons, ← blsOf_rep e h2]
    | _ => cases h
def dAll : Fn := fun ds st => match ds with
  | [d] => (match vw st d with
    | .lst xs => (match blsOf xs with
      | some bs => .ok (.bl (bs.all fun b => b)) st
      | none => .bad)
    | _ => .bad)
  | _ => .bad
theorem dAll_ok : CallD C dAll (rAll C.K) := by
  intro W σ η st ds vs H Q k rs p
  unfold dAll at p
  split at p
  · rename_i d
    obtain ⟨v, rfl, rd⟩ := rs.one_inv
    split at p
    · rename_i xs e
      obtain ⟨a1, us, rfl, q, r⟩ := vw_lst k rd e
      split at p
      · rename_i bs hb
        rw [blsOf_rep hb r] at q
        exact ⟨a1, bs, rfl, q, p.ret k (by rw [Rep]; rfl)⟩
      · exact p.elim
    · exact p.elim
  · exact p.elim
def dAny : Fn := fun ds st => match ds with
  | [d] => (match vw st d with
    | .lst xs => (match blsOf xs with
      | some bs => .ok (.bl (bs.any fun b => b)) st
      | none => .bad)
    | _ => .bad)
  | _ => .bad
theorem dAny_ok : CallD C dAny (rAny C.K) := by
  intro W σ η st ds vs H Q k rs p
  unfold dAny at p
  split at p
  · rename_i d
    obtain ⟨v, rfl, rd⟩ := rs.one_inv
    split at p
    · rename_i xs e
      obtain ⟨a1, us, rfl, q, r⟩ := vw_lst k rd e
      split at p
      · rename_i bs hb
        rw [blsOf_rep hb r] at q
        exact ⟨a1, bs, rfl, q, p.ret k (by rw [Rep]; rfl)⟩
      · exact p.elim
    · exact p.elim
  · exact p.elim
end

/-! ### isinstance -/
/-- the type of a value -/
def tyD : D → Option Ty
  | .non => some .none
  | .bl _ => some .bool
  | .int _ => some .int
  | .str _ => some .str
  | .tup _ => some .tuple
  | .lst _ => some .list
  | _ => none
def isT : Ty → Ty → Bool
  | .int, .int => true | .bool, .bool => true | .str, .str => true | .tuple, .tuple => true | .list, .list => true | .dict, .dict => true | .none, .none => true | .set, .set => true | .float, .float => true
  | .bool, .int => true
  | _, _ => false
theorem isT_ok (K : PySem.W.Frag) : ∀ a b : Ty, PySem.W.kitOne K (.type a.name) (.type b.name) = some (isT a b) := by
  intro a b
  cases a <;> cases b <;> exact kit_ty (by decide +kernel)
theorem tyD_ok {C : Cfg} {η : List Addr} {H : Hp} {st : Sto} {d : D} {v : V} {t : Ty} (k : StOk C η st H) (r : Rep C η H d v) (h : tyD (vw st d) = some t) : TyX C.K H v (.type t.name) := by
  cases e : vw st d with
  | non => rw [e] at h; cases h; rw [vw_non r e]; exact .base .non
  | bl b => rw [e] at h; cases h; rw [vw_bl r e]; exact .base (.bl b)
  | int b => rw [e] at h; cases h; rw [vw_int r e]; exact .base (.int b)
  | str b => rw [e] at h; cases h; rw [vw_str r e]; exact .base (.str _)
  | tup ds =>
    rw [e] at h
    cases h
    obtain ⟨a, vs, rfl, q, _⟩ := vw_tup r e
    rcases q with (q | ⟨o, q⟩) | ⟨o, its, n, q, q2, _⟩
    · exact .base (.tup q)
    · exact .fTuple q
    · exact .kTuple q q2
  | lst ds =>
    rw [e] at h
    cases h
    obtain ⟨a, vs, rfl, q, _⟩ := vw_lst k r e
    rcases q with (q | ⟨o, q⟩) | ⟨o, its, n, q, q2, _⟩
    · exact .base (.lst q)
    · exact .base (.frz q)
    · exact .kList q q2
  | _ => rw [e] at h; cases h
def dIsi : Fn := fun ds st => match ds with
  | [d, .ty t] => (match tyD (vw st d) with
    | some u => .ok (.bl (isT u t)) st
    | none => .bad)
  | _ => .bad
theorem dIsi_ok {C : Cfg} : CallD C dIsi (rIsi C.K) := by
  intro W σ η st ds vs H Q k rs p
  unfold dIsi at p
  split at p
  · rename_i d t
    obtain ⟨v, u, rfl, rd, rt⟩ := rs.two_inv
    rw [Rep] at rt
    subst rt
    split at p
    · rename_i w h
      exact ⟨v, _, _, _, _, rfl, .ty _, tyD_ok k rd h, isT_ok C.K w t, p.ret k (by rw [Rep])⟩
    · exact p.elim
  · exact p.elim

/-! ### repr -/
/-- repr of data; the guards are known -/
theorem call_reprD {X : Cx} (hg : X.A.guards = some []) (hu : X.A.units + 64 < cLine) : CallR X (.builtin "repr") (fun xs H Q => ∃ v d, xs = [v] ∧ Dp X.K H v d ∧ d.canLay0 = true ∧ d.depth ≤ 60 ∧ d.showable = true ∧ d.shown.length ≤ sizeLine ∧ Q (.str d.shown) H) := by
  intro pins s σ H xs us Q I r h
  obtain ⟨v, d, rfl, hd, hl, hp, hs, hz, q⟩ := h
  obtain ⟨u, rfl, ru⟩ := vals1 r
  have hnd := PyData.hasDict_of_canLay d hl
  have big : ∀ {a : Addr}, u = .ref a → wpAny (model X.prog X.w) X.A (call (.builtin "repr") [u]) (EP X pins σ Q) X.xe s := fun {a} e => by
    subst e
    obtain ⟨as, rd⟩ := Dp.reads I d v _ hd ru
    refine repr_of_reads' rd hs (PyData.noDict_hsm hnd) hg (by omega) (fun _ _ z => z) (fun h' t tk kp => ?_) hz
    exact ⟨.str d.shown, H, I.kept (t' := tk) kp, ⟨t, rfl⟩, q⟩
  cases hd with
  | non =>
    cases (show u = Value.none from ru)
    refine PySem.P.repr_of_none ?_
    simp only [PyData.shown] at q
    exact ⟨.str _, H, I.tok _, ⟨_, rfl⟩, q⟩
  | bl b =>
    cases (show u = Value.bool b from ru)
    refine PySem.P.repr_of_bool ?_
    simp only [PyData.shown] at q
    exact ⟨.str _, H, I.tok _, ⟨_, rfl⟩, q⟩
  | int i =>
    obtain ⟨t, e⟩ := (show ∃ t, u = Value.int i t from ru)
    subst e
    simp only [PyData.showable, decide_eq_true_eq] at hs
    refine PySem.P.repr_of_int hs ?_
    simp only [PyData.shown] at q
    exact ⟨.str _, H, I.tok _, ⟨_, rfl⟩, q⟩
  | str x =>
    obtain ⟨t, e⟩ := (show ∃ t, u = Value.str x t from ru)
    subst e
    simp only [PyData.shown] at q hz
    exact PySem.P.repr_of_str ⟨.str _, H, I.tok _, ⟨_, rfl⟩, q⟩ hz
  | lst _ _ => exact big ru
  | tup _ _ => exact big ru
mutual
/-- more than the signs of its repr -/
def wt : D → Nat
  | .int _ => 1930
  | .str s => 10 * s.length + 10
  | .tup xs => wts xs + 10
  | .lst xs => wts xs + 10
  | _ => 10
def wts : List D → Nat
  | [] => 0
  | x :: xs => wt x + 2 + wts xs
end
mutual
/-- ints of less than 1920 bits alone -/
def shw : D → Bool
  | .int i => Nat.blt i.natAbs.log2 1920
  | .tup xs => shws xs
  | .lst xs => shws xs
  | _ => true
def shws : List D → Bool
  | [] => true
  | x :: xs => shw x && shws xs
end
theorem piled_list (ts : List Str) : (listText ts).length ≤ piled ts + 2 := by
  cases ts with
  | nil =>
    show (listText []).length ≤ _
    rw [listText_nil]
    decide
  | cons t r =>
    have h := textFrom_length_pos r 1 (("[" : Str) ++ (if (0 : Nat) > 0 then ", " else "" : String) ++ t) (by decide)
    have e : ((("[" : Str) ++ (if (0 : Nat) > 0 then ", " else "" : String) ++ t)).length = 1 + t.length := by
      rw [strLen_append, strLen_append]
      rfl
    unfold listText
    rw [strLen_append]
    show (textFrom 1 (("[" : Str) ++ (if (0 : Nat) > 0 then ", " else "" : String) ++ t) r).length + 1 ≤ _
    rw [h, e, piled_cons]
    omega
theorem piled_tuple (ts : List Str) : (tupleText ts).length ≤ piled ts + 3 := by
  have hj : (Str.join ", " ts).length ≤ piled ts := by
    by_cases h : ts = []
    · subst h
      decide
    · have := join_length_add ts h
      omega
  unfold tupleText
  rw [strLen_append, strLen_append]
  have h1 : (("(" : String) : Str).length = 1 := rfl
  have h2 : ((if ts.length == 1 then ",)" else ")" : String) : Str).length ≤ 2 := by
    split <;> decide
  omega
mutual
theorem shown_len : ∀ (n : Nat) (d : D), dat n d = true → shw d = true → (pyd d).shown.length ≤ wt d ∧ (pyd d).showable = true
  | n, .non, _, _ => ⟨by simp only [pyd, PyData.shown]; decide, by simp [pyd, PyData.showable]⟩
  | n, .bl b, _, _ => ⟨by simp only [pyd, PyData.shown]; cases b <;> decide, by simp [pyd, PyData.showable]⟩
  | n, .int i, _, h => by
    have h' : i.natAbs.log2 < 1920 := by
      rw [shw, Nat.blt_eq] at h
      exact h
    refine ⟨?_, by simp only [pyd, PyData.showable, decide_eq_true h']⟩
    simp only [pyd, PyData.shown]
    have e := int_text_length_le (a := i) (k := 1920) (by decide) h'
    have e2 := PySem.ofString_length (toString i)
    show (Str.ofString (toString i)).length ≤ 1930
    omega
  | n, .str s, hd, _ => by
    refine ⟨?_, by simp [pyd, PyData.showable]⟩
    simp only [pyd, PyData.shown]
    have hs : okS s = true := by cases n <;> simpa [dat] using hd
    have := PySem.StrLaws.reprText_len ⟨s.toArray⟩ (fun c hc => by
      unfold okS at hs
      rw [List.all_eq_true] at hs
      have h1 := hs c (by simpa using hc)
      rw [Nat.blt_eq] at h1
      exact Nat.lt_of_lt_of_le h1 (by decide))
    have e : (⟨s.toArray⟩ : Str).length = s.length := rfl
    rw [e] at this
    show _ ≤ 10 * s.length + 10
    omega
  | 0, .tup xs, h, _ => by simp [dat] at h
  | 0, .lst xs, h, _ => by simp [dat] at h
  | n + 1, .tup xs, h, h2 => by
    obtain ⟨h3, h4⟩ := showns_len n xs (by simpa [dat] using h) (by simpa [shw] using h2)
    refine ⟨?_, by simp only [pyd, PyData.showable]; exact h4⟩
    simp only [pyd, PyData.shown]
    have := piled_tuple (PyData.shownAll (pyds xs))
    show _ ≤ wts xs + 10
    omega
  | n + 1, .lst xs, h, h2 => by
    obtain ⟨h3, h4⟩ := showns_len n xs (by simpa [dat] using h) (by simpa [shw] using h2)
    refine ⟨?_, by simp only [pyd, PyData.showable]; exact h4⟩
    simp only [pyd, PyData.shown]
    have := piled_list (PyData.shownAll (pyds xs))
    show _ ≤ wts xs + 10
    omega
  | n, .ty _, h, _ => by cases n <;> simp [dat] at h
  | n, .glo _, h, _ => by cases n <;> simp [dat] at h
  | n, .ref _, h, _ => by cases n <;> simp [dat] at h
theorem showns_len : ∀ (n : Nat) (ds : List D), dats n ds = true → shws ds = true → piled (PyData.shownAll (pyds ds)) ≤ wts ds ∧ PyData.showableAll (pyds ds) = true
  | n, [], _, _ => ⟨by simp [pyds, PyData.shownAll, piled, wts], by simp [pyds, PyData.showableAll]⟩
  | n, x :: xs, h, h2 => by
    rw [dats, Bool.and_eq_true] at h
    rw [shws, Bool.and_eq_true] at h2
    obtain ⟨h3, h4⟩ := shown_len n x h.1 h2.1
    obtain ⟨h5, h6⟩ := showns_len n xs h.2 h2.2
    refine ⟨?_, by simp only [pyds, PyData.showableAll, h4, h6, Bool.and_self]⟩
    simp only [pyds, PyData.shownAll, piled_cons, wts]
    omega
end
/-- the signs of its repr -/
def shown (d : D) : List Nat := (pyd d).shown.cps.toList
def dRepr : Fn := fun ds st => match ds with
  | [d] => if dat 30 (vw st d) && shw (vw st d) && Nat.ble (wt (vw st d)) 1000000 then .ok (.str (shown (vw st d))) st else .bad
  | _ => .bad
abbrev rRepr (K : PySem.W.Frag) : List V → Hp → VK → Prop := fun xs H Q => ∃ v d, xs = [v] ∧ Dp K H v d ∧ d.canLay0 = true ∧ d.depth ≤ 60 ∧ d.showable = true ∧ d.shown.length ≤ sizeLine ∧ Q (.str d.shown) H
theorem dRepr_ok {C : Cfg} : CallD C dRepr (rRepr C.K) := by
  intro W σ η st ds vs H Q k rs p
  unfold dRepr at p
  split at p
  · rename_i d
    obtain ⟨v, rfl, rd⟩ := rs.one_inv
    split at p
    · rename_i h
      rw [Bool.and_eq_true, Bool.and_eq_true] at h
      obtain ⟨⟨h1, h2⟩, h3⟩ := h
      obtain ⟨l1, l2⟩ := pyd_lay 30 _ h1
      obtain ⟨s1, s2⟩ := shown_len 30 _ h1 h2
      have h3' := Nat.le_of_ble_eq_true h3
      refine ⟨v, _, rfl, vw_dp 30 k h1 rd, l1, by omega, s2, Nat.le_trans (Nat.le_trans s1 h3') (by decide), p.ret k ?_⟩
      rw [Rep]
      rfl
    · exact p.elim
  · exact p.elim
end G

set_option Elab.async false
set_option linter.all false
set_option maxRecDepth 100000
set_option maxHeartbeats 4000000
/-! Statements, loops, comprehensions. -/
namespace G
open PySem PySem.Spec PyProof.Rows L2

inductive Out where
  | nx (ρ : Env) | rt (d : D) | bk (ρ : Env) | ct (ρ : Env)
inductive RS where
  | ok (o : Out) (st : Sto) | exc (x : Exc) (ρ : Env) (st : Sto) | bad
abbrev EvS := Env → Sto → RS
def Res.into {α : Type} (r : Res α) (ρ : Env) (k : α → Sto → RS) : RS := match r with
  | .ok a st => k a st
  | .exc x st => .exc x ρ st
  | .bad => .bad
def PostS (C : Cfg) (W : WX) (η : List Addr) (H : Hp) (r : RS) (D : Ends) : Prop := match r with
  | .ok (.nx ρ) st' => ∀ σ' η' H', Step η H η' H' → StOk C η' st' H' → EnvOk C η' H' ρ σ' → D.nx σ' H'
  | .ok (.rt d) st' => ∀ v η' H', Step η H η' H' → StOk C η' st' H' → Rep C η' H' d v → D.rt v H'
  | .ok (.bk ρ) st' => ∀ σ' η' H', Step η H η' H' → StOk C η' st' H' → EnvOk C η' H' ρ σ' → D.bk σ' H'
  | .ok (.ct ρ) st' => ∀ σ' η' H', Step η H η' H' → StOk C η' st' H' → EnvOk C η' H' ρ σ' → D.ct σ' H'
  | .exc x ρ st' => ∀ c d σ' η' H', Step η H η' H' → StOk C η' st' H' → EnvOk C η' H' ρ σ' → RepX C η' H' x c d → W c d σ' H'
  | .bad => False
section
variable {C : Cfg} {W : WX} {σ : L2.St} {α β : Type} {R : List Addr → Hp → α → β → Prop} {η η' : List Addr} {H H' : Hp}
theorem PostS.step {r : RS} {D : Ends} (s : Step η H η' H') (h : PostS C W η H r D) : PostS C W η' H' r D := by
  cases r with
  | ok o st' =>
    cases o with
    | nx ρ => exact fun σ1 η1 H1 s1 => h σ1 η1 H1 (s.trans s1)
    | rt d => exact fun σ1 η1 H1 s1 => h σ1 η1 H1 (s.trans s1)
    | bk ρ => exact fun σ1 η1 H1 s1 => h σ1 η1 H1 (s.trans s1)
    | ct ρ => exact fun σ1 η1 H1 s1 => h σ1 η1 H1 (s.trans s1)
  | exc x ρ st' => exact fun c d σ1 η1 H1 s1 => h c d σ1 η1 H1 (s.trans s1)
  | bad => exact h
theorem PostS.into {r : Res α} {ρ : Env} {k : α → Sto → RS} {D : Ends} {Q1 : β → Hp → Prop} (h : PostS C W η H (r.into ρ k) D) (en : EnvOk C η H ρ σ)
    (hk : ∀ a st1 v η1 H1, r = .ok a st1 → Step η H η1 H1 → StOk C η1 st1 H1 → R η1 H1 a v → PostS C W η1 H1 (k a st1) D → Q1 v H1) : Post C W σ R η H r Q1 := by
  cases r with
  | ok a st1 => exact fun v η1 H1 s1 k1 r1 => hk a st1 v η1 H1 rfl s1 k1 r1 (PostS.step s1 h)
  | exc x st1 => exact fun c d η1 H1 s1 k1 rx => h c d σ η1 H1 s1 k1 (en.mono s1) rx
  | bad => exact h
theorem PostS.nx {ρ : Env} {st : Sto} {D : Ends} (h : PostS C W η H (.ok (.nx ρ) st) D) (k : StOk C η st H) (en : EnvOk C η H ρ σ) : D.nx σ H := h σ η H Step.refl k en
theorem PostS.imp {r : RS} {D D' : Ends} (h : PostS C W η H r D) (h1 : ∀ σ H, D.nx σ H → D'.nx σ H) (h2 : ∀ v H, D.rt v H → D'.rt v H) (h3 : ∀ σ H, D.bk σ H → D'.bk σ H) (h4 : ∀ σ H, D.ct σ H → D'.ct σ H) : PostS C W η H r D' := by
  cases r with
  | ok o st' =>
    cases o with
    | nx ρ => exact fun σ1 η1 H1 s1 k e => h1 _ _ (h σ1 η1 H1 s1 k e)
    | rt d => exact fun σ1 η1 H1 s1 k e => h2 _ _ (h σ1 η1 H1 s1 k e)
    | bk ρ => exact fun σ1 η1 H1 s1 k e => h3 _ _ (h σ1 η1 H1 s1 k e)
    | ct ρ => exact fun σ1 η1 H1 s1 k e => h4 _ _ (h σ1 η1 H1 s1 k e)
  | exc x ρ st' => exact h
  | bad => exact h
end
def tS (C : Cfg) (W : WX) (g : EvS) : TS := fun D σ H => ∃ η ρ st, StOk C η st H ∧ EnvOk C η H ρ σ ∧ PostS C W η H (g ρ st) D
structure SS (X : Cx) (C : Cfg) (s : Stmt) (g : EvS) : Prop where
  run : ∀ W, Takes X W → PS X s (tS C W g)
structure SB (X : Cx) (C : Cfg) (s : List Stmt) (g : EvS) : Prop where
  run : ∀ W, Takes X W → PSs X s (tS C W g)
theorem PS_imp {X : Cx} {s : Stmt} {t t' : TS} (h : PS X s t) (i : ∀ D σ H, t' D σ H → t D σ H) : PS X s t' := ⟨fun pins s σ H D I q => h.run pins s σ H D I (i D σ H q)⟩
theorem PSs_imp {X : Cx} {s : List Stmt} {t t' : TS} (h : PSs X s t) (i : ∀ D σ H, t' D σ H → t D σ H) : PSs X s t' := ⟨fun pins s σ H D I q => h.run pins s σ H D I (i D σ H q)⟩
/-! ### targets -/
abbrev EvG := D → Env → Option Env
abbrev EvGs := List D → Env → Option Env
/-- the slots but these stay -/
def But (own : List Nat) (σ σ' : L2.St) : Prop := σ'.length = σ.length ∧ ∀ j, j ∉ own → σ'[j]? = σ[j]?
theorem But.refl {own : List Nat} {σ : L2.St} : But own σ σ := ⟨rfl, fun _ _ => rfl⟩
theorem But.set {σ : L2.St} {i : Nat} {v : Option V} : But [i] σ (σ.set i v) := ⟨by simp, fun j hj => by
  have h : i ≠ j := fun e => hj (by simp [e])
  rw [List.getElem?_set_ne h]⟩
theorem But.trans {o1 o2 : List Nat} {σ σ1 σ2 : L2.St} (a : But o1 σ σ1) (b : But o2 σ1 σ2) : But (o1 ++ o2) σ σ2 := ⟨b.1.trans a.1, fun j hj => by
  rw [List.mem_append, not_or] at hj
  exact (b.2 j hj.2).trans (a.2 j hj.1)⟩
def tG (C : Cfg) (g : EvG) (own : List Nat) : TG := fun v σ H Q => ∃ η ρ d ρ', EnvOk C η H ρ σ ∧ Rep C η H d v ∧ g d ρ = some ρ' ∧ ∀ σ', EnvOk C η H ρ' σ' → But own σ σ' → Q σ' H
def tGs (C : Cfg) (g : EvGs) (own : List Nat) : TGs := fun vs σ H Q => ∃ η ρ ds ρ', EnvOk C η H ρ σ ∧ RepL C η H ds vs ∧ g ds ρ = some ρ' ∧ ∀ σ', EnvOk C η H ρ' σ' → But own σ σ' → Q σ' H
structure SG (X : Cx) (C : Cfg) (e : Expr) (g : EvG) (own : List Nat) : Prop where
  run : PG X e (tG C g own)
structure SGs (X : Cx) (C : Cfg) (es : List Expr) (g : EvGs) (own : List Nat) : Prop where
  run : PGs X es (tGs C g own)
theorem PG_imp {X : Cx} {e : Expr} {t t' : TG} (h : PG X e t) (i : ∀ v σ H Q, t' v σ H Q → t v σ H Q) : PG X e t' := ⟨fun pins s σ H v u Q I r q => h.run pins s σ H v u Q I r (i v σ H Q q)⟩
theorem PGs_imp {X : Cx} {e : List Expr} {t t' : TGs} (h : PGs X e t) (i : ∀ v σ H Q, t' v σ H Q → t v σ H Q) : PGs X e t' := ⟨fun pins s σ H v u Q I r q => h.run pins s σ H v u Q I r (i v σ H Q q)⟩
def gN (i : Nat) : EvG := fun d ρ => some (ρ.set i (some d))
def gNilD : EvGs := fun ds ρ => match ds with
  | [] => some ρ
  | _ => none
def gConsD (g : EvG) (gs : EvGs) : EvGs := fun ds ρ => match ds with
  | d :: r => (match g d ρ with
    | some ρ' => gs r ρ'
    | none => none)
  | [] => none
/-- a tuple's items -/
def gT (gs : EvGs) : EvG := fun d ρ => match d with
  | .tup ds => gs ds ρ
  | _ => none
section
variable {X : Cx} {C : Cfg} {a b c e tg iter : Expr} {es : List Expr} {fa fb fc f : Ev} {fs : EvA} {ft fu : EvT} {pos pos' p2 : Pos} {s : Stmt} {ss body orelse : List Stmt} {g h : EvS}
theorem SG.name (i : Nat) {x : Str} (hN : X.N.Nodup) (hi : X.N[i]? = some x := by rfl) (hx : Loc X.env.scope x := by first | exact Or.inl rfl | exact Or.inr rfl) (hf : X.fn x = true ∨ X.env.scope.names.lookup x = some .local := by first | exact Or.inl rfl | exact Or.inr rfl) : SG X C (.Name x pos) (gN i) [i] :=
  ⟨PG_imp (pg_name hN hi hx hf) fun v σ H Q ⟨η, ρ, d, ρ', en, r, e, q⟩ => by
    cases e
    exact q _ (en.set i r) But.set⟩
theorem SGs.nil : SGs X C [] gNilD [] := ⟨PGs_imp pgs_nil fun vs σ H Q ⟨η, ρ, ds, ρ', en, r, e, q⟩ => by
  cases ds with
  | nil =>
    rw [RepL] at r
    cases e
    exact ⟨r, q _ en But.refl⟩
  | cons d ds => cases e⟩
theorem SGs.cons {g : EvG} {gs : EvGs} {o1 o2 : List Nat} (h1 : SG X C e g o1) (h2 : SGs X C es gs o2) (hs : (assignEach (e :: es) X.env).map (·.2) = assign e X.env :: (assignEach es X.env).map (·.2) := by rfl) : SGs X C (e :: es) (gConsD g gs) (o1 ++ o2) :=
  ⟨PGs_imp (pgs_cons h1.run h2.run hs) fun vs σ H Q ⟨η, ρ, ds, ρ', en, r, e, q⟩ => by
    cases ds with
    | nil => cases e
    | cons d ds =>
      rw [RepL] at r
      obtain ⟨v, u, rfl, r1, r2⟩ := r
      unfold gConsD at e
      simp only at e
      cases h : g d ρ with
      | none => rw [h] at e; cases e
      | some ρ1 =>
        rw [h] at e
        exact ⟨v, u, rfl, η, ρ, d, ρ1, en, r1, h, fun σ' en' b => ⟨η, ρ1, ds, ρ', en', r2, e, fun σ2 en2 b2 => q σ2 en2 (b.trans b2)⟩⟩⟩
theorem gConsD_len {g : EvG} {gs : EvGs} {n : Nat} (h : ∀ ds ρ ρ', gs ds ρ = some ρ' → ds.length = n) : ∀ ds ρ ρ', gConsD g gs ds ρ = some ρ' → ds.length = n + 1 := by
  intro ds ρ ρ' e
  cases ds with
  | nil => cases e
  | cons d r =>
    unfold gConsD at e
    simp only at e
    cases q : g d ρ with
    | none => rw [q] at e; cases e
    | some ρ1 =>
      rw [q] at e
      rw [List.length_cons, h r ρ1 ρ' e]
theorem gNilD_len : ∀ ds ρ ρ', gNilD ds ρ = some ρ' → ds.length = 0 := by
  intro ds ρ ρ' e
  cases ds with
  | nil => rfl
  | cons d r => cases e
theorem SG.tup {gs : EvGs} {n j : Nat} {own : List Nat} (hK : X.K = C.K) (hc : X.calm = true) (h : SGs X C es gs own) (hl : ∀ ds ρ ρ', gs ds ρ = some ρ' → ds.length = n) (hn : (assignEach es X.env).length = n := by rfl) (hst : (assignEach es X.env).findIdx? (·.1) = none := by rfl) :
    SG X C (.Tuple es j pos) (gT gs) own := ⟨PG_imp (pg_tup hc h.run hn hst) fun v σ H Q ⟨η, ρ, d, ρ', en, r, e, q⟩ => by
  cases d with
  | tup ds =>
    rw [Rep] at r
    obtain ⟨a, vs, rfl, t, r⟩ := r
    have e' : gs ds ρ = some ρ' := e
    rw [hK]
    exact ⟨a, vs, rfl, t.sq, by rw [← r.length]; exact hl _ _ _ e', η, ρ, ds, ρ', en, r, e', q⟩
  | _ => cases e⟩

/-! ### small statements -/
def sNil : EvS := fun ρ st => .ok (.nx ρ) st
def sSeq (g h : EvS) : EvS := fun ρ st => match g ρ st with
  | .ok (.nx ρ') st' => h ρ' st'
  | r => r
theorem SB.nil : SB X C [] sNil := ⟨fun W tk => PSs_imp pss_nil fun D σ H ⟨η, ρ, st, k, en, p⟩ => p.nx k en⟩
theorem SB.one (h1 : SS X C s g) : SB X C [s] g := ⟨fun W tk => pss_one (h1.run W tk)⟩
theorem SB.cons (h1 : SS X C s g) (h2 : SB X C ss h) : SB X C (s :: ss) (sSeq g h) := ⟨fun W tk => PSs_imp (pss_cons (h1.run W tk) (h2.run W tk)) fun D σ H ⟨η, ρ, st, k, en, p⟩ => by
  refine ⟨η, ρ, st, k, en, ?_⟩
  unfold sSeq at p
  cases e : g ρ st with
  | ok o st' =>
    rw [e] at p
    cases o with
    | nx ρ' => exact fun σ' η' H' s1 k1 en1 => ⟨η', ρ', st', k1, en1, PostS.step s1 p⟩
    | rt d => exact p
    | bk ρ' => exact p
    | ct ρ' => exact p
  | exc x ρ' st' => rw [e] at p; exact p
  | bad => rw [e] at p; exact p⟩
def sBad : EvS := fun _ _ => .bad
theorem SS.never : SS X C s sBad := ⟨fun W tk => PS_imp ps_never fun D σ H ⟨η, ρ, st, k, en, p⟩ => p⟩
theorem SS.pass : SS X C (.Pass pos) sNil := ⟨fun W tk => PS_imp ps_pass fun D σ H ⟨η, ρ, st, k, en, p⟩ => p.nx k en⟩
theorem SS.doc {x : Str} {j : Nat} : SS X C (.Expr (.Constant (.str x) j pos) pos') sNil := ⟨fun W tk => PS_imp ps_doc fun D σ H ⟨η, ρ, st, k, en, p⟩ => p.nx k en⟩
def sBrk : EvS := fun ρ st => .ok (.bk ρ) st
def sCnt : EvS := fun ρ st => .ok (.ct ρ) st
theorem SS.brk : SS X C (.Break pos) sBrk := ⟨fun W tk => PS_imp ps_break fun D σ H ⟨η, ρ, st, k, en, p⟩ => p σ η H Step.refl k en⟩
theorem SS.cnt : SS X C (.Continue pos) sCnt := ⟨fun W tk => PS_imp ps_continue fun D σ H ⟨η, ρ, st, k, en, p⟩ => p σ η H Step.refl k en⟩
def sRet (f : Ev) : EvS := fun ρ st => (f ρ st).into ρ fun d st1 => .ok (.rt d) st1
theorem SS.ret (h : SE X C e f) : SS X C (.Return (some e) pos) (sRet f) := ⟨fun W tk => PS_imp (ps_ret (h.run W tk)) fun D σ H ⟨η, ρ, st, k, en, p⟩ =>
  ⟨η, ρ, st, k, en, PostS.into (R := Rep C) (r := f ρ st) p en fun d st1 v η1 H1 _ s1 k1 r1 p1 => p1 v η1 H1 Step.refl k1 r1⟩⟩
def sRetN : EvS := fun _ st => .ok (.rt .non) st
theorem SS.retN : SS X C (.Return none pos) sRetN := ⟨fun W tk => PS_imp ps_retN fun D σ H ⟨η, ρ, st, k, en, p⟩ => p .non η H Step.refl k (by rw [Rep])⟩
def sExp (f : Ev) : EvS := fun ρ st => (f ρ st).into ρ fun _ st1 => .ok (.nx ρ) st1
theorem SS.expr (h : SE X C e f) (hs : swapsWith e none pos.line X.env = pure false := by rfl) : SS X C (.Expr e pos) (sExp f) := ⟨fun W tk => PS_imp (ps_expr (h.run W tk) hs) fun D σ H ⟨η, ρ, st, k, en, p⟩ =>
  ⟨η, ρ, st, k, en, PostS.into (R := Rep C) (r := f ρ st) p en fun d st1 v η1 H1 _ s1 k1 r1 p1 => p1.nx k1 (en.mono s1)⟩⟩
def sIf (t : EvT) (g h : EvS) : EvS := fun ρ st => (t ρ st).into ρ fun b st1 => match b with
  | true => g ρ st1
  | false => h ρ st1
theorem SS.if_ {x y : List Stmt} (hc : ST X C c ft) (ha : SB X C x g) (hb : SB X C y h) : SS X C (.If c x y pos) (sIf ft g h) := ⟨fun W tk => PS_imp (ps_if (hc.run W tk) (ha.run W tk) (hb.run W tk)) fun D σ H ⟨η, ρ, st, k, en, p⟩ =>
  ⟨η, ρ, st, k, en, PostS.into (R := fun _ _ a b => a = b) (r := ft ρ st) p en fun b st1 v η1 H1 _ s1 k1 r1 p1 => by
    subst r1
    cases b with
    | true => exact iteT ⟨η1, ρ, st1, k1, en.mono s1, p1⟩
    | false => exact iteF ⟨η1, ρ, st1, k1, en.mono s1, p1⟩⟩⟩
/-! ### assignments -/
def sSet (i : Nat) (f : Ev) : EvS := fun ρ st => (f ρ st).into ρ fun d st1 => .ok (.nx (ρ.set i (some d))) st1
theorem set_imp {W : WX} {i : Nat} {D : Ends} {σ : L2.St} {H : Hp} (p : tS C W (sSet i f) D σ H) : tAsg (tE C W f) (gName i) D σ H := by
  obtain ⟨η, ρ, st, k, en, p⟩ := p
  exact ⟨η, ρ, st, k, en, PostS.into (R := Rep C) (r := f ρ st) p en fun d st1 v η1 H1 _ s1 k1 r1 p1 => p1.nx k1 ((en.mono s1).set i r1)⟩
theorem SS.set (i : Nat) {x : Str} {pos' : Pos} (hN : X.N.Nodup) (he : SE X C e f) (hi : X.N[i]? = some x := by rfl) (hx : Loc X.env.scope x := by first | exact Or.inl rfl | exact Or.inr rfl) (hs : swapsWith e (some (.Name x pos')) pos.line X.env = pure false := by rfl)
    (hf : X.fn x = true ∨ X.env.scope.names.lookup x = some .local := by first | exact Or.inl rfl | exact Or.inr rfl) : SS X C (.Assign [.Name x pos'] e pos) (sSet i f) :=
  ⟨fun W tk => PS_imp (ps_set hN hi hx (he.run W tk) hs hf) fun D σ H p => set_imp p⟩
/-- a, b = x, y: two local names, written side by side -/
def sPar (i j : Nat) (fs : EvA) : EvS := fun ρ st => (fs ρ st).into ρ fun ds st1 => match ds with
  | [d, e] => .ok (.nx ((ρ.set i (some d)).set j (some e))) st1
  | _ => .bad
theorem SS.par (i j : Nat) {x y : Str} {px py pt : Pos} {kt k2 pt2} (hN : X.N.Nodup) (hc : X.calm = true) (ha : SA X C [a, b] fs) (hi : X.N[i]? = some x := by rfl) (hj : X.N[j]? = some y := by rfl) (hij : i ≠ j := by decide)
    (hx : X.env.scope.names.lookup x = some .local := by rfl) (hy : X.env.scope.names.lookup y = some .local := by rfl)
    (hw : swappedStores [.Tuple [.Name x px, .Name y py] kt pt] (.Tuple [a, b] k2 pt2) X.env = pure (some [x, y]) := by rfl)
    (hs : swapsWithSole [.Tuple [.Name x px, .Name y py] kt pt] (.Tuple [a, b] k2 pt2) pos.line X.env = pure false := by rfl) :
    SS X C (.Assign [.Tuple [.Name x px, .Name y py] kt pt] (.Tuple [a, b] k2 pt2) pos) (sPar i j fs) := ⟨fun W tk => PS_imp (ps_par hc hN hi hj hij hx hy (ha.run W tk) hw hs) fun D σ H ⟨η, ρ, st, k, en, p⟩ =>
  ⟨η, ρ, st, k, en, PostS.into (R := RepL C) (r := fs ρ st) p en fun ds st1 vs η1 H1 _ s1 k1 rs p1 => by
    match ds, rs, p1 with
    | [d, e], rs, p1 =>
      obtain ⟨v, u, rfl, r1, r2⟩ := rs.two_inv
      exact ⟨v, u, rfl, p1.nx k1 (((en.mono s1).set i r1).set j r2)⟩
    | [], _, p1 => exact p1.elim
    | [_], _, p1 => exact p1.elim
    | _ :: _ :: _ :: _, _, p1 => exact p1.elim⟩⟩
def sPar3 (i j l : Nat) (fs : EvA) : EvS := fun ρ st => (fs ρ st).into ρ fun ds st1 => match ds with
  | [d, e, f] => .ok (.nx (((ρ.set i (some d)).set j (some e)).set l (some f))) st1
  | _ => .bad
/-- any target of names -/
def sAsg (f : Ev) (g : EvG) : EvS := fun ρ st => (f ρ st).into ρ fun d st1 => match g d ρ with
  | some ρ' => .ok (.nx ρ') st1
  | none => .bad
theorem SS.asg {g : EvG} {own : List Nat} (he : SE X C e f) (hg : SG X C tg g own) (hs : swapsWithSole [tg] e pos.line X.env = pure false := by rfl) (hw : swappedStores [tg] e X.env = pure none := by rfl) (h1 : (assignEach [tg] X.env).map (·.2) = [assign tg X.env] := by rfl) :
    SS X C (.Assign [tg] e pos) (sAsg f g) := ⟨fun W tk => PS_imp (ps_asg (he.run W tk) hg.run hs hw h1) fun D σ H ⟨η, ρ, st, k, en, p⟩ =>
  ⟨η, ρ, st, k, en, PostS.into (R := Rep C) (r := f ρ st) p en fun d st1 v η1 H1 _ s1 k1 r1 p1 => by
    cases e : g d ρ with
    | none => rw [e] at p1; exact p1.elim
    | some ρ' =>
      rw [e] at p1
      exact ⟨η1, ρ, d, ρ', en.mono s1, r1, e, fun σ' en' _ => p1.nx k1 en'⟩⟩⟩
/-- o[i] = e: a list of the store -/
def dPut (o i d : D) (st : Sto) : Option Sto := match o, i with
  | .ref n, .int k => (match st[n]? with
    | some (.lst ds) => (match ixN ds.length k with
      | some j => some (st.set n (.lst (ds.set j d)))
      | none => none)
    | none => none)
  | _, _ => none
def sSub (f fo fi : Ev) : EvS := fun ρ st => (f ρ st).into ρ fun d st1 => (fo ρ st1).into ρ fun o st2 => (fi ρ st2).into ρ fun i st3 => match dPut o i d st3 with
  | some st4 => .ok (.nx ρ) st4
  | none => .bad
theorem SS.sub {o i : Expr} {fo fi : Ev} (he : SE X C e f) (ho : SE X C o fo) (hi : SE X C i fi)
    (ha : ∀ v, assign (.Subscript o i p2) X.env v = (do
      let ov ← holding [v] (eval o X.env)
      let iv ← holding [v, ov] (eval i X.env)
      standAt p2
      holding [v, ov, iv] (setItem ov iv v)
      release [v, ov, iv] []) := by intro _; rfl)
    (hs : swapsWithSole [.Subscript o i p2] e pos.line X.env = pure false := by rfl) (hw : swappedStores [.Subscript o i p2] e X.env = pure none := by rfl) (h1 : (assignEach [.Subscript o i p2] X.env).map (·.2) = [assign (.Subscript o i p2) X.env] := by rfl) :
    SS X C (.Assign [.Subscript o i p2] e pos) (sSub f fo fi) := ⟨fun W tk => PS_imp (ps_asg (he.run W tk) (pg_sub (ho.run W tk) (hi.run W tk) set_list ha) hs hw h1) fun D σ H ⟨η, ρ, st, k, en, p⟩ =>
  ⟨η, ρ, st, k, en, PostS.into (R := Rep C) (r := f ρ st) p en fun d st1 v η1 H1 _ s1 k1 r1 p1 =>
    ⟨η1, ρ, st1, k1, en.mono s1, PostS.into (R := Rep C) (r := fo ρ st1) p1 (en.mono s1) fun o st2 ov η2 H2 _ s2 k2 r2 p2 =>
      ⟨η2, ρ, st2, k2, (en.mono s1).mono s2, PostS.into (R := Rep C) (r := fi ρ st2) p2 ((en.mono s1).mono s2) fun i st3 iv η3 H3 _ s3 k3 r3 p3 => by
        have r2' := r2.mono s3
        have r1' := r1.mono (s2.trans s3)
        have en3 := ((en.mono s1).mono s2).mono s3
        cases o with
        | ref n =>
          cases i with
          | int z =>
            unfold dPut at p3
            simp only at p3
            cases hn : st3[n]? with
            | none => rw [hn] at p3; exact p3.elim
            | some q =>
              rw [hn] at p3
              cases q with
              | lst ds =>
                simp only at p3
                cases hj : ixN ds.length z with
                | none => rw [hj] at p3; exact p3.elim
                | some j =>
                  rw [hj] at p3
                  rw [Rep] at r2'
                  rw [Rep] at r3
                  obtain ⟨a, ha, rfl⟩ := r2'
                  obtain ⟨us, hu, ru⟩ := k3.ok n a _ ha hn
                  refine ⟨a, us, z, j, rfl, r3, hu, by rw [← ru.length]; exact hj, ?_⟩
                  have st := k3.step_set (u := .lst (us.set j v)) ha
                  exact p3 σ η3 _ st (k3.put ha ⟨_, upd_same, (ru.mono st).set j (r1'.mono st)⟩) (en3.mono st)
          | _ => exact p3.elim
        | _ => exact p3.elim⟩⟩⟩⟩
/-! ### methods of lists of the store -/
def cApp (fo : Ev) (fs : EvA) : Ev := fun ρ st => (fo ρ st).bind fun o st1 => match o with
  | .ref n => (match st1[n]? with
    | some _ => (fs ρ st1).bind fun ds st2 => (match ds, st2[n]? with
      | [d], some (.lst xs) => if big (xs.length + 1) then .ok .non (st2.set n (.lst (xs ++ [d]))) else .bad
      | _, _ => .bad)
    | none => .bad)
  | _ => .bad
theorem SE.append {o : Expr} {fo : Ev} {apos : Pos} (ho : SE X C o fo) (ha : SA X C [a] fs)
    (hbase : attributeBase o (Str.ofString "append") X.env (eval o X.env) = eval o X.env := by rfl)
    (hfew : ((backTo pos (starEach [a] X.env)).all (fun x => !x.1) && (backToKw pos (keywordEach [] X.env)).all (fun x => x.1.isSome) && decide ([a].length + ([] : List Keyword).length + (if ([] : List Keyword).isEmpty then 0 else 1) < 30)) = true := by rfl)
    (hline : (apos.endLine == pos.line) = true := by rfl) (hs : starEach [a] X.env = (false, eval a X.env) :: starEach [] X.env := by rfl) (hplain : (backTo pos (starEach [] X.env)).any (·.1) = false := by rfl) :
    SE X C (.Call (.Attribute o (Str.ofString "append") apos) [a] [] pos) (cApp fo fs) := ⟨fun W tk => PE_imp (pe_bm PySem.F.plainAttrs_list PySem.F.slot_list_append PySem.F.type_list_append mt_append (ho.run W tk) (ha.run W tk) hbase hfew hline hs hplain) fun σ H Q ⟨η, ρ, st, k, en, p⟩ =>
  ⟨η, ρ, st, k, en, by
    refine Post.bind (R := Rep C) (r := fo ρ st) p fun o st1 ov η1 H1 _ s1 k1 r1 p1 => ?_
    cases o with
    | ref m =>
      simp only at p1
      cases hs1 : st1[m]? with
      | none => rw [hs1] at p1; exact p1.elim
      | some o2 =>
        rw [hs1] at p1
        rw [Rep] at r1
        obtain ⟨q, hq, rfl⟩ := r1
        cases o2 with
        | lst ys =>
          obtain ⟨us, hu, _⟩ := k1.ok m q _ hq hs1
          refine ⟨.inl ⟨rfl, us, .inl (.inl hu)⟩, η1, ρ, st1, k1, en.mono s1, Post.bind (R := RepL C) (r := fs ρ st1) p1 fun ds st2 vs η2 H2 hok s2 k2 rs p2 => ?_⟩
          split at p2
          · rename_i d xs h
            split at p2
            · rename_i hb
              obtain ⟨w, rfl, rw'⟩ := rs.one_inv
              have hq2 := s2.ref hq
              obtain ⟨us, hu, ru⟩ := k2.ok m q _ hq2 h
              have hl := ru.length
              refine ⟨q, us, w, rfl, rfl, hu, by rw [← hl]; exact big_lt hb, ?_⟩
              have stp := k2.step_set (u := .lst (us ++ [w])) hq2
              exact p2 .non η2 _ stp (k2.put hq2 ⟨_, upd_same, (ru.mono stp).append (RepL.one (rw'.mono stp))⟩) (by rw [Rep])
            · exact p2.elim
          · exact p2.elim
    | _ => exact p1.elim⟩⟩
end
end G

set_option Elab.async false
set_option linter.all false
set_option maxRecDepth 100000
set_option maxHeartbeats 4000000
/-! Loops, comprehensions. -/
namespace G
open PySem PySem.Spec PyProof.Rows L2

section
variable {C C' : Cfg} {η η' : List Addr} {H H' : Hp} {st : Sto} {a : Addr}
/-- what is being made may change, where what is meant stands elsewhere -/
structure Like (C C' : Cfg) (H : Hp) : Prop where
  k : C.K = C'.K
  g : C.gl = C'.gl
  h : ∀ a, a ∈ C'.hot → a ∉ C.hot → H a = none
theorem TupAt.conv {vs : List V} (l : Like C C' H) (h : TupAt C η H a vs) : TupAt C' η H a vs := by
  rcases h with ⟨n, m, h⟩ | h
  · refine .inl ⟨n, fun z => ?_, h⟩
    have e := l.h a z m
    rcases h with h | ⟨o, h⟩
    · rw [e] at h; cases h
    · rw [e] at h; cases h
  · exact .inr (l.k ▸ h)
theorem LstAt.conv {vs : List V} (l : Like C C' H) (h : LstAt C η H a vs) : LstAt C' η H a vs := by
  rcases h with ⟨n, m, h⟩ | h
  · refine .inl ⟨n, fun z => ?_, h⟩
    have e := l.h a z m
    rcases h with h | ⟨o, h⟩
    · rw [e] at h; cases h
    · rw [e] at h; cases h
  · exact .inr (l.k ▸ h)
mutual
theorem Rep.conv (l : Like C C' H) : ∀ {d : D} {v : V}, Rep C η H d v → Rep C' η H d v
  | .non, _, h => h
  | .bl _, _, h => h
  | .int _, _, h => h
  | .str _, _, h => h
  | .ty _, _, h => h
  | .glo _, _, h => by
    rw [Rep] at h ⊢
    rw [← l.g]
    exact h
  | .ref _, _, h => h
  | .tup ds, _, h => by
    rw [Rep] at h ⊢
    obtain ⟨a, vs, e, t, r⟩ := h
    exact ⟨a, vs, e, t.conv l, RepL.conv l r⟩
  | .lst ds, _, h => by
    rw [Rep] at h ⊢
    obtain ⟨a, vs, e, t, r⟩ := h
    exact ⟨a, vs, e, t.conv l, RepL.conv l r⟩
theorem RepL.conv (l : Like C C' H) : ∀ {ds : List D} {vs : List V}, RepL C η H ds vs → RepL C' η H ds vs
  | [], _, h => h
  | d :: ds, _, h => by
    rw [RepL] at h ⊢
    obtain ⟨v, r, e, h1, h2⟩ := h
    exact ⟨v, r, e, Rep.conv l h1, RepL.conv l h2⟩
end
theorem SOk.conv {o : SO} (l : Like C C' H) (h : SOk C η H a o) : SOk C' η H a o := by
  cases o with
  | lst ds =>
    obtain ⟨vs, q, r⟩ := h
    exact ⟨vs, q, r.conv l⟩
theorem EnvOk.conv {ρ : Env} {σ : L2.St} (l : Like C C' H) (e : EnvOk C η H ρ σ) : EnvOk C' η H ρ σ := ⟨e.len, fun i d h => by
  obtain ⟨v, e1, r⟩ := e.ok i d h
  exact ⟨v, e1, r.conv l⟩⟩
/-- what is walked: items, told ahead -/
def ItemsOk (C : Cfg) (η : List Addr) (H : Hp) (xs : List D) (J : It) : Prop :=
  ∀ (C' : Cfg) (η1 : List Addr) (H1 : Hp) (st1 : Sto) (i : Nat), Like C C' H → Step η H η1 H1 → StOk C' η1 st1 H1 →
    (∀ x, xs[i]? = some x → J.go i H1 ∧ ∀ v H2, J.yld i H1 v H2 → Step η1 H1 η1 H2 ∧ StOk C' η1 st1 H2 ∧ Rep C' η1 H2 x v) ∧ (xs.length ≤ i → J.stop i H1)
end
abbrev EvI := Env → Sto → Res (List D)
def tIt (C : Cfg) (W : WX) (f : EvI) : TI := fun σ H R => ∃ η ρ st, StOk C η st H ∧ EnvOk C η H ρ σ ∧ Post C W σ (ItemsOk C) η H (f ρ st) R
structure SI (X : Cx) (C : Cfg) (tg e : Expr) (f : EvI) : Prop where
  run : ∀ W, Takes X W → PI X tg e (tIt C W f)
theorem PI_imp {X : Cx} {tg e : Expr} {t t' : TI} (h : PI X tg e t) (i : ∀ σ H R, t' σ H R → t σ H R) : PI X tg e t' := ⟨fun pins s σ H R I q => h.run pins s σ H R I (i σ H R q)⟩
/-- a list or a tuple is walked -/
def iSeq (K : PySem.W.Frag) (tl : TE) : TI := fun σ H R => tl σ H fun x H1 => ∃ a, x = .ref a ∧ (((∃ xs, SqL K H1 a xs) ∧ R (Itl K a) H1) ∨ ((∃ xs, SqT K H1 a xs) ∧ R (Itt K a) H1))
theorem pi_seq {X : Cx} {tg l : Expr} {tl : TE} (hl : PE X l tl) : PI X tg l (iSeq X.K tl) := by
  refine ⟨fun pins s σ H R I h => thn (hl.run pins s σ H _ I h) fun v s1 ⟨x, H1, I1, r1, a, e, q⟩ => ?_⟩
  subst e
  cases r1
  have new : ∀ b, b ∈ [s1.heap.objs.size] → FpOk X pins H1 b := fun b hb => by
    rw [List.mem_singleton] at hb
    rw [hb]
    exact I1.fpOk (Nat.le_refl _) (I1.hok.fresh (Nat.le_refl _))
  rcases q with ⟨⟨xs, hs⟩, q⟩ | ⟨⟨xs, hs⟩, q⟩
  · obtain ⟨its, rv, pl, hz⟩ := I1.list hs
    exact wpAny_pyIter_list pl.isList ⟨_, [s1.heap.objs.size], _, _, H1, rfl, I1.kept (t' := s1.toks) fun b o => Heap.get?_push_of_some _, turn_list a _, ⟨_, Heap.get?_push_size _ rfl, rfl, rfl⟩, new, q⟩
  · obtain ⟨its, rv, pl, hz⟩ := I1.tuple hs
    exact wpAny_pyIter_tuple (show s1.heap.IsTuple a its.toArray from pl) ⟨_, [s1.heap.objs.size], _, _, H1, rfl, I1.kept (t' := s1.toks) fun b o => Heap.get?_push_of_some _, turn_tuple a _, ⟨_, Heap.get?_push_size _ rfl, rfl, rfl⟩, new, q⟩
def cSeqI (f : Ev) : EvI := fun ρ st => (f ρ st).bind fun d st1 => match d with
  | .lst xs => .ok xs st1
  | .tup xs => .ok xs st1
  | _ => .bad
section
variable {C : Cfg} {η : List Addr} {H : Hp}
theorem items_list {a : Addr} {vs : List V} {xs : List D} (t : LstAt C η H a vs) (r : RepL C η H xs vs) : ItemsOk C η H xs (Itl C.K a) := by
  intro C' η1 H1 st1 i l s k
  have q : SqL C.K H1 a vs := (t.mono s).sq
  have r1 := (r.conv l).mono s
  refine ⟨fun x hx => ?_, fun hi => ⟨vs, q, by rw [← r.length]; exact hi⟩⟩
  obtain ⟨v, hv, rv⟩ := r1.get hx
  refine ⟨⟨vs, v, q, hv⟩, fun u H2 y => ?_⟩
  obtain ⟨rfl, y⟩ := y
  have e := y vs q
  rw [hv] at e
  cases e
  exact ⟨Step.refl, k, rv⟩
theorem items_tup {a : Addr} {vs : List V} {xs : List D} (t : TupAt C η H a vs) (r : RepL C η H xs vs) : ItemsOk C η H xs (Itt C.K a) := by
  intro C' η1 H1 st1 i l s k
  have q : SqT C.K H1 a vs := (t.mono s).sq
  have r1 := (r.conv l).mono s
  refine ⟨fun x hx => ?_, fun hi => ⟨vs, q, by rw [← r.length]; exact hi⟩⟩
  obtain ⟨v, hv, rv⟩ := r1.get hx
  refine ⟨⟨vs, v, q, hv⟩, fun u H2 y => ?_⟩
  obtain ⟨rfl, y⟩ := y
  have e := y vs q
  rw [hv] at e
  cases e
  exact ⟨Step.refl, k, rv⟩
/-- lo, lo + 1, .. -/
def rng (lo : Int) (n : Nat) : List D := (List.range n).map fun i => .int (lo + (i : Nat))
theorem items_rng (lo : Int) (n : Nat) : ItemsOk C η H (rng lo n) (Itr lo n) := by
  intro C' η1 H1 st1 i l s k
  have hl : (rng lo n).length = n := by simp [rng]
  refine ⟨fun x hx => ?_, fun hi => by rw [hl] at hi; exact hi⟩
  have hi : i < n := by
    rw [← hl]
    exact (List.getElem?_eq_some_iff.mp hx).1
  refine ⟨hi, fun v H2 y => ?_⟩
  obtain ⟨rfl, rfl⟩ := y
  have e : x = .int (lo + (i : Nat)) := by
    unfold rng at hx
    rw [List.getElem?_map, List.getElem?_range hi] at hx
    exact (Option.some.inj hx).symm
  subst e
  exact ⟨Step.refl, k, by rw [Rep]⟩
/-- pairs -/
def zipD : List D → List D → List D
  | x :: xs, y :: ys => .tup [x, y] :: zipD xs ys
  | _, _ => []
theorem zipD_get : ∀ (xs ys : List D) (i : Nat), (zipD xs ys)[i]? = (match xs[i]?, ys[i]? with
    | some x, some y => some (.tup [x, y])
    | _, _ => none)
  | [], ys, i => by simp [zipD]
  | x :: xs, [], i => by
    simp [zipD]
  | x :: xs, y :: ys, 0 => by simp [zipD]
  | x :: xs, y :: ys, i + 1 => by
    simp only [zipD, List.getElem?_cons_succ]
    exact zipD_get xs ys i
theorem pair_new {C' : Cfg} {η1 : List Addr} {H1 : Hp} {st1 : Sto} {T : Addr} {x y : D} {u v : V} (k : StOk C' η1 st1 H1) (hT : H1 T = none) (rx : Rep C' η1 H1 x u) (ry : Rep C' η1 H1 y v) :
    Step η1 H1 η1 (upd H1 T (.tup [u, v])) ∧ StOk C' η1 st1 (upd H1 T (.tup [u, v])) ∧ Rep C' η1 (upd H1 T (.tup [u, v])) (.tup [x, y]) (.ref T) :=
  ⟨Step.new hT, k.new hT, new_tup k (RepL.cons rx (RepL.one ry)) hT⟩
theorem items_zipL {a b : Addr} {vs us : List V} {xs ys : List D} (t : LstAt C η H a vs) (r : RepL C η H xs vs) (t2 : LstAt C η H b us) (r2 : RepL C η H ys us) : ItemsOk C η H (zipD xs ys) (Itz C.K a b) := by
  intro C' η1 H1 st1 i l s k
  have q : SqL C.K H1 a vs := (t.mono s).sq
  have q2 : SqL C.K H1 b us := (t2.mono s).sq
  have r1 := (r.conv l).mono s
  have r3 := (r2.conv l).mono s
  have hz := zipD_get xs ys i
  refine ⟨fun x hx => ?_, fun hi => ?_⟩
  · rw [hx] at hz
    cases h1 : xs[i]? with
    | none => rw [h1] at hz; cases hz
    | some x1 =>
      cases h2 : ys[i]? with
      | none => rw [h1, h2] at hz; cases hz
      | some y1 =>
        rw [h1, h2] at hz
        cases hz
        obtain ⟨v, hv, rv⟩ := r1.get h1
        obtain ⟨u, hu, ru⟩ := r3.get h2
        refine ⟨⟨vs, us, v, u, q, q2, hv, hu⟩, fun w H2 y => ?_⟩
        obtain ⟨T, x', y', rfl, hT, rfl, f1, f2⟩ := y
        have e1 := f1 vs q
        rw [hv] at e1
        cases e1
        have e2 := f2 us q2
        rw [hu] at e2
        cases e2
        exact pair_new k hT rv ru
  · have e : (zipD xs ys)[i]? = none := List.getElem?_eq_none hi
    rw [e] at hz
    refine ⟨vs, us, q, q2, ?_⟩
    rw [← r.length, ← r2.length]
    cases h1 : xs[i]? with
    | none => exact .inl (List.getElem?_eq_none_iff.mp h1)
    | some x1 =>
      cases h2 : ys[i]? with
      | none => exact .inr (List.getElem?_eq_none_iff.mp h2)
      | some y1 => rw [h1, h2] at hz; cases hz
theorem items_zipT {a b : Addr} {vs us : List V} {xs ys : List D} (t : TupAt C η H a vs) (r : RepL C η H xs vs) (t2 : TupAt C η H b us) (r2 : RepL C η H ys us) : ItemsOk C η H (zipD xs ys) (RZ.ItzT C.K a b) := by
  intro C' η1 H1 st1 i l s k
  have q : SqT C.K H1 a vs := (t.mono s).sq
  have q2 : SqT C.K H1 b us := (t2.mono s).sq
  have r1 := (r.conv l).mono s
  have r3 := (r2.conv l).mono s
  have hz := zipD_get xs ys i
  refine ⟨fun x hx => ?_, fun hi => ?_⟩
  · rw [hx] at hz
    cases h1 : xs[i]? with
    | none => rw [h1] at hz; cases hz
    | some x1 =>
      cases h2 : ys[i]? with
      | none => rw [h1, h2] at hz; cases hz
      | some y1 =>
        rw [h1, h2] at hz
        cases hz
        obtain ⟨v, hv, rv⟩ := r1.get h1
        obtain ⟨u, hu, ru⟩ := r3.get h2
        refine ⟨⟨vs, us, v, u, q, q2, hv, hu⟩, fun w H2 y => ?_⟩
        obtain ⟨T, x', y', rfl, hT, rfl, f1, f2⟩ := y
        have e1 := f1 vs q
        rw [hv] at e1
        cases e1
        have e2 := f2 us q2
        rw [hu] at e2
        cases e2
        exact pair_new k hT rv ru
  · have e : (zipD xs ys)[i]? = none := List.getElem?_eq_none hi
    rw [e] at hz
    refine ⟨vs, us, q, q2, ?_⟩
    rw [← r.length, ← r2.length]
    cases h1 : xs[i]? with
    | none => exact .inl (List.getElem?_eq_none_iff.mp h1)
    | some x1 =>
      cases h2 : ys[i]? with
      | none => exact .inr (List.getElem?_eq_none_iff.mp h2)
      | some y1 => rw [h1, h2] at hz; cases hz
/-- numbered -/
def enumD (n : Nat) : List D → List D
  | [] => []
  | x :: xs => .tup [.int (n : Int), x] :: enumD (n + 1) xs
theorem enumD_get : ∀ (xs : List D) (n i : Nat), (enumD n xs)[i]? = (xs[i]?).map fun x => .tup [.int ((n + i : Nat) : Int), x]
  | [], n, i => by simp [enumD]
  | x :: xs, n, 0 => by simp [enumD]
  | x :: xs, n, i + 1 => by
    simp only [enumD, List.getElem?_cons_succ]
    rw [enumD_get xs (n + 1) i]
    have e : n + 1 + i = n + (i + 1) := by omega
    rw [e]
theorem enumD_len : ∀ (xs : List D) (n : Nat), (enumD n xs).length = xs.length
  | [], n => rfl
  | x :: xs, n => by simp [enumD, enumD_len xs]
theorem items_enum {a : Addr} {vs : List V} {xs : List D} (t : LstAt C η H a vs) (r : RepL C η H xs vs) : ItemsOk C η H (enumD 0 xs) (Ite C.K a) := by
  intro C' η1 H1 st1 i l s k
  have q : SqL C.K H1 a vs := (t.mono s).sq
  have r1 := (r.conv l).mono s
  refine ⟨fun x hx => ?_, fun hi => ⟨vs, q, by rw [← r.length, ← enumD_len xs 0]; exact hi⟩⟩
  rw [enumD_get] at hx
  cases h : xs[i]? with
  | none => rw [h] at hx; cases hx
  | some y =>
    rw [h] at hx
    cases hx
    obtain ⟨v, hv, rv⟩ := r1.get h
    refine ⟨⟨vs, v, q, hv⟩, fun w H2 z => ?_⟩
    obtain ⟨T, x', rfl, hT, rfl, f1⟩ := z
    have e1 := f1 vs q
    rw [hv] at e1
    cases e1
    refine pair_new k hT ?_ rv
    rw [Rep]
    simp
end
section
variable {X : Cx} {C : Cfg} {a b c e tg iter : Expr} {es : List Expr} {fa fb fc f : Ev} {fs : EvA} {ft fu : EvT} {fi : EvI} {pos pos' p p2 : Pos} {s : Stmt} {ss body orelse : List Stmt} {g h : EvS}
theorem SI.seq (hK : X.K = C.K) (h : SE X C e f) : SI X C tg e (cSeqI f) := ⟨fun W tk => PI_imp (pi_seq (h.run W tk)) fun σ H R ⟨η, ρ, st, k, en, p⟩ =>
  ⟨η, ρ, st, k, en, Post.bind (R := Rep C) (r := f ρ st) p fun d st1 v η1 H1 _ s1 k1 rd p1 => by
    rw [hK]
    cases d with
    | lst xs =>
      rw [Rep] at rd
      obtain ⟨a, vs, rfl, t, r⟩ := rd
      exact ⟨a, rfl, .inl ⟨⟨vs, t.sq⟩, p1.ret k1 (items_list t r)⟩⟩
    | tup xs =>
      rw [Rep] at rd
      obtain ⟨a, vs, rfl, t, r⟩ := rd
      exact ⟨a, rfl, .inr ⟨⟨vs, t.sq⟩, p1.ret k1 (items_tup t r)⟩⟩
    | _ => exact p1.elim⟩⟩
def cRng1 (fs : EvA) : EvI := fun ρ st => (fs ρ st).bind fun ds st1 => match ds with
  | [.int j] => if decide (j < 4000000) && decide (-4000000 < j) then .ok (rng 0 j.toNat) st1 else .bad
  | _ => .bad
theorem SI.range1 (hg : Gl X (Str.ofString "range")) (hm : X.mg (Str.ofString "range") = none) (ha : SA X C [a] fs) (hs : starEach [a] X.env = [(false, eval a X.env)] := by rfl) : SI X C tg (.Call (.Name (Str.ofString "range") p) [a] [] pos) (cRng1 fs) :=
  ⟨fun W tk => PI_imp (pi_range1 hg hm (ha.run W tk) hs) fun σ H R ⟨η, ρ, st, k, en, p⟩ =>
    ⟨η, ρ, st, k, en, Post.bind (R := RepL C) (r := fs ρ st) p fun ds st1 vs η1 H1 hok s1 k1 rs p1 => by
      split at p1
      · rename_i j
        obtain ⟨v, rfl, rv⟩ := rs.one_inv
        rw [Rep] at rv
        subst rv
        split at p1
        · rename_i h
          simp only [Bool.and_eq_true, decide_eq_true_eq] at h
          exact ⟨j, rfl, by omega, by omega, p1.ret k1 (items_rng 0 j.toNat)⟩
        · exact p1.elim
      · exact p1.elim⟩⟩
def cRng2 (fs : EvA) : EvI := fun ρ st => (fs ρ st).bind fun ds st1 => match ds with
  | [.int i, .int j] => if decide (j < 4000000) && decide (-4000000 < j) && decide (i < 4000000) && decide (-4000000 < i) then .ok (rng i (j - i).toNat) st1 else .bad
  | _ => .bad
theorem SI.range2 (hg : Gl X (Str.ofString "range")) (hm : X.mg (Str.ofString "range") = none) (ha : SA X C [a, b] fs) (hs : starEach [a, b] X.env = [(false, eval a X.env), (false, eval b X.env)] := by rfl) (hs2 : starEach [b] X.env = [(false, eval b X.env)] := by rfl) : SI X C tg (.Call (.Name (Str.ofString "range") p) [a, b] [] pos) (cRng2 fs) :=
  ⟨fun W tk => PI_imp (pi_range2 hg hm (ha.run W tk) hs hs2) fun σ H R ⟨η, ρ, st, k, en, p⟩ =>
    ⟨η, ρ, st, k, en, Post.bind (R := RepL C) (r := fs ρ st) p fun ds st1 vs η1 H1 hok s1 k1 rs p1 => by
      split at p1
      · rename_i i j
        obtain ⟨v, u, rfl, rv, ru⟩ := rs.two_inv
        rw [Rep] at rv ru
        subst rv ru
        split at p1
        · rename_i h
          simp only [Bool.and_eq_true, decide_eq_true_eq] at h
          exact ⟨i, j, rfl, ⟨by omega, by omega, by omega, by omega⟩, p1.ret k1 (items_rng i (j - i).toNat)⟩
        · exact p1.elim
      · exact p1.elim⟩⟩
def cZip (fs : EvA) : EvI := fun ρ st => (fs ρ st).bind fun ds st1 => match ds with
  | [.lst xs, .lst ys] => .ok (zipD xs ys) st1
  | [.tup xs, .tup ys] => .ok (zipD xs ys) st1
  | _ => .bad
theorem SI.zip {elts : List Expr} {kk : Nat} {tpos : Pos} (hK : X.K = C.K) (hg : Gl X (Str.ofString "zip")) (hm : X.mg (Str.ofString "zip") = none) (ha : SA X C [a, b] fs) (hs : starEach [a, b] X.env = (false, eval a X.env) :: starEach [b] X.env := by rfl) (hpl : (backTo pos (starEach [b] X.env)).any (·.1) = false := by rfl) :
    SI X C (.Tuple elts kk tpos) (.Call (.Name (Str.ofString "zip") p) [a, b] [] pos) (cZip fs) :=
  ⟨fun W tk => PI_imp (RZ.pi_zipA hg hm (ha.run W tk) hs hpl) fun σ H R ⟨η, ρ, st, k, en, p⟩ =>
    ⟨η, ρ, st, k, en, Post.bind (R := RepL C) (r := fs ρ st) p fun ds st1 vs η1 H1 hok s1 k1 rs p1 => by
      rw [hK]
      split at p1
      · rename_i xs ys
        obtain ⟨v, u, rfl, rv, ru⟩ := rs.two_inv
        rw [Rep] at rv ru
        obtain ⟨a1, vs, rfl, t, r⟩ := rv
        obtain ⟨a2, us, rfl, t2, r2⟩ := ru
        exact ⟨a1, a2, vs, us, rfl, .inl ⟨t.sq, t2.sq, p1.ret k1 (items_zipL t r t2 r2)⟩⟩
      · rename_i xs ys
        obtain ⟨v, u, rfl, rv, ru⟩ := rs.two_inv
        rw [Rep] at rv ru
        obtain ⟨a1, vs, rfl, t, r⟩ := rv
        obtain ⟨a2, us, rfl, t2, r2⟩ := ru
        exact ⟨a1, a2, vs, us, rfl, .inr ⟨t.sq, t2.sq, p1.ret k1 (items_zipT t r t2 r2)⟩⟩
      · exact p1.elim⟩⟩
def cEnum (fs : EvA) : EvI := fun ρ st => (fs ρ st).bind fun ds st1 => match ds with
  | [.lst xs] => .ok (enumD 0 xs) st1
  | _ => .bad
theorem SI.enum {elts : List Expr} {kk : Nat} {tpos : Pos} (hK : X.K = C.K) (hg : Gl X (Str.ofString "enumerate")) (hm : X.mg (Str.ofString "enumerate") = none) (ha : SA X C [a] fs) (hs : starEach [a] X.env = [(false, eval a X.env)] := by rfl) :
    SI X C (.Tuple elts kk tpos) (.Call (.Name (Str.ofString "enumerate") p) [a] [] pos) (cEnum fs) :=
  ⟨fun W tk => PI_imp (pi_enum hg hm (ha.run W tk) hs) fun σ H R ⟨η, ρ, st, k, en, p⟩ =>
    ⟨η, ρ, st, k, en, Post.bind (R := RepL C) (r := fs ρ st) p fun ds st1 vs η1 H1 hok s1 k1 rs p1 => by
      rw [hK]
      split at p1
      · rename_i xs
        obtain ⟨v, rfl, rv⟩ := rs.one_inv
        rw [Rep] at rv
        obtain ⟨a1, vs, rfl, t, r⟩ := rv
        exact ⟨a1, vs, rfl, t.sq, p1.ret k1 (items_enum t r)⟩
      · exact p1.elim⟩⟩

/-! ### for -/
def forD (g : EvG) (body : EvS) : List D → EvS
  | [], ρ, st => .ok (.nx ρ) st
  | x :: xs, ρ, st => match g x ρ with
    | none => .bad
    | some ρ1 => (match body ρ1 st with
      | .ok (.nx ρ2) st2 => forD g body xs ρ2 st2
      | .ok (.ct ρ2) st2 => forD g body xs ρ2 st2
      | .ok (.bk ρ2) st2 => .ok (.nx ρ2) st2
      | r => r)
def sFor (fi : EvI) (g : EvG) (body : EvS) : EvS := fun ρ st => (fi ρ st).into ρ fun xs st1 => forD g body xs ρ st1
theorem SS.for_ {gt : EvG} {own : List Nat} (hp : PassesOwn (model X.prog X.w) X.A X.env X.xe) (hc : X.calm = true) (hi : SI X C tg iter fi) (hg : SG X C tg gt own) (hb : SB X C body g) (hs : ∀ x, foldedSetIterable iter X.env x = pure x := by intro _; rfl) :
    SS X C (.For tg iter body [] pos) (sFor fi gt g) := ⟨fun W tk => PS_imp (ps_for hp hc (hi.run W tk) hg.run (hb.run W tk) hs) fun D σ H ⟨η, ρ, st, k, en, p⟩ => by
  refine ⟨η, ρ, st, k, en, PostS.into (R := ItemsOk C) (r := fi ρ st) p en fun xs st1 J η0 H0 _ s0 k0 items p0 => ?_⟩
  have en0 := en.mono s0
  refine ⟨fun i m σ H => m = xs.length - i ∧ i ≤ xs.length ∧ ∃ η1 ρ1 st1, Step η0 H0 η1 H ∧ StOk C η1 st1 H ∧ EnvOk C η1 H ρ1 σ ∧ PostS C W η1 H (forD gt g (xs.drop i) ρ1 st1) D,
    ⟨_, rfl, Nat.zero_le _, η0, ρ, st1, Step.refl, k0, en0, p0⟩, ?_⟩
  rintro i m σ1 H1 ⟨rfl, hi, η1, ρ1, st2, s1, k1, en1, p1⟩
  obtain ⟨it, stop⟩ := items C η1 H1 st2 i ⟨rfl, rfl, fun _ a b => absurd a b⟩ s1 k1
  by_cases hl : i < xs.length
  · have hx : xs[i]? = some xs[i] := List.getElem?_eq_getElem hl
    obtain ⟨go, yl⟩ := it _ hx
    rw [List.drop_eq_getElem_cons hl] at p1
    unfold forD at p1
    refine .inr ⟨go, fun σ' H' => ∃ η3 ρ3 st3, Step η0 H0 η3 H' ∧ StOk C η3 st3 H' ∧ EnvOk C η3 H' ρ3 σ' ∧ PostS C W η3 H' (forD gt g (xs.drop (i + 1)) ρ3 st3) D, fun σ' H' n => ⟨xs.length - (i + 1), by omega, rfl, hl, n⟩, fun v H2 y => ?_⟩
    obtain ⟨s2, k2, r2⟩ := yl v H2 y
    cases hg2 : gt xs[i] ρ1 with
    | none => rw [hg2] at p1; exact p1.elim
    | some ρ2 =>
      rw [hg2] at p1
      dsimp only at p1
      refine ⟨η1, ρ1, _, ρ2, en1.mono s2, r2, hg2, fun σ2 en2 _ => ⟨η1, ρ2, st2, k2, en2, ?_⟩⟩
      have p2 := PostS.step s2 p1
      cases hb2 : g ρ2 st2 with
      | ok o st3 =>
        rw [hb2] at p2
        cases o with
        | nx ρ3 => exact fun σ3 η3 H3 s3 k3 en3 => ⟨η3, ρ3, st3, (s1.trans s2).trans s3, k3, en3, PostS.step s3 p2⟩
        | ct ρ3 => exact fun σ3 η3 H3 s3 k3 en3 => ⟨η3, ρ3, st3, (s1.trans s2).trans s3, k3, en3, PostS.step s3 p2⟩
        | bk ρ3 => exact p2
        | rt d => exact p2
      | exc x ρ3 st3 => rw [hb2] at p2; exact p2
      | bad => rw [hb2] at p2; exact p2
  · have e : i = xs.length := by omega
    subst e
    rw [List.drop_length] at p1
    exact .inl ⟨stop (Nat.le_refl _), p1.nx k1 en1⟩⟩
/-! ### while -/
def whileD (t : EvT) (body : EvS) : Nat → EvS
  | 0, _, _ => .bad
  | n + 1, ρ, st => (t ρ st).into ρ fun b st1 => match b with
    | false => .ok (.nx ρ) st1
    | true => (match body ρ st1 with
      | .ok (.nx ρ2) st2 => whileD t body n ρ2 st2
      | .ok (.ct ρ2) st2 => whileD t body n ρ2 st2
      | .ok (.bk ρ2) st2 => .ok (.nx ρ2) st2
      | r => r)
theorem SS.while_ (n : Nat) (hp : PassesOwn (model X.prog X.w) X.A X.env X.xe) (hc : ST X C c ft) (hb : SB X C body g) : SS X C (.While c body [] pos) (whileD ft g n) := ⟨fun W tk => PS_imp (ps_while hp (hc.run W tk) (hb.run W tk)) fun D σ H ⟨η, ρ, st, k, en, p⟩ => by
  refine ⟨fun m σ H => ∃ η ρ st, StOk C η st H ∧ EnvOk C η H ρ σ ∧ PostS C W η H (whileD ft g m ρ st) D, ⟨n, η, ρ, st, k, en, p⟩, ?_⟩
  rintro m σ1 H1 ⟨η1, ρ1, st1, k1, en1, p1⟩
  cases m with
  | zero => exact p1.elim
  | succ m =>
    unfold whileD at p1
    refine ⟨η1, ρ1, st1, k1, en1, PostS.into (R := fun _ _ a b => a = b) (r := ft ρ1 st1) p1 en1 fun b st2 v η2 H2 _ s2 k2 r2 p2 => ?_⟩
    subst r2
    have en2 := en1.mono s2
    cases b with
    | false => exact iteF (p2.nx k2 en2)
    | true =>
      refine iteT ⟨fun σ' H' => ∃ η ρ st, StOk C η st H' ∧ EnvOk C η H' ρ σ' ∧ PostS C W η H' (whileD ft g m ρ st) D, fun σ' H' z => ⟨m, Nat.lt_succ_self m, z⟩, η2, ρ1, st2, k2, en2, ?_⟩
      cases hb2 : g ρ1 st2 with
      | ok o st3 =>
        rw [hb2] at p2
        cases o with
        | nx ρ3 => exact fun σ3 η3 H3 s3 k3 en3 => ⟨η3, ρ3, st3, k3, en3, PostS.step s3 p2⟩
        | ct ρ3 => exact fun σ3 η3 H3 s3 k3 en3 => ⟨η3, ρ3, st3, k3, en3, PostS.step s3 p2⟩
        | bk ρ3 => exact p2
        | rt d => exact p2
      | exc x ρ3 st3 => rw [hb2] at p2; exact p2
      | bad => rw [hb2] at p2; exact p2⟩
/-! ### list comprehensions -/
/-- the slots of a block's own names forgotten -/
def wipeD (ρ : Env) : List Nat → Env
  | [] => ρ
  | v :: vs => (wipeD ρ vs).set v none
theorem EnvOk.wipe {η : List Addr} {H : Hp} {ρ : Env} {σ : L2.St} (e : EnvOk C η H ρ σ) : ∀ vs : List Nat, EnvOk C η H (wipeD ρ vs) (L2.wipe σ vs)
  | [] => e
  | v :: vs => by
    have h := EnvOk.wipe e vs
    refine ⟨by simp [wipeD, L2.wipe, h.len], fun j x q => ?_⟩
    unfold wipeD at q
    unfold L2.wipe
    by_cases hj : j = v
    · subst hj
      have hl : j < (wipeD ρ vs).length := by simpa using (List.getElem?_eq_some_iff.mp q).1
      rw [List.getElem?_set_self hl] at q
      cases q
    · rw [List.getElem?_set_ne (Ne.symm hj)] at q
      obtain ⟨w, e1, r⟩ := h.ok j x q
      exact ⟨w, by rw [List.getElem?_set_ne (Ne.symm hj)]; exact e1, r⟩
/-- the turns: no exception may leave a block -/
def lcD (g : EvG) (t : EvT) (f : Ev) (ρ : Env) : List D → List D → Sto → Res (List D)
  | [], acc, st => .ok acc st
  | x :: xs, acc, st => match g x ρ with
    | none => .bad
    | some ρ1 => (match t ρ1 st with
      | .ok true st1 => (match f ρ1 st1 with
        | .ok d st2 => if big (acc.length + 1) then lcD g t f ρ xs (acc ++ [d]) st2 else .bad
        | _ => .bad)
      | .ok false st1 => lcD g t f ρ xs acc st1
      | _ => .bad)
def cLc (fi : EvI) (g : EvG) (t : EvT) (f : Ev) (vs : List Nat) : Ev := fun ρ st => (fi ρ st).bind fun xs st1 => (lcD g t f (wipeD ρ vs) xs [] st1).bind fun ds st2 => .ok (.lst ds) st2
def cLcN (fi : EvI) (g : EvG) (t : EvT) (f : Ev) (vs : List Nat) : Ev := fun ρ st => (fi ρ st).bind fun xs st1 => (lcD g t f (wipeD ρ vs) xs [] st1).bind fun ds st2 => .ok (.ref st2.length) (st2 ++ [.lst ds])
def tYesD : EvT := fun _ st => .ok true st
/-- a block's tests -/
structure STs (X : Cx) (C : Cfg) (ifs : List Expr) (t : EvT) : Prop where
  run : ∀ W, Takes X W → PTs X ifs (tT C W t)
theorem PTs_imp {X : Cx} {ifs : List Expr} {t t' : TT} (h : PTs X ifs t) (i : ∀ σ H Q, t' σ H Q → t σ H Q) : PTs X ifs t' := ⟨fun pins s σ H Q I q => h.run pins s σ H Q I (i σ H Q q)⟩
theorem STs.nil : STs X C [] tYesD := ⟨fun W tk => PTs_imp pts_nil fun σ H Q ⟨η, ρ, st, k, en, p⟩ => p.ret k rfl⟩
theorem STs.one (h : ST X C c ft) : STs X C [c] ft := ⟨fun W tk => pts_one (h.run W tk)⟩
/-- nothing is let out -/
abbrev W0 : WX := fun _ _ _ _ => False
theorem wipe_get (σ : L2.St) (j : Nat) : ∀ vs : List Nat, (L2.wipe σ vs)[j]? = if j ∈ vs ∧ j < σ.length then some none else σ[j]?
  | [] => by simp [L2.wipe]
  | v :: vs => by
    unfold L2.wipe
    by_cases hj : j = v
    · subst hj
      by_cases hl : j < σ.length
      · rw [List.getElem?_set_self (by rw [wipe_length]; exact hl), if_pos ⟨List.mem_cons_self, hl⟩]
      · rw [if_neg (fun z => hl z.2), List.getElem?_eq_none (by simp [wipe_length]; omega), List.getElem?_eq_none (by omega)]
    · rw [List.getElem?_set_ne (Ne.symm hj), wipe_get σ j vs]
      simp [hj]
theorem wipe_but {vs : List Nat} {σ σ2 : L2.St} (h : But vs (L2.wipe σ vs) σ2) : L2.wipe σ2 vs = L2.wipe σ vs := by
  obtain ⟨h1, h2⟩ := h
  rw [wipe_length] at h1
  refine List.ext_getElem? fun j => ?_
  rw [wipe_get, wipe_get, h1]
  by_cases hj : j ∈ vs ∧ j < σ.length
  · rw [if_pos hj, if_pos hj]
  · rw [if_neg hj, if_neg hj]
    by_cases hm : j ∈ vs
    · have hl : σ.length ≤ j := Nat.not_lt.mp fun z => hj ⟨hm, z⟩
      rw [List.getElem?_eq_none (by omega), List.getElem?_eq_none hl]
    · rw [h2 j hm, wipe_get, if_neg hj]
end
section
variable {C C' : Cfg} {η : List Addr} {H H' : Hp} {st : Sto} {a : Addr}
/-- what is being made has changed -/
def Rest (C : Cfg) (H H' : Hp) : Prop := ∀ a u, a ∉ C.hot → H a = some u → H' a = some u
theorem TupAt.rest {vs : List V} (l : Rest C H H') (h : TupAt C η H a vs) : TupAt C η H' a vs := by
  rcases h with ⟨n, m, h | ⟨o, h⟩⟩ | h
  · exact .inl ⟨n, m, .inl (l a _ m h)⟩
  · exact .inl ⟨n, m, .inr ⟨o, l a _ m h⟩⟩
  · exact .inr h
theorem LstAt.rest {vs : List V} (l : Rest C H H') (h : LstAt C η H a vs) : LstAt C η H' a vs := by
  rcases h with ⟨n, m, h | ⟨o, h⟩⟩ | h
  · exact .inl ⟨n, m, .inl (l a _ m h)⟩
  · exact .inl ⟨n, m, .inr ⟨o, l a _ m h⟩⟩
  · exact .inr h
mutual
theorem Rep.rest (l : Rest C H H') : ∀ {d : D} {v : V}, Rep C η H d v → Rep C η H' d v
  | .non, _, h => h
  | .bl _, _, h => h
  | .int _, _, h => h
  | .str _, _, h => h
  | .ty _, _, h => h
  | .glo _, _, h => h
  | .ref _, _, h => h
  | .tup ds, _, h => by
    rw [Rep] at h ⊢
    obtain ⟨a, vs, e, t, r⟩ := h
    exact ⟨a, vs, e, t.rest l, RepL.rest l r⟩
  | .lst ds, _, h => by
    rw [Rep] at h ⊢
    obtain ⟨a, vs, e, t, r⟩ := h
    exact ⟨a, vs, e, t.rest l, RepL.rest l r⟩
theorem RepL.rest (l : Rest C H H') : ∀ {ds : List D} {vs : List V}, RepL C η H ds vs → RepL C η H' ds vs
  | [], _, h => h
  | d :: ds, _, h => by
    rw [RepL] at h ⊢
    obtain ⟨v, r, e, h1, h2⟩ := h
    exact ⟨v, r, e, Rep.rest l h1, RepL.rest l h2⟩
end
theorem SOk.rest {o : SO} (l : Rest C H H') (e : H' a = H a) (h : SOk C η H a o) : SOk C η H' a o := by
  cases o with
  | lst ds =>
    obtain ⟨vs, q, r⟩ := h
    exact ⟨vs, e.trans q, r.rest l⟩
/-- the thing at p is being made -/
theorem rest_upd {p : Addr} {o : HO} (h : p ∈ C.hot) : Rest C H (upd H p o) := fun a u n e => by
  have ne : a ≠ p := fun z => n (by rw [z]; exact h)
  rw [upd_ne ne]
  exact e
theorem StOk.rest {p : Addr} {o : HO} (k : StOk C η st H) (h : p ∈ C.hot) (n : p ∉ η) : StOk C η st (upd H p o) :=
  ⟨k.len, k.nd, fun m a x h1 h2 => (k.ok m a x h1 h2).rest (rest_upd h) (upd_ne fun z => n (z ▸ List.mem_of_getElem? h1)), fun b hb z => by
    by_cases e : b = p
    · subst e
      rw [upd_same] at z
      cases z
    · rw [upd_ne e] at z
      exact k.hot b hb z⟩
/-- made, it joins the store -/
theorem TupAt.join {vs : List V} {p : Addr} (hp : p ∈ C.hot) (l : Like C C' H) (h : TupAt C η H a vs) : TupAt C' (η ++ [p]) H a vs := by
  rcases h with ⟨n, m, h⟩ | h
  · have q := TupAt.conv l (.inl ⟨n, m, h⟩ : TupAt C η H a vs)
    have np : a ∉ η ++ [p] := fun z => by
      rcases List.mem_append.mp z with z | z
      · exact n z
      · rw [List.mem_singleton] at z
        exact m (z ▸ hp)
    rcases q with ⟨_, m2, h2⟩ | q
    · exact .inl ⟨np, m2, h2⟩
    · exact .inr q
  · exact .inr (l.k ▸ h)
theorem LstAt.join {vs : List V} {p : Addr} (hp : p ∈ C.hot) (l : Like C C' H) (h : LstAt C η H a vs) : LstAt C' (η ++ [p]) H a vs := by
  rcases h with ⟨n, m, h⟩ | h
  · have q := LstAt.conv l (.inl ⟨n, m, h⟩ : LstAt C η H a vs)
    have np : a ∉ η ++ [p] := fun z => by
      rcases List.mem_append.mp z with z | z
      · exact n z
      · rw [List.mem_singleton] at z
        exact m (z ▸ hp)
    rcases q with ⟨_, m2, h2⟩ | q
    · exact .inl ⟨np, m2, h2⟩
    · exact .inr q
  · exact .inr (l.k ▸ h)
mutual
theorem Rep.join {p : Addr} (hp : p ∈ C.hot) (l : Like C C' H) : ∀ {d : D} {v : V}, Rep C η H d v → Rep C' (η ++ [p]) H d v
  | .non, _, h => h
  | .bl _, _, h => h
  | .int _, _, h => h
  | .str _, _, h => h
  | .ty _, _, h => h
  | .glo _, _, h => by
    rw [Rep] at h ⊢
    rw [← l.g]
    exact h
  | .ref n, _, h => by
    rw [Rep] at h ⊢
    obtain ⟨a, e, r⟩ := h
    exact ⟨a, by rw [List.getElem?_append_left (List.getElem?_eq_some_iff.mp e).1]; exact e, r⟩
  | .tup ds, _, h => by
    rw [Rep] at h ⊢
    obtain ⟨a, vs, e, t, r⟩ := h
    exact ⟨a, vs, e, t.join hp l, RepL.join hp l r⟩
  | .lst ds, _, h => by
    rw [Rep] at h ⊢
    obtain ⟨a, vs, e, t, r⟩ := h
    exact ⟨a, vs, e, t.join hp l, RepL.join hp l r⟩
theorem RepL.join {p : Addr} (hp : p ∈ C.hot) (l : Like C C' H) : ∀ {ds : List D} {vs : List V}, RepL C η H ds vs → RepL C' (η ++ [p]) H ds vs
  | [], _, h => h
  | d :: ds, _, h => by
    rw [RepL] at h ⊢
    obtain ⟨v, r, e, h1, h2⟩ := h
    exact ⟨v, r, e, Rep.join hp l h1, RepL.join hp l h2⟩
end
theorem SOk.join {o : SO} {p : Addr} (hp : p ∈ C.hot) (l : Like C C' H) (h : SOk C η H a o) : SOk C' (η ++ [p]) H a o := by
  cases o with
  | lst ds =>
    obtain ⟨vs, q, r⟩ := h
    exact ⟨vs, q, r.join hp l⟩
/-- cooler -/
theorem Like.less (k : C.K = C'.K) (g : C.gl = C'.gl) (h : ∀ a, a ∈ C'.hot → a ∈ C.hot) : Like C C' H := ⟨k, g, fun a b c => absurd (h a b) c⟩
theorem StOk.conv (l : Like C C' H) (k : StOk C η st H) (h : ∀ a ∈ C'.hot, H a ≠ none) : StOk C' η st H := ⟨k.len, k.nd, fun n a o h1 h2 => (k.ok n a o h1 h2).conv l, h⟩
/-- a thing begins to be made -/
theorem StOk.begin {p : Addr} {o : HO} (k : StOk C η st H) (hp : H p = none) : StOk ⟨C.K, C.gl, p :: C.hot⟩ η st (upd H p o) := by
  have l : Like C ⟨C.K, C.gl, p :: C.hot⟩ H := ⟨rfl, rfl, fun a b c => by
    rcases List.mem_cons.mp b with rfl | b
    · exact hp
    · exact absurd b c⟩
  refine ⟨k.len, k.nd, fun n a x h1 h2 => ((k.ok n a x h1 h2).conv l).mono (Step.new hp) ?_, fun b hb z => ?_⟩
  · obtain ⟨u, e⟩ := k.there (List.mem_of_getElem? h1)
    rw [upd_ne (ne_of_none e hp)]
  · by_cases e : b = p
    · subst e
      rw [upd_same] at z
      cases z
    · rw [upd_ne e] at z
      rcases List.mem_cons.mp hb with w | w
      · exact e w
      · exact k.hot b w z
end
section
variable {X : Cx} {C : Cfg} {c e tg iter elt : Expr} {ifs : List Expr} {f : Ev} {ft : EvT} {fi : EvI} {gt : EvG} {pos pos' : Pos} {scope : Scope} {own : List (Str × Nat)} {vs o1 : List Nat}
/-- in some heat -/
def tEx (C : Cfg) (f : Ev) : TE := fun σ H Q => ∃ hot, tE ⟨C.K, C.gl, hot⟩ W0 f σ H Q
def tTx (C : Cfg) (t : EvT) : TT := fun σ H Q => ∃ hot, tT ⟨C.K, C.gl, hot⟩ W0 t σ H Q
def tGx (C : Cfg) (g : EvG) (own : List Nat) : TG := fun v σ H Q => ∃ hot, tG ⟨C.K, C.gl, hot⟩ g own v σ H Q
theorem lc_imp (fin : List D → Sto → Res D) {W : WX} {σ : L2.St} {H : Hp} {Q : VK} (ho : ∀ i ∈ o1, i ∈ vs)
    (hfin : ∀ (η1 η2 : List Addr) (H1 H2 : Hp) (ds : List D) (st2 : Sto) (us : List V) (p : Addr), H1 p = none → Step η1 H1 η2 H2 → StOk ⟨C.K, C.gl, p :: C.hot⟩ η2 st2 H2 → H2 p = some (.lst us) → p ∉ η2 → p ∉ C.hot → RepL ⟨C.K, C.gl, p :: C.hot⟩ η2 H2 ds us → Post C W σ (Rep C) η1 H1 (fin ds st2) Q → Q (.ref p) H2)
    (h : tE C W (fun ρ st => (fi ρ st).bind fun xs st1 => (lcD gt ft f (wipeD ρ vs) xs [] st1).bind fin) σ H Q) : tLc (tIt C W fi) (tGx C gt o1) (tTx C ft) (tEx C f) vs σ H Q := by
  obtain ⟨η, ρ, st, k, en, p⟩ := h
  refine ⟨η, ρ, st, k, en, Post.bind (R := ItemsOk C) (r := fi ρ st) p fun xs st1 J η1 H1 _ s1 k1 items p1 D hD => ?_⟩
  have enw := (en.mono s1).wipe vs
  generalize wipeD ρ vs = ρw at enw p1
  have nhot : D ∉ C.hot := fun m => k1.hot D m hD
  have lk : Like C ⟨C.K, C.gl, D :: C.hot⟩ H1 := ⟨rfl, rfl, fun a b c => by
    rcases List.mem_cons.mp b with rfl | b
    · exact hD
    · exact absurd b c⟩
  have neD : ∀ {a : Addr} {u : HO}, H1 a = some u → a ≠ D := fun e z => by rw [z, hD] at e; cases e
  generalize hr : lcD gt ft f ρw xs [] st1 = r at p1
  refine ⟨fun i m H' => m = xs.length - i ∧ i ≤ xs.length ∧ ∃ η2 acc us st2, Step η1 H1 η2 H' ∧ StOk ⟨C.K, C.gl, D :: C.hot⟩ η2 st2 H' ∧ H' D = some (.lst us) ∧ D ∉ η2 ∧ RepL ⟨C.K, C.gl, D :: C.hot⟩ η2 H' acc us ∧ r = lcD gt ft f ρw (xs.drop i) acc st2, ⟨_, rfl, Nat.zero_le _, η1, [], [], st1, Step.new hD, k1.begin hD, upd_same, new_out k1 hD, RepL.nil, hr.symm⟩, ?_⟩
  rintro i m H' ⟨rfl, hi, η2, acc, us, st2, s2, k2, hDu, nD, ra, hr2⟩
  obtain ⟨it, stop⟩ := items _ η2 H' st2 i lk s2 k2
  by_cases hl : i < xs.length
  · have hx : xs[i]? = some xs[i] := List.getElem?_eq_getElem hl
    obtain ⟨go, yl⟩ := it _ hx
    rw [List.drop_eq_getElem_cons hl] at hr2
    unfold lcD at hr2
    refine .inr ⟨go, fun H'' => ∃ η2 acc us st2, Step η1 H1 η2 H'' ∧ StOk ⟨C.K, C.gl, D :: C.hot⟩ η2 st2 H'' ∧ H'' D = some (.lst us) ∧ D ∉ η2 ∧ RepL ⟨C.K, C.gl, D :: C.hot⟩ η2 H'' acc us ∧ r = lcD gt ft f ρw (xs.drop (i + 1)) acc st2, fun H'' n => ⟨xs.length - (i + 1), by omega, rfl, hl, n⟩, fun v H3 y => ?_⟩
    obtain ⟨s3, k3, r3⟩ := yl v H3 y
    cases hg : gt xs[i] ρw with
    | none => rw [hg] at hr2; dsimp only at hr2; rw [hr2] at p1; exact p1.elim
    | some ρ2 =>
      rw [hg] at hr2
      dsimp only at hr2
      have en3 := (enw.conv lk).mono (s2.trans s3)
      refine ⟨D :: C.hot, η2, ρw, _, ρ2, en3, r3, hg, fun σ2 en4 but => ⟨wipe_but ⟨but.1, fun j hj => but.2 j fun z => hj (ho j z)⟩, D :: C.hot, η2, ρ2, st2, k3, en4, ?_⟩⟩
      cases ht : ft ρ2 st2 with
      | ok b st3 =>
        intro b' η5 H5 s5 k5 eb
        subst eb
        rw [ht] at hr2
        cases b with
        | false =>
          dsimp only at hr2
          refine iteF ⟨η5, acc, us, st3, (s2.trans s3).trans s5, k5, s5.keep _ _ (s3.keep _ _ hDu nD) nD, ?_, (ra.mono (s3.trans s5)), hr2⟩
          exact s5.nin (s3.keep _ _ hDu nD) nD
        | true =>
          dsimp only at hr2
          refine iteT ⟨D :: C.hot, η5, ρ2, st3, k5, en4.mono s5, ?_⟩
          cases hf : f ρ2 st3 with
          | ok d st4 =>
            intro u η6 H6 s6 k6 ru
            rw [hf] at hr2
            dsimp only at hr2
            have hD5 := s5.keep _ _ (s3.keep _ _ hDu nD) nD
            have n5 := s5.nin (s3.keep _ _ hDu nD) nD
            have hD6 := s6.keep _ _ hD5 n5
            have n6 := s6.nin hD5 n5
            have ra6 := ra.mono ((s3.trans s5).trans s6)
            by_cases hb : big (acc.length + 1) = true
            · rw [if_pos hb] at hr2
              have hot : D ∈ (⟨C.K, C.gl, D :: C.hot⟩ : Cfg).hot := List.mem_cons_self
              have s16 := ((s2.trans s3).trans s5).trans s6
              refine ⟨us, hD6, by rw [← ra6.length]; exact big_lt hb, η6, acc ++ [d], us ++ [u], st4, ⟨s16.ext, fun a o e n => ?_, fun a e => ?_⟩, k6.rest hot n6, upd_same, n6, (ra6.rest (rest_upd hot)).append (RepL.one (ru.rest (rest_upd hot))), hr2⟩
              · rw [upd_ne (neD e)]
                exact s16.keep a o e n
              · by_cases ea : a = D
                · rw [ea]; exact hD
                · rw [upd_ne ea] at e
                  exact s16.dom a e
            · rw [if_neg hb] at hr2
              rw [hr2] at p1
              exact p1.elim
          | exc x st4 => rw [hf] at hr2; dsimp only at hr2; rw [hr2] at p1; exact p1.elim
          | bad => rw [hf] at hr2; dsimp only at hr2; rw [hr2] at p1; exact p1.elim
      | exc x st3 => rw [ht] at hr2; dsimp only at hr2; rw [hr2] at p1; exact p1.elim
      | bad => rw [ht] at hr2; dsimp only at hr2; rw [hr2] at p1; exact p1.elim
  · have e : i = xs.length := by omega
    subst e
    rw [List.drop_length] at hr2
    unfold lcD at hr2
    rw [hr2] at p1
    exact .inl ⟨stop (Nat.le_refl _), hfin η1 η2 H1 H' acc st2 us D hD s2 k2 hDu nD nhot ra p1⟩
theorem fin_lst {W : WX} {σ : L2.St} {Q : VK} (η1 η2 : List Addr) (H1 H2 : Hp) (ds : List D) (st2 : Sto) (us : List V) (p : Addr) (hp : H1 p = none) (s : Step η1 H1 η2 H2) (k : StOk ⟨C.K, C.gl, p :: C.hot⟩ η2 st2 H2) (e : H2 p = some (.lst us)) (n : p ∉ η2) (m : p ∉ C.hot)
    (r : RepL ⟨C.K, C.gl, p :: C.hot⟩ η2 H2 ds us) (h : Post C W σ (Rep C) η1 H1 (.ok (.lst ds) st2) Q) : Q (.ref p) H2 := by
  have l : Like ⟨C.K, C.gl, p :: C.hot⟩ C H2 := Like.less rfl rfl fun a b => List.mem_cons_of_mem _ b
  refine h.at_ s (k.conv l fun a ha => k.hot a (List.mem_cons_of_mem _ ha)) ?_
  rw [Rep]
  exact ⟨p, us, rfl, .inl ⟨n, m, .inl e⟩, r.conv l⟩
theorem fin_new {W : WX} {σ : L2.St} {Q : VK} (η1 η2 : List Addr) (H1 H2 : Hp) (ds : List D) (st2 : Sto) (us : List V) (p : Addr) (hp : H1 p = none) (s : Step η1 H1 η2 H2) (k : StOk ⟨C.K, C.gl, p :: C.hot⟩ η2 st2 H2) (e : H2 p = some (.lst us)) (n : p ∉ η2) (m : p ∉ C.hot)
    (r : RepL ⟨C.K, C.gl, p :: C.hot⟩ η2 H2 ds us) (h : Post C W σ (Rep C) η1 H1 (.ok (.ref st2.length) (st2 ++ [.lst ds])) Q) : Q (.ref p) H2 := by
  have l : Like ⟨C.K, C.gl, p :: C.hot⟩ C H2 := Like.less rfl rfl fun a b => List.mem_cons_of_mem _ b
  have hot : p ∈ (⟨C.K, C.gl, p :: C.hot⟩ : Cfg).hot := List.mem_cons_self
  refine h (.ref p) (η2 ++ [p]) H2 ⟨?_, s.keep, s.dom⟩ ⟨by simp [k.len], ?_, fun i a x h1 h2 => ?_, fun a ha => k.hot a (List.mem_cons_of_mem _ ha)⟩ ?_
  · obtain ⟨t, rfl, ht⟩ := s.ext
    refine ⟨t ++ [p], by simp, fun q hq => ?_⟩
    rcases List.mem_append.mp hq with z | z
    · exact ht q z
    · rw [List.mem_singleton] at z
      rw [z]
      exact hp
  · rw [List.nodup_append]
    exact ⟨k.nd, by simp, fun a ha b hb => by
      rw [List.mem_singleton] at hb
      rw [hb]
      exact fun z => n (z ▸ ha)⟩
  · by_cases hi : i < η2.length
    · rw [List.getElem?_append_left hi] at h1
      rw [List.getElem?_append_left (by rw [← k.len]; exact hi)] at h2
      exact (k.ok i a x h1 h2).join hot l
    · have hl : i < (η2 ++ [p]).length := (List.getElem?_eq_some_iff.mp h1).1
      have ei : i = η2.length := by
        simp at hl
        omega
      subst ei
      have e1 : p = a := by simpa using h1
      have e2 : SO.lst ds = x := by
        rw [k.len] at h2
        simpa using h2
      subst e1 e2
      exact ⟨us, e, r.join hot l⟩
  · rw [Rep]
    exact ⟨p, by rw [← k.len]; simp, rfl⟩
abbrev BX (X : Cx) (scope : Scope) (s : Shared) (H : Hp) (A : Addr) (cl : List (Str × Addr)) (fp : List Addr) : Cx := X.blk s H scope (compEnvC scope cl A X.env) fp
theorem blk_e {X : Cx} (h : ∀ hot, SE X ⟨C.K, C.gl, hot⟩ e f) : PE X e (tEx C f) := ⟨fun pins s σ H Q I ⟨hot, q⟩ => ((h hot).run W0 takes0).run pins s σ H Q I q⟩
theorem blk_t {X : Cx} (h : ∀ hot, STs X ⟨C.K, C.gl, hot⟩ ifs ft) : PTs X ifs (tTx C ft) := ⟨fun pins s σ H Q I ⟨hot, q⟩ => ((h hot).run W0 takes0).run pins s σ H Q I q⟩
theorem blk_g {X : Cx} (h : ∀ hot, SG X ⟨C.K, C.gl, hot⟩ e gt o1) : PG X e (tGx C gt o1) := ⟨fun pins s σ H v u Q I r ⟨hot, q⟩ => (h hot).run.run pins s σ H v u Q I r q⟩
theorem SE.lc (hc : X.calm = true) (hN : X.N.Nodup) (hi : SI X C tg iter fi) (ok : BlkOk X.N X.env.scope scope own) (ho : ∀ i ∈ o1, i ∈ own.map (·.2))
    (hg : ∀ s H A cl fp hot, SG (BX X scope s H A cl fp) ⟨C.K, C.gl, hot⟩ tg gt o1) (ht : ∀ s H A cl fp hot, STs (BX X scope s H A cl fp) ⟨C.K, C.gl, hot⟩ ifs ft) (he : ∀ s H A cl fp hot, SE (BX X scope s H A cl fp) ⟨C.K, C.gl, hot⟩ elt f)
    (hs : ∀ x, foldedSetIterable iter X.env x = pure x := by intro _; rfl) : SE X C (.ListComp elt [⟨tg, iter, ifs, 0⟩] scope pos) (cLc fi gt ft f (own.map (·.2))) :=
  ⟨fun W tk => PE_imp (pe_lc hc hN (hi.run W tk) ok (fun s H A cl fp => blk_g (hg s H A cl fp)) (fun s H A cl fp => blk_t (ht s H A cl fp)) (fun s H A cl fp => blk_e (he s H A cl fp)) hs) fun σ H Q h => lc_imp _ ho fin_lst h⟩
theorem SE.lcN (hc : X.calm = true) (hN : X.N.Nodup) (hi : SI X C tg iter fi) (ok : BlkOk X.N X.env.scope scope own) (ho : ∀ i ∈ o1, i ∈ own.map (·.2))
    (hg : ∀ s H A cl fp hot, SG (BX X scope s H A cl fp) ⟨C.K, C.gl, hot⟩ tg gt o1) (ht : ∀ s H A cl fp hot, STs (BX X scope s H A cl fp) ⟨C.K, C.gl, hot⟩ ifs ft) (he : ∀ s H A cl fp hot, SE (BX X scope s H A cl fp) ⟨C.K, C.gl, hot⟩ elt f)
    (hs : ∀ x, foldedSetIterable iter X.env x = pure x := by intro _; rfl) : SE X C (.ListComp elt [⟨tg, iter, ifs, 0⟩] scope pos) (cLcN fi gt ft f (own.map (·.2))) :=
  ⟨fun W tk => PE_imp (pe_lc hc hN (hi.run W tk) ok (fun s H A cl fp => blk_g (hg s H A cl fp)) (fun s H A cl fp => blk_t (ht s H A cl fp)) (fun s H A cl fp => blk_e (he s H A cl fp)) hs) fun σ H Q h => lc_imp _ ho fin_new h⟩
/-- name = [..] -/
theorem SS.setLc (i : Nat) {y : Str} {py spos : Pos} (hc : X.calm = true) (hN : X.N.Nodup) (hi : SI X C tg iter fi) (ok : BlkOk X.N X.env.scope scope own) (ho : ∀ i ∈ o1, i ∈ own.map (·.2))
    (hg : ∀ s H A cl fp hot, SG (BX X scope s H A cl fp) ⟨C.K, C.gl, hot⟩ tg gt o1) (ht : ∀ s H A cl fp hot, STs (BX X scope s H A cl fp) ⟨C.K, C.gl, hot⟩ ifs ft) (he : ∀ s H A cl fp hot, SE (BX X scope s H A cl fp) ⟨C.K, C.gl, hot⟩ elt f)
    (hsw : swapsWith (.ListComp elt [⟨tg, iter, ifs, 0⟩] scope pos) (some (.Name y py)) spos.line X.env = pure true) (hy : X.N[i]? = some y := by rfl) (hyl : X.env.scope.names.lookup y = some .local := by rfl)
    (hs : ∀ x, foldedSetIterable iter X.env x = pure x := by intro _; rfl) : SS X C (.Assign [.Name y py] (.ListComp elt [⟨tg, iter, ifs, 0⟩] scope pos) spos) (sSet i (cLc fi gt ft f (own.map (·.2)))) :=
  ⟨fun W tk => PS_imp (ps_setLc hc hN hy hyl hsw (hi.run W tk) ok (fun s H A cl fp => blk_g (hg s H A cl fp)) (fun s H A cl fp => blk_t (ht s H A cl fp)) (fun s H A cl fp => blk_e (he s H A cl fp)) hs) fun D σ H p => by
    have q := set_imp p
    exact lc_imp _ ho fin_lst q⟩
theorem SS.setLcN (i : Nat) {y : Str} {py spos : Pos} (hc : X.calm = true) (hN : X.N.Nodup) (hi : SI X C tg iter fi) (ok : BlkOk X.N X.env.scope scope own) (ho : ∀ i ∈ o1, i ∈ own.map (·.2))
    (hg : ∀ s H A cl fp hot, SG (BX X scope s H A cl fp) ⟨C.K, C.gl, hot⟩ tg gt o1) (ht : ∀ s H A cl fp hot, STs (BX X scope s H A cl fp) ⟨C.K, C.gl, hot⟩ ifs ft) (he : ∀ s H A cl fp hot, SE (BX X scope s H A cl fp) ⟨C.K, C.gl, hot⟩ elt f)
    (hsw : swapsWith (.ListComp elt [⟨tg, iter, ifs, 0⟩] scope pos) (some (.Name y py)) spos.line X.env = pure true) (hy : X.N[i]? = some y := by rfl) (hyl : X.env.scope.names.lookup y = some .local := by rfl)
    (hs : ∀ x, foldedSetIterable iter X.env x = pure x := by intro _; rfl) : SS X C (.Assign [.Name y py] (.ListComp elt [⟨tg, iter, ifs, 0⟩] scope pos) spos) (sSet i (cLcN fi gt ft f (own.map (·.2)))) :=
  ⟨fun W tk => PS_imp (ps_setLc hc hN hy hyl hsw (hi.run W tk) ok (fun s H A cl fp => blk_g (hg s H A cl fp)) (fun s H A cl fp => blk_t (ht s H A cl fp)) (fun s H A cl fp => blk_e (he s H A cl fp)) hs) fun D σ H p => by
    have q := set_imp p
    exact lc_imp _ ho fin_new q⟩
end
end G

set_option Elab.async false
set_option linter.all false
set_option maxRecDepth 100000
set_option maxHeartbeats 4000000
/-! Defs, their calls, the law's end. -/
namespace G
open PySem PySem.Spec PyProof.Rows L2

/-- what a def promises: g's results -/
def spD (K : PySem.W.Frag) (gl : Nat → Option Addr) (g : Fn) (n : Nat) : Sp := fun vs H Q E => ∃ hot η st ds, StOk ⟨K, gl, hot⟩ η st H ∧ RepL ⟨K, gl, hot⟩ η H ds vs ∧ vs.length = n ∧ Post ⟨K, gl, hot⟩ (fun c d _ H' => E c d H') [] (Rep ⟨K, gl, hot⟩) η H (g ds st) Q
/-- the def at f keeps it, where no repr is going on -/
structure FnG (P : Program) (w : World) (K : PySem.W.Frag) (mg : Str → Option Value) (base : Heap) (gl : Nat → Option Addr) (k : Nat) (f : Addr) (fd : FuncData) (ps : List Str) (g : Fn) : Prop where
  run : ∀ (A : Around) (outer : List PySem.Env) (s : Shared) (H : Hp) (args : Args) (us : List Value) (vs : List V) (Q : VK) (E : XK), Room k A → A.guards = some [] → Env0 P w K mg base A outer s H → BindsTo s fd args (ps.zip us) → Vals vs us → spD K gl g ps.length vs H Q E →
    codeAny (model P w) A (.call (.ref f) args) (CR (L2.CX P w) outer P w H s Q E) s
/-- a body's end -/
def RS.fin (r : RS) : Res D := match r with
  | .ok (.nx _) st => .ok .non st
  | .ok (.rt d) st => .ok d st
  | .exc x _ st => .exc x st
  | _ => .bad
def fnD (n : Nat) (body : EvS) : Fn := fun ds st => (body (ds.map some ++ List.replicate (n - ds.length) none) st).fin
section
variable {P : Program} {w : World} {K : PySem.W.Frag} {mg : Str → Option Value} {base : Heap} {gl : Nat → Option Addr}
theorem env_start {C : Cfg} {η : List Addr} {H : Hp} {N : List Str} {ds : List D} {vs : List V} (r : RepL C η H ds vs) : EnvOk C η H (ds.map some ++ List.replicate (N.length - ds.length) none) (L2.start N vs) := by
  have hl := r.length
  unfold L2.start
  refine ⟨by simp [hl], fun i d h => ?_⟩
  by_cases hi : i < ds.length
  · rw [List.getElem?_append_left (by simpa using hi), List.getElem?_map] at h
    cases e : ds[i]? with
    | none => rw [e] at h; cases h
    | some x =>
      rw [e] at h
      cases h
      obtain ⟨v, e2, rv⟩ := r.get e
      exact ⟨v, by rw [List.getElem?_append_left (by simp; omega), List.getElem?_map, e2]; rfl, rv⟩
  · rw [List.getElem?_append_right (by simpa using hi)] at h
    have := List.mem_of_getElem? h
    simp at this
theorem FnG.of {x qual : Str} {params : Arguments} {body : List Stmt} {scope : Scope} {dvs : List V} {kws : List (Str × V)} {f : Addr} {fd : FuncData} {N ps : List Str} {k : Nat} {g : EvS} (F : FunD K x qual params body scope dvs kws f fd) (S : FnScope N ps scope)
    (h : ∀ (cdv : Value) (A : Around) (outer : List PySem.Env) (s : Shared) (H : Hp) (E : XK) (hot : List Addr), Room k (A.deeper (envOfC qual scope s.heap.objs.size f cdv)) → (A.deeper (envOfC qual scope s.heap.objs.size f cdv)).guards = some [] →
      SB (cxOf (L2.CX P w) P w K mg base N qual scope f cdv A outer s H E) ⟨K, gl, hot⟩ body g) : FnG P w K mg base gl (k + 1) f fd ps (fnD N.length g) := by
  obtain ⟨oc, od, dV, kV, doc, pm, an, cdv, ct, osl, rfl, lk, hcd, _, _⟩ := F.ex
  refine ⟨fun A outer s H args us vs Q E hr hgd e0 hb r hsp => ?_⟩
  obtain ⟨hot, η, st, ds, kst, rds, hl, post⟩ := hsp
  have old : ∀ b o, base.get? b = some o → s.heap.get? b = some o := fun b o e => (e0.bs b o e).1
  have KX : K.In s.heap := e0.mod.kin.keeps old
  have par : ∀ y ∈ ps.zip us, scope.names.lookup y.1 = some .local ∨ (scope.names.lookup y.1 = some .cell ∧ ((cellsFrom (s.heap.objs.size + 1) scope.names []).lookup y.1).isSome = true) := by
    intro y hy
    obtain ⟨n, v⟩ := y
    have hp := S.par n (List.of_mem_zip hy).1
    exact hp.imp id fun q => ⟨q, PySem.W.cellsFrom_some _ _ _ (.inl q)⟩
  refine codeAny_call_function hr.depth (KX _ _ lk) rfl S.co S.gen rfl (PySem.W.codeRec_of KX hcd) (hb _ _ _ _ ?_)
  refine wpAny_newFunctionEnv_cells S.kind par fun env he s1 x => ?_
  subst he
  refine ⟨(e0.mod.nolimit.keeps old).keeps x.toInCall.keep, codeAny_func ?_⟩
  have I : Inv (cxOf (L2.CX P w) P w K mg base N qual scope f cdv A outer s H E) [] (L2.start N vs) H s1 := inv_start S hr.hd e0 hl r x
  have body' := (h cdv A outer s H E hot (hr.deeper _) hgd).run (fun c d _ H' => E c d H') (takes_of rfl rfl rfl rfl)
  refine wpAny_mono (body'.run [] s1 (L2.start N vs) H { nx := fun _ H' => Q .non H', rt := Q } I ⟨η, _, st, kst, env_start rds, ?_⟩) (fun fl s' hs => ?_) fun e s' hs => hs
  · unfold fnD at post
    cases e : g (ds.map some ++ List.replicate (N.length - ds.length) none) st with
    | ok o st' =>
      rw [e] at post
      cases o with
      | nx ρ => exact fun σ' η' H' s k _ => post .non η' H' s k (by rw [Rep])
      | rt d => exact post
      | bk ρ => exact post.elim
      | ct ρ => exact post.elim
    | exc x ρ st' =>
      rw [e] at post
      exact fun c d σ' η' H' s k _ rx => post c d η' H' s k rx
    | bad => rw [e] at post; exact post.elim
  · cases fl with
    | ret u =>
      obtain ⟨v, σ', H', J, rv, q⟩ := hs
      exact ⟨v, H', J.os, J.bare, J.base, J.hok, rv, q⟩
    | next =>
      obtain ⟨σ', H', J, q⟩ := hs
      exact ⟨V.non, H', J.os, J.bare, J.base, J.hok, rfl, q⟩
    | brk =>
      obtain ⟨_, _, _, q⟩ := hs
      exact q.elim
    | cont =>
      obtain ⟨_, _, _, q⟩ := hs
      exact q.elim
theorem FnG.imp {k : Nat} {f : Addr} {fd : FuncData} {ps : List Str} {g g' : Fn} (F : FnG P w K mg base gl k f fd ps g)
    (h : ∀ (hot : List Addr) (η : List Addr) (st : Sto) (ds : List D) (vs : List V) (H : Hp) (Q : VK) (E : XK), StOk ⟨K, gl, hot⟩ η st H → RepL ⟨K, gl, hot⟩ η H ds vs → vs.length = ps.length → Post ⟨K, gl, hot⟩ (fun c d _ H' => E c d H') [] (Rep ⟨K, gl, hot⟩) η H (g' ds st) Q → Post ⟨K, gl, hot⟩ (fun c d _ H' => E c d H') [] (Rep ⟨K, gl, hot⟩) η H (g ds st) Q) : FnG P w K mg base gl k f fd ps g' :=
  ⟨fun A outer s H args us vs Q E hr hg e0 hb r ⟨hot, η, st, ds, k1, rd, hl, p⟩ => F.run A outer s H args us vs Q E hr hg e0 hb r ⟨hot, η, st, ds, k1, rd, hl, h hot η st ds vs H Q E k1 rd hl p⟩⟩
end

/-! ### what a def has made for itself is forgotten -/
mutual
/-- it names objects of the store below n alone -/
def low (n : Nat) : D → Bool
  | .ref m => Nat.blt m n
  | .tup ds => lows n ds
  | .lst ds => lows n ds
  | _ => true
def lows (n : Nat) : List D → Bool
  | [] => true
  | d :: ds => low n d && lows n ds
end
def lowO (n : Nat) : SO → Bool
  | .lst ds => lows n ds
def Res.leave (n : Nat) (r : Res D) : Res D := match r with
  | .ok d st => if low n d && (st.take n).all (lowO n) then .ok d (st.take n) else .bad
  | .exc x st => if lows n (x.fs.map (·.2)) && (st.take n).all (lowO n) then .exc x (st.take n) else .bad
  | .bad => .bad
def lvD (g : Fn) : Fn := fun ds st => (g ds st).leave st.length
section
variable {C : Cfg} {η t : List Addr} {H : Hp} {st : Sto} {a : Addr}
theorem TupAt.less {vs : List V} (h : TupAt C (η ++ t) H a vs) : TupAt C η H a vs := by
  rcases h with ⟨n, m, h⟩ | h
  · exact .inl ⟨fun z => n (List.mem_append_left _ z), m, h⟩
  · exact .inr h
theorem LstAt.less {vs : List V} (h : LstAt C (η ++ t) H a vs) : LstAt C η H a vs := by
  rcases h with ⟨n, m, h⟩ | h
  · exact .inl ⟨fun z => n (List.mem_append_left _ z), m, h⟩
  · exact .inr h
mutual
theorem Rep.less : ∀ {d : D} {v : V}, low η.length d = true → Rep C (η ++ t) H d v → Rep C η H d v
  | .non, _, _, h => h
  | .bl _, _, _, h => h
  | .int _, _, _, h => h
  | .str _, _, _, h => h
  | .ty _, _, _, h => h
  | .glo _, _, _, h => h
  | .ref n, _, q, h => by
    rw [Rep] at h ⊢
    obtain ⟨a, e, r⟩ := h
    rw [low, Nat.blt_eq] at q
    rw [List.getElem?_append_left q] at e
    exact ⟨a, e, r⟩
  | .tup ds, _, q, h => by
    rw [Rep] at h ⊢
    obtain ⟨a, vs, e, t, r⟩ := h
    exact ⟨a, vs, e, t.less, RepL.less (by rw [low] at q; exact q) r⟩
  | .lst ds, _, q, h => by
    rw [Rep] at h ⊢
    obtain ⟨a, vs, e, t, r⟩ := h
    exact ⟨a, vs, e, t.less, RepL.less (by rw [low] at q; exact q) r⟩
theorem RepL.less : ∀ {ds : List D} {vs : List V}, lows η.length ds = true → RepL C (η ++ t) H ds vs → RepL C η H ds vs
  | [], _, _, h => h
  | d :: ds, _, q, h => by
    rw [RepL] at h ⊢
    rw [lows, Bool.and_eq_true] at q
    obtain ⟨v, r, e, h1, h2⟩ := h
    exact ⟨v, r, e, Rep.less q.1 h1, RepL.less q.2 h2⟩
end
theorem SOk.less {o : SO} (q : lowO η.length o = true) (h : SOk C (η ++ t) H a o) : SOk C η H a o := by
  cases o with
  | lst ds =>
    obtain ⟨vs, e, r⟩ := h
    exact ⟨vs, e, r.less q⟩
theorem StOk.less (k : StOk C (η ++ t) st H) (q : (st.take η.length).all (lowO η.length) = true) : StOk C η (st.take η.length) H := by
  have hl := k.len
  rw [List.length_append] at hl
  refine ⟨by rw [List.length_take]; omega, ?_, fun n a o h1 h2 => ?_, k.hot⟩
  · have := k.nd
    rw [List.nodup_append] at this
    exact this.1
  · have hn : n < η.length := (List.getElem?_eq_some_iff.mp h1).1
    have h3 := h2
    rw [List.getElem?_take_of_lt hn] at h3
    exact SOk.less (List.all_eq_true.mp q o (List.mem_of_getElem? h2)) (k.ok n a o (by rw [List.getElem?_append_left hn]; exact h1) h3)
end
theorem FnG.leave {P : Program} {w : World} {K : PySem.W.Frag} {mg : Str → Option Value} {base : Heap} {gl : Nat → Option Addr} {k : Nat} {f : Addr} {fd : FuncData} {ps : List Str} {g : Fn} (F : FnG P w K mg base gl k f fd ps g) : FnG P w K mg base gl k f fd ps (lvD g) :=
  F.imp fun hot η st ds vs H Q E k1 rd hl p => by
    unfold lvD at p
    have hn : st.length = η.length := k1.len.symm
    cases e : g ds st with
    | ok d st' =>
      rw [e] at p
      intro v η' H' s k' r
      obtain ⟨t, rfl, ht⟩ := s.ext
      unfold Res.leave at p
      dsimp only at p
      rw [hn] at p
      split at p
      · rename_i h
        rw [Bool.and_eq_true] at h
        exact p v η H' ⟨⟨[], by simp, by simp⟩, s.keep, s.dom⟩ (k'.less h.2) (r.less h.1)
      · exact p.elim
    | exc x st' =>
      rw [e] at p
      intro c dd η' H' s k' r
      obtain ⟨t, rfl, ht⟩ := s.ext
      unfold Res.leave at p
      dsimp only at p
      rw [hn] at p
      split at p
      · rename_i h
        rw [Bool.and_eq_true] at h
        refine p c dd η H' ⟨⟨[], by simp, by simp⟩, s.keep, s.dom⟩ (k'.less h.2) ⟨r.1, ?_⟩
        rcases r.2 with ⟨z1, z2⟩ | ⟨a, us, z1, z2, z3, z4, z5, z6⟩
        · exact .inl ⟨z1, z2⟩
        · exact .inr ⟨a, us, z1, fun q => z2 (List.mem_append_left _ q), z3, z4, z5, z6.less h.1⟩
      · exact p.elim
    | bad => rw [e] at p; exact p.elim

/-! ### calls -/
def cCall (g : Fn) (dd : List D) (fs : EvA) : Ev := fun ρ st => (fs ρ st).bind fun ds st1 => g (ds ++ dd) st1
section
variable {X : Cx} {C : Cfg} {e : Expr} {es : List Expr} {fs : EvA} {pos p : Pos} {x : Str} {k : Nat} {f : Addr} {fd : FuncData} {ps : List Str} {g : Fn} {dvs : List V} {dd : List D} {ds : List Value}
theorem call_run (F : FnG X.prog X.w X.K X.mg X.base C.gl k f fd ps g) (hK : X.K = C.K) (hr : Room k X.A) (hgd : X.A.guards = some []) (hb : Binds X.K fd ps ds) (hd : Vals dvs ds) {W : WX} (tk : Takes X W) {pins : List (Addr × Obj)} {σ : L2.St} {H : Hp} {s : Shared} {Q : VK} {us : List Value} {vs : List V} {η : List Addr} {st : Sto} {as : List D}
    (I : Inv X pins σ H s) (r : Vals vs us) (k1 : StOk C η st H) (ra : RepL C η H as (vs ++ dvs)) (hl : (vs ++ dvs).length = ps.length) (post : Post C W σ (Rep C) η H (g as st) Q) : wpAny (model X.prog X.w) X.A (call (.ref f) us) (EP X pins σ Q) X.xe s := by
  obtain ⟨K, gl, hot⟩ := C
  dsimp only at hK
  subst hK
  have r2 : Vals (vs ++ dvs) (us ++ ds) := r.append hd
  have q : spD X.K gl g ps.length (vs ++ dvs) H Q (fun c d H' => W c d σ H') := by
    refine ⟨hot, η, st, as, k1, ra, hl, ?_⟩
    cases e : g as st with
    | ok d st' => rw [e] at post; exact post
    | exc x st' => rw [e] at post; exact post
    | bad => rw [e] at post; exact post.elim
  refine wpAny_call (codeAny_mono (F.run X.A X.stack s H ⟨us, []⟩ (us ++ ds) (vs ++ dvs) Q _ hr hgd I.env0 (hb s us I.kIn (by rw [← r2.length]; exact hl)) r2 q) fun res s' hq => ?_)
  cases res with
  | error e => exact tk e s' (XE.of_call I (fun _ _ _ z => z) hq)
  | ok fl =>
    cases fl with
    | ret u => exact I.after hq
    | next => exact hq.elim
    | brk => exact hq.elim
    | cont => exact hq.elim
theorem SE.call (F : FnG X.prog X.w X.K X.mg X.base C.gl k f fd ps g) (hK : X.K = C.K) (hr : Room k X.A) (hgd : X.A.guards = some []) (hg : Gl X x) (hm : X.mg x = some (.ref f)) (hk : PySem.W.keepIn X.K (.ref f) = true) (hb : Binds X.K fd ps ds) (hd : Vals dvs ds)
    (hdr : ∀ η H, RepL C η H dd dvs) (ha : SA X C (e :: es) fs) (hn : (e :: es).length + dd.length = ps.length) (hlen : ∀ ρ st a st1, fs ρ st = .ok a st1 → a.length = (e :: es).length)
    (hdb : (x == ("__debug__" : Str)) = false := by decide) (he : starEach (e :: es) X.env = (false, eval e X.env) :: starEach es X.env := by rfl) (hpl : (backTo pos (starEach es X.env)).any (·.1) = false := by rfl) :
    SE X C (.Call (.Name x p) (e :: es) [] pos) (cCall g dd fs) := ⟨fun W tk => ⟨fun pins s σ H Q I h => by
  obtain ⟨η, ρ, st, k0, en, post⟩ := h
  refine wpAny_Call_Name_kw (ld_glob I hg hm ?_ hdb)
  refine PySem.W.callWith_K (h₀ := X.base) I.ok.mod.kin hk ?_ he hpl
  refine thn ((ha.run W tk).run pos pins s σ H (fun vs H1 => ∃ η1 st1 as, StOk C η1 st1 H1 ∧ RepL C η1 H1 as vs ∧ as.length = (e :: es).length ∧ Post C W σ (Rep C) η1 H1 (g (as ++ dd) st1) Q) I ⟨η, ρ, st, k0, en, ?_⟩) fun us s1 ⟨vs, H1, I1, r, η1, st1, as, k1, ra, la, p1⟩ => ⟨I1.kIn, ?_⟩
  · exact Post.bind (R := RepL C) (r := fs ρ st) post fun as st1 vs η1 H1 hok s1 k1 ra p1 => ⟨η1, st1, as, k1, ra, hlen _ _ _ _ hok, p1⟩
  · have ra2 := ra.append (hdr η1 H1)
    exact call_run F hK hr hgd hb hd tk I1 r k1 ra2 (by rw [← ra2.length, List.length_append, la]; exact hn) p1⟩⟩
theorem cNil_len : ∀ (ρ : Env) (st : Sto) (a : List D) (st1 : Sto), cNil ρ st = .ok a st1 → a.length = 0 := by
  intro ρ st a st1 h
  cases h
  rfl
theorem cCons_len {fa : Ev} {fs : EvA} {n : Nat} (hn : ∀ (ρ : Env) (st : Sto) (a : List D) (st1 : Sto), fs ρ st = .ok a st1 → a.length = n) : ∀ (ρ : Env) (st : Sto) (a : List D) (st1 : Sto), cCons fa fs ρ st = .ok a st1 → a.length = n + 1 := by
  intro ρ st a st1 h
  unfold cCons Res.bind at h
  cases e : fa ρ st with
  | ok d st2 =>
    rw [e] at h
    dsimp only at h
    cases e2 : fs ρ st2 with
    | ok as st3 =>
      rw [e2] at h
      cases h
      rw [List.length_cons, hn _ _ _ _ e2]
    | exc x st3 => rw [e2] at h; cases h
    | bad => rw [e2] at h; cases h
  | exc x st2 => rw [e] at h; cases h
  | bad => rw [e] at h; cases h
end
end G

set_option Elab.async false
set_option linter.all false
set_option maxRecDepth 100000
set_option maxHeartbeats 4000000
/-! A law's end. -/
namespace G
open PySem PySem.Spec PyProof.Rows L2

theorem rep_ints {C : Cfg} {η : List Addr} {H : Hp} : ∀ ns : List Int, RepL C η H (ns.map D.int) (ns.map V.int)
  | [] => RepL.nil
  | n :: ns => RepL.cons (by rw [Rep]) (rep_ints ns)
section
variable {P : Program} {w : World} {K : PySem.W.Frag} {mg mb : Str → Option Value} {gl : Nat → Option Addr} {k : Nat} {fa a : Addr} {fd : FuncData} {x : Str} {g : Fn} {s : Shared} {vs : List Value} {ns : List Int}
/-- the call of the law's def, from a heap that knows the script at most -/
theorem call_law (H : Hp) (KX : K.In s.heap) (hns : s.heap.Ns mainGlobals mg) (hb : s.heap.Ns builtinsNs mb) (hbb : ∀ x : Str, x ≠ "__name__" → mb x = bootBuiltins x) (hlim : s.heap.NoLimit) (hg : s.gens = #[])
    (ha : s.heap.get? a = some { cls := .type "list", data := .seq vs.toArray }) (hr : Room k callerA) (F : ∀ base : Heap, K.In base → base.Ns mainGlobals mg → FnG P w K mg base gl k fa fd [x] g)
    (hbind : ∀ (s : Shared) (u : Value), BindsTo s fd ⟨[u], []⟩ [(x, u)]) (res : ∃ st, g [.lst (ns.map D.int)] [] = .ok (.bl true) st)
    (only : ∀ b u, H b = some u → b = a ∧ K.lookup a = none ∧ ∃ o xs, u = .frz o (.lst xs)) (sq : SqL K H a (ns.map V.int)) (hok : HOk P w H s.heap) :
    codeAny (model P w) callerA (.call (.ref fa) ⟨[.ref a], []⟩) (fun r s' => r = .ok (.ret (.bool true)) ∧ OldK s.heap s'.heap ∧ s'.os = s.os ∧ AllBare s'.gens) s := by
  have free : ∀ {b : Addr} {o : Obj}, s.heap.get? b = some o → (∀ xs n, o.data ≠ .seq xs n) → H b = none := by
    intro b o e d
    cases q : H b with
    | none => rfl
    | some u =>
      obtain ⟨z, _⟩ := only b u q
      rw [z, ha] at e
      cases e
      exact absurd rfl (d _ _)
  have ns_in : ∀ {b : Addr} {m : Str → Option Value}, s.heap.Ns b m → (hidT s.heap H).Ns b m := by
    intro b m ⟨o, es, ep, e, d, r⟩
    exact ⟨o, es, ep, hidT_get e (free e fun xs n z => by rw [d] at z; cases z), d, r⟩
  have kin : K.In (hidT s.heap H) := by
    intro b o e
    refine hidT_get (KX b o e) ?_
    cases q : H b with
    | none => rfl
    | some u =>
      obtain ⟨z, z2, _⟩ := only b u q
      rw [z, z2] at e
      cases e
  obtain ⟨mc, l1, l2⟩ := hlim
  have md : Mod K mg (hidT s.heap H) := ⟨kin, ns_in hns, ⟨mb, ns_in hb, hbb⟩, ⟨mc, ns_in l1, l2⟩⟩
  have e0 : Env0 P w K mg (hidT s.heap H) callerA [] s H := ⟨rfl, md, fun b o e => of_hidT e, Nat.le_of_eq (hidT_size _ _), trivial, fun b hb => (List.not_mem_nil hb).elim, hok, .of_eq hg⟩
  have sp : spD K gl g 1 [.ref a] H (fun v _ => v = .bl true) (fun _ _ _ => False) := by
    obtain ⟨st, e⟩ := res
    refine ⟨[], [], [], [.lst (ns.map D.int)], ⟨rfl, List.nodup_nil, fun n b o h1 _ => (by cases h1), fun b hb => (List.not_mem_nil hb).elim⟩, RepL.one ?_, rfl, ?_⟩
    · rw [Rep]
      refine ⟨a, _, rfl, ?_, rep_ints ns⟩
      rcases sq with q | q
      · exact .inl ⟨List.not_mem_nil, List.not_mem_nil, q⟩
      · exact .inr q
    · rw [e]
      intro v η' H' _ _ r
      rw [Rep] at r
      exact r
  refine codeAny_mono ((F _ kin (ns_in hns)).run callerA [] s H ⟨[.ref a], []⟩ [.ref a] [.ref a] _ _ hr rfl e0 (hbind s (.ref a)) (.cons rfl .nil) sp) fun r s' h => ?_
  cases r with
  | error e =>
    obtain ⟨_, _, _, _, _, _, _, _, _, _, _, _, z⟩ := h
    exact z.elim
  | ok fl =>
    cases fl with
    | next => exact h.elim
    | brk => exact h.elim
    | cont => exact h.elim
    | ret u =>
      obtain ⟨v, H', os, bare, un, hok', r', q⟩ := h
      cases (show v = .bl true from q)
      cases (show u = Value.bool true from r')
      refine ⟨rfl, OldK.of_keep fun b o e => ?_, os, bare⟩
      cases q : H b with
      | none => exact un.keep b o e q (fun z => List.not_mem_nil z) (fun z => List.not_mem_nil z)
      | some u =>
        obtain ⟨_, _, ob, xs, rfl⟩ := only b u q
        have e1 := (hok b _ q).1
        have e2 := (hok' b _ (un.frzs b ob _ q)).1
        rw [e] at e1
        cases e1
        exact e2
theorem law_run (KX : K.In s.heap) (hns : s.heap.Ns mainGlobals mg) (hb : s.heap.Ns builtinsNs mb) (hbb : ∀ x : Str, x ≠ "__name__" → mb x = bootBuiltins x) (hlim : s.heap.NoLimit) (hg : s.gens = #[])
    (ha : s.heap.get? a = some { cls := .type "list", data := .seq vs.toArray }) (hi : IntsAre vs ns) (hl : ns.length ≤ sizeLine) (hr : Room k callerA) (F : ∀ base : Heap, K.In base → base.Ns mainGlobals mg → FnG P w K mg base gl k fa fd [x] g)
    (hbind : ∀ (s : Shared) (u : Value), BindsTo s fd ⟨[u], []⟩ [(x, u)]) (res : ∃ st, g [.lst (ns.map D.int)] [] = .ok (.bl true) st) :
    codeAny (model P w) callerA (.call (.ref fa) ⟨[.ref a], []⟩) (fun r s' => r = .ok (.ret (.bool true)) ∧ OldK s.heap s'.heap ∧ s'.os = s.os ∧ AllBare s'.gens) s := by
  have rv := vals_ints hi
  have ln := hi.length
  cases hk : K.lookup a with
  | some o =>
    have e := KX a o hk
    rw [ha] at e
    cases e
    exact call_law (fun _ => none) KX hns hb hbb hlim hg ha hr F hbind res (fun b u z => by cases z) (.inr ⟨_, vs.toArray, _, hk, rfl, rfl, rfl, by rw [List.size_toArray, ln]; exact hl, by simpa using rv⟩) fun b u z => by cases z
  | none =>
    obtain ⟨H0, hH⟩ : ∃ H0 : Hp, H0 = fun b => if b = a then some (HO.frz { cls := .type "list", data := .seq vs.toArray } (.lst (ns.map V.int))) else none := ⟨_, rfl⟩
    have at_ : H0 a = some (HO.frz { cls := .type "list", data := .seq vs.toArray } (.lst (ns.map V.int))) := by
      rw [hH]
      exact if_pos rfl
    have only : ∀ b u, H0 b = some u → b = a ∧ u = HO.frz { cls := .type "list", data := .seq vs.toArray } (.lst (ns.map V.int)) := by
      intro b u z
      by_cases e : b = a
      · rw [e, at_] at z
        cases z
        exact ⟨e, rfl⟩
      · rw [hH] at z
        have z2 := (if_neg e).symm.trans z
        cases z2
    refine call_law H0 KX hns hb hbb hlim hg ha hr F hbind res (fun b u z => ?_) (.inl (.inr ⟨_, at_⟩)) fun b u z => ?_
    · obtain ⟨e, e2⟩ := only b u z
      exact ⟨e, hk, _, _, e2⟩
    · obtain ⟨e, e2⟩ := only b u z
      subst e e2
      exact ⟨ha, by rw [List.length_map]; exact hl, vs, _, rv, ha⟩
end
/-- the goal that the head leaves -/
theorem walkG {l : PySem.W.OpenLaw} {n k : Nat} {q : Program} {loose : List Str} {XP : (Str → Option Value) → Heap → Prop} {YP : World → Heap → Prop} {d : DefRec} {x : Str}
    (hn : l.most = some n) (hn2 : n ≤ sizeLine) (hdf : d.params.defaults = []) (hr : Room k callerA)
    (F : ∀ (w : World) (mg : Str → Option Value) (fa : Addr) (h : Heap), YP w h → h.Ns mainGlobals mg → mg d.name = some (.ref fa) →
      ∃ (K : PySem.W.Frag) (fd : FuncData) (gl : Nat → Option Addr) (g : Fn), K.In h ∧ (∀ (s : Shared) (u : Value), BindsTo s fd ⟨[u], []⟩ [(x, u)]) ∧ (∀ ns : List Int, ns.length ≤ n → ∃ st, g [.lst (ns.map D.int)] [] = .ok (.bl true) st) ∧
        ∀ base : Heap, K.In base → base.Ns mainGlobals mg → FnG l.prog w K mg base gl k fa fd [x] g) :
    PySem.W.WalkO q loose XP YP l.row.toRowW d [] (fun f vs => PySem.call f vs) := by
  refine Att.attach_call hn hdf fun w s₀ s₁ mg mb fa o pm cd doc a vs ns G Y ho hd hcd hmg hobj hints hlen hg => ?_
  obtain ⟨K, fd, gl, g, KX, hb, res, hF⟩ := F w mg fa _ Y G.T.g hmg
  exact law_run KX G.T.g G.T.b G.T.builtins G.T.nolimit hg hobj hints (Nat.le_trans hlen hn2) hr hF hb (res ns hlen)
end G

set_option Elab.async false
set_option linter.all false
set_option maxRecDepth 100000
set_option maxHeartbeats 4000000
/-! What the written part holds. -/
namespace G
open PySem PySem.Spec PyProof.Rows L2

mutual
/-- a constant of the module: what stands in the written part -/
def repB (K : PySem.W.Frag) : D → Value → Bool
  | .non, u => (match u with
    | .none => true
    | _ => false)
  | .bl b, u => (match u with
    | .bool c => b == c
    | _ => false)
  | .int i, u => (match u with
    | .int j _ => decide (i = j)
    | _ => false)
  | .str s, u => (match u with
    | .str x _ => decide (x.cps.toList = s)
    | _ => false)
  | .tup ds, u => (match u with
    | .ref a => (match K.lookup a with
      | some ⟨.type c, _, .seq its _, _⟩ => decide (c = "tuple") && (decide (its.size ≤ sizeLine) && repsB K ds its.toList)
      | _ => false)
    | _ => false)
  | _, _ => false
def repsB (K : PySem.W.Frag) : List D → List Value → Bool
  | [], us => us.isEmpty
  | d :: ds, us => (match us with
    | u :: r => repB K d u && repsB K ds r
    | [] => false)
end
mutual
theorem repB_ok {K : PySem.W.Frag} {gl : Nat → Option Addr} {hot : List Addr} : ∀ (d : D) (u : Value), repB K d u = true → ∃ v, RelV v u ∧ ∀ η H, Rep ⟨K, gl, hot⟩ η H d v
  | .non, u, h => by
    cases u <;> first | (simp [repB] at h; done) | skip
    exact ⟨.non, rfl, fun η H => by rw [Rep]⟩
  | .bl b, u, h => by
    cases u <;> first | (simp [repB] at h; done) | skip
    rename_i c
    have e : b = c := by simpa [repB] using h
    subst e
    exact ⟨.bl b, rfl, fun η H => by rw [Rep]⟩
  | .int i, u, h => by
    cases u <;> first | (simp [repB] at h; done) | skip
    rename_i j t
    have e : i = j := by simpa [repB] using h
    subst e
    exact ⟨.int i, ⟨t, rfl⟩, fun η H => by rw [Rep]⟩
  | .str s, u, h => by
    cases u <;> first | (simp [repB] at h; done) | skip
    rename_i x t
    have e : x.cps.toList = s := by simpa [repB] using h
    subst e
    exact ⟨.str x, ⟨t, rfl⟩, fun η H => by rw [Rep]⟩
  | .tup ds, u, h => by
    cases u <;> first | (simp [repB] at h; done) | skip
    rename_i a
    rw [repB] at h
    split at h
    · rename_i c dd its n sl hl
      rw [Bool.and_eq_true, Bool.and_eq_true] at h
      obtain ⟨h1, h2, h3⟩ := h
      have e : c = "tuple" := of_decide_eq_true h1
      subst e
      obtain ⟨vs, rv, q⟩ := repsB_ok (gl := gl) (hot := hot) ds its.toList h3
      refine ⟨.ref a, rfl, fun η H => ?_⟩
      rw [Rep]
      exact ⟨a, vs, rfl, .inr ⟨_, its, n, hl, rfl, rfl, of_decide_eq_true h2, rv⟩, q η H⟩
    · cases h
  | .ty _, u, h => by simp [repB] at h
  | .glo _, u, h => by simp [repB] at h
  | .ref _, u, h => by simp [repB] at h
  | .lst _, u, h => by simp [repB] at h
theorem repsB_ok {K : PySem.W.Frag} {gl : Nat → Option Addr} {hot : List Addr} : ∀ (ds : List D) (us : List Value), repsB K ds us = true → ∃ vs, Vals vs us ∧ ∀ η H, RepL ⟨K, gl, hot⟩ η H ds vs
  | [], us, h => by
    cases us with
    | nil => exact ⟨[], .nil, fun η H => RepL.nil⟩
    | cons u us => simp [repsB] at h
  | d :: ds, us, h => by
    cases us with
    | nil => simp [repsB] at h
    | cons u us =>
      rw [repsB, Bool.and_eq_true] at h
      obtain ⟨v, r, q⟩ := repB_ok (gl := gl) (hot := hot) d u h.1
      obtain ⟨vs, rs, qs⟩ := repsB_ok (gl := gl) (hot := hot) ds us h.2
      exact ⟨v :: vs, .cons r rs, fun η H => RepL.cons (q η H) (qs η H)⟩
end
/-- the module's name x stands for d -/
def conB (K : PySem.W.Frag) (x : Str) (d : D) : Bool := match PySem.W.nsIn K mainGlobals x with
  | some (some u) => repB K d u
  | _ => false
structure ConAt (K : PySem.W.Frag) (mg : Str → Option Value) (gl : Nat → Option Addr) (x : Str) (d : D) : Prop where
  ex : ∃ u, mg x = some u ∧ repB K d u = true
theorem conB_ok {K : PySem.W.Frag} {h : Heap} {mg : Str → Option Value} {gl : Nat → Option Addr} (X : K.In h) (G : h.Ns mainGlobals mg) {x : Str} {d : D} (c : conB K x d = true) : ConAt K mg gl x d := by
  unfold conB at c
  cases e : PySem.W.nsIn K mainGlobals x with
  | none => rw [e] at c; cases c
  | some o =>
    rw [e] at c
    cases o with
    | none => cases c
    | some u => exact ⟨u, PySem.W.mg_of X G e, c⟩
theorem SE.con {X : Cx} {C : Cfg} {x : Str} {d : D} {pos : Pos} (h : ConAt X.K X.mg C.gl x d) (hK : X.K = C.K) (hg : Gl X x := by rfl) (hd : (x == ("__debug__" : Str)) = false := by decide) : SE X C (.Name x pos) (cC d) := by
  obtain ⟨u, e, r⟩ := h.ex
  obtain ⟨K, gl, hot⟩ := C
  dsimp only at hK
  subst hK
  obtain ⟨v, rv, q⟩ := repB_ok (gl := gl) (hot := hot) d u r
  exact SE.glob hg e rv q hd
/-! ### arguments that fill up -/
/-- what is told of a def in the written part -/
structure DefAt (K : PySem.W.Frag) (mg : Str → Option Value) (x : Str) (st : Stmt) (dd : List He.Dv) (f : Addr) (fd : FuncData) : Prop where
  fn : FunD K x x (defArgs st) (defBody st) (defScope st) (dd.map (He.Dv.v K)) [] f fd
  g : mg x = some (.ref f)
/-- the constants that stand as defaults -/
def dvD : D → He.Dv
  | .non => .non
  | .bl b => .bl b
  | .int i => .int i
  | .str s => .str ⟨s.toArray⟩
  | _ => .non
def dvOk : D → Bool
  | .non => true
  | .bl _ => true
  | .int _ => true
  | .str _ => true
  | _ => false
theorem dv_rep {C : Cfg} {η : List Addr} {H : Hp} : ∀ {ds : List D}, ds.all dvOk = true → RepL C η H ds ((ds.map dvD).map (He.Dv.v C.K))
  | [], _ => RepL.nil
  | d :: ds, h => by
    rw [List.all_cons, Bool.and_eq_true] at h
    refine RepL.cons ?_ (dv_rep h.2)
    cases d <;> first | (simp [dvOk] at h; done) | (rw [Rep]; rfl)
end G

set_option Elab.async false
set_option linter.all false
set_option maxRecDepth 100000
set_option maxHeartbeats 4000000
/-! What the printed walks name. -/
namespace G
open PySem PySem.Spec PyProof.Rows L2
section
variable {X : Cx} {C : Cfg} {a b c e : Expr} {es : List Expr} {f : Ev} {fs : EvA} {pos p : Pos} {x : Str} {k : Nat} {fd : FuncData} {ps : List Str} {g : Fn} {dd : List D} {st : Stmt} {dv : List He.Dv} {fa : Addr}
theorem SS.par3 (i j l : Nat) {x y z : Str} {px py pz pt : Pos} {kt k2 pt2} (hN : X.N.Nodup) (hc : X.calm = true) (ha : SA X C [a, b, c] fs) (hi : X.N[i]? = some x := by rfl) (hj : X.N[j]? = some y := by rfl) (hl : X.N[l]? = some z := by rfl) (hij : i ≠ j := by decide) (hil : i ≠ l := by decide) (hjl : j ≠ l := by decide)
    (hx : X.env.scope.names.lookup x = some .local := by rfl) (hy : X.env.scope.names.lookup y = some .local := by rfl) (hz : X.env.scope.names.lookup z = some .local := by rfl)
    (hw : swappedStores [.Tuple [.Name x px, .Name y py, .Name z pz] kt pt] (.Tuple [a, b, c] k2 pt2) X.env = pure (some [x, y, z]) := by rfl)
    (hs : swapsWithSole [.Tuple [.Name x px, .Name y py, .Name z pz] kt pt] (.Tuple [a, b, c] k2 pt2) pos.line X.env = pure false := by rfl) :
    SS X C (.Assign [.Tuple [.Name x px, .Name y py, .Name z pz] kt pt] (.Tuple [a, b, c] k2 pt2) pos) (sPar3 i j l fs) := ⟨fun W tk => PS_imp (ps_par3 hc hN hi hj hl hij hil hjl hx hy hz (ha.run W tk) hw hs) fun D σ H ⟨η, ρ, st, k, en, p⟩ =>
  ⟨η, ρ, st, k, en, PostS.into (R := RepL C) (r := fs ρ st) p en fun ds st1 vs η1 H1 _ s1 k1 rs p1 => by
    match ds, rs, p1 with
    | [d, e, f], rs, p1 =>
      rw [RepL] at rs
      obtain ⟨v, r, rfl, r1, rs⟩ := rs
      obtain ⟨u, w, rfl, r2, r3⟩ := rs.two_inv
      exact ⟨v, u, w, rfl, p1.nx k1 ((((en.mono s1).set i r1).set j r2).set l r3)⟩
    | [], _, p1 => exact p1.elim
    | [_], _, p1 => exact p1.elim
    | [_, _], _, p1 => exact p1.elim
    | _ :: _ :: _ :: _ :: _, _, p1 => exact p1.elim⟩⟩
theorem SE.revL {j : Nat} {p1 p2 p3 : Pos} (hK : X.K = C.K) (he : SE X C e f) : SE X C (.Subscript e (.Slice none none (some (.UnaryOp .USub (.Constant (.int 1) j p1) p2)) p3) pos) (cUn dRev f) := ⟨fun W tk => PE_imp (pe_revL (he.run W tk)) fun σ H Q ⟨η, ρ, st, k, en, p⟩ =>
  ⟨η, ρ, st, k, en, Post.bind (R := Rep C) (r := f ρ st) p fun d st1 v η1 H1 _ s1 k1 rd p1 => by
    rw [hK]
    unfold dRev at p1
    split at p1
    · rename_i ds q
      obtain ⟨a1, vs, rfl, q, r⟩ := vw_lst k1 rd q
      exact ⟨a1, vs, rfl, q, p1.lst k1 r.reverse⟩
    · exact p1.elim⟩⟩
/-- a call of a def of the module, the defaults behind the written values -/
theorem SE.fn (F : FnG X.prog X.w X.K X.mg X.base C.gl k fa fd ps g) (at_ : DefAt X.K X.mg x st dv fa fd) (hK : X.K = C.K) (hr : Room k X.A) (hgd : X.A.guards = some []) (hb : ∃ ds, Vals ((dd.map dvD).map (He.Dv.v X.K)) ds ∧ Binds X.K fd ps ds) (hdd : dd.all dvOk = true)
    (ha : SA X C (e :: es) fs) (hn : (e :: es).length + dd.length = ps.length) (hlen : ∀ ρ st a st1, fs ρ st = .ok a st1 → a.length = (e :: es).length)
    (hg : Gl X x := by rfl) (hdb : (x == ("__debug__" : Str)) = false := by decide) (he : starEach (e :: es) X.env = (false, eval e X.env) :: starEach es X.env := by rfl) (hpl : (backTo pos (starEach es X.env)).any (·.1) = false := by rfl) :
    SE X C (.Call (.Name x p) (e :: es) [] pos) (cCall g dd fs) := by
  obtain ⟨ds, hd, hb⟩ := hb
  refine SE.call F hK hr hgd hg at_.g at_.fn.kp hb hd (fun η H => ?_) ha hn hlen hdb he hpl
  rw [hK]
  exact dv_rep hdd
end
/-- no defaults -/
theorem binds0 {K : PySem.W.Frag} {mg : Str → Option Value} {x : Str} {st : Stmt} {fa : Addr} {fd : FuncData} {ps : List Str} (at_ : DefAt K mg x st [] fa fd)
    (h : ∀ (kV doc pm : Value) (an : Option Addr) (cdv ct : Value) (us : List Value), us.length = ps.length → bindArgs (PySem.W.fnOf x x (defArgs st) (defBody st) (defScope st) .none kV doc pm an cdv ct) ⟨us, []⟩ = pure (ps.zip us)) :
    ∃ ds, Vals ((([] : List D).map dvD).map (He.Dv.v K)) ds ∧ Binds K fd ps ds := ⟨[], .nil, FunD.bindsN at_.fn h⟩
/-- what the head tells of a def -/
theorem def_at {K : PySem.W.Frag} {h : Heap} {mg : Str → Option Value} {x : Str} {st : Stmt} {dd : List He.Dv} {fn : List He.DefD} {fa : List He.Fa} (X : K.In h) (G : h.Ns mainGlobals mg) (c : He.SaysD fa fn K) (i j : Nat)
    (h1 : fn[i]? = some ⟨(x, none), x, x, defArgs st, defBody st, defScope st, dd, []⟩) (h2 : fa[j]? = some (.glo x)) : ∃ fd, DefAt K mg x st dd (He.ga K x) fd := by
  obtain ⟨fd, F⟩ := c.def_ i h1
  exact ⟨fd, F, He.glo_ok X G (c.fact j h2)⟩
theorem bb_len : bootBuiltins (Str.ofString "len") = some (.builtin "len") := by decide +kernel
theorem bb_abs : bootBuiltins (Str.ofString "abs") = some (.builtin "abs") := by decide +kernel
theorem bb_max : bootBuiltins (Str.ofString "max") = some (.builtin "max") := by decide +kernel
theorem bb_min : bootBuiltins (Str.ofString "min") = some (.builtin "min") := by decide +kernel
theorem bb_all : bootBuiltins (Str.ofString "all") = some (.builtin "all") := by decide +kernel
theorem bb_any : bootBuiltins (Str.ofString "any") = some (.builtin "any") := by decide +kernel
theorem bb_repr : bootBuiltins (Str.ofString "repr") = some (.builtin "repr") := by decide +kernel
theorem bb_isinstance : bootBuiltins (Str.ofString "isinstance") = some (.builtin "isinstance") := by decide +kernel
theorem bt_int : bootBuiltins (Str.ofString "int") = some (.type "int") := by decide +kernel
theorem bt_bool : bootBuiltins (Str.ofString "bool") = some (.type "bool") := by decide +kernel
theorem bt_str : bootBuiltins (Str.ofString "str") = some (.type "str") := by decide +kernel
theorem bt_tuple : bootBuiltins (Str.ofString "tuple") = some (.type "tuple") := by decide +kernel
theorem bt_list : bootBuiltins (Str.ofString "list") = some (.type "list") := by decide +kernel
theorem bt_dict : bootBuiltins (Str.ofString "dict") = some (.type "dict") := by decide +kernel
end G

set_option Elab.async false
set_option linter.all false
set_option maxRecDepth 100000
set_option maxHeartbeats 4000000
/-! Mirrors, run by hand: each construct by its parts' results. -/
namespace G
open PySem PySem.Spec PyProof.Rows L2
section
variable {ρ : Env} {st : Sto} {i j l : Nat} {d e a b : D} {ds : List D} {f g h : Ev} {fs : EvA} {t u : EvT} {G H : EvS} {op op2 : D → D → Sto → Res D} {un : D → Sto → Res D} {fn : Fn} {x : Exc}
theorem Res.bind_ok {α β : Type} {v : α} {k : α → Sto → Res β} : Res.bind (.ok v st) k = k v st := (rfl)
theorem Res.bind_exc {α β : Type} {k : α → Sto → Res β} : Res.bind (.exc x st) k = .exc x st := (rfl)
theorem e_var (h : ρ[i]? = some (some d)) : cVar i ρ st = .ok d st := by
  unfold cVar
  rw [h]
theorem var_some {v : D} {st : Sto} {ρ : Env} {i : Nat} (h : ρ[i]? = some (some v)) : cVar i ρ st = .ok v st := e_var h
def varR (o : Option (Option D)) (st : Sto) : Res D := match o with
  | some (some d) => .ok d st
  | _ => .bad
theorem e_vr : cVar i ρ st = varR ρ[i]? st := by
  unfold cVar varR
  cases ρ[i]? with
  | none => rfl
  | some o => cases o <;> rfl
theorem e_vrS : varR (some (some d)) st = .ok d st := (rfl)
theorem e_con : cC d ρ st = .ok d st := (rfl)
def binR (op : D → D → Sto → Res D) (r : Res D) (g : Ev) (ρ : Env) : Res D := r.bind fun a st1 => (g ρ st1).bind fun b st2 => op a b st2
def binR2 (op : D → D → Sto → Res D) (a : D) (r : Res D) : Res D := r.bind fun b st2 => op a b st2
theorem e_bin : cBin op f g ρ st = binR op (f ρ st) g ρ := (rfl)
theorem e_binR : binR op (.ok a st) g ρ = binR2 op a (g ρ st) := (rfl)
theorem e_binR2 : binR2 op a (.ok b st) = op a b st := (rfl)
def unR (op : D → Sto → Res D) (r : Res D) : Res D := r.bind fun a st1 => op a st1
theorem e_un : cUn un f ρ st = unR un (f ρ st) := (rfl)
theorem e_unR : unR un (.ok a st) = un a st := (rfl)
theorem e_B : cB f ρ st = Res.bool (f ρ st) := (rfl)
theorem e_bool {c : Bool} : Res.bool (.ok (.bl c) st) = .ok c st := (rfl)
def chR (g g' : D → D → Sto → Res D) (r : Res D) (fb fc : Ev) (ρ : Env) : Res D := r.bind fun a st1 => (fb ρ st1).bind fun b st2 => (g a b st2).bind fun d st3 => match d with
  | .bl true => (fc ρ st3).bind fun c st4 => g' b c st4
  | .bl false => .ok (.bl false) st3
  | _ => .bad
def chR2 (g g' : D → D → Sto → Res D) (a : D) (r : Res D) (fc : Ev) (ρ : Env) : Res D := r.bind fun b st2 => (g a b st2).bind fun d st3 => match d with
  | .bl true => (fc ρ st3).bind fun c st4 => g' b c st4
  | .bl false => .ok (.bl false) st3
  | _ => .bad
def chR3 (g' : D → D → Sto → Res D) (b : D) (r : Res D) (fc : Ev) (ρ : Env) : Res D := r.bind fun d st3 => match d with
  | .bl true => (fc ρ st3).bind fun c st4 => g' b c st4
  | .bl false => .ok (.bl false) st3
  | _ => .bad
theorem e_ch : cChain op op2 f g h ρ st = chR op op2 (f ρ st) g h ρ := (rfl)
theorem e_chR : chR op op2 (.ok a st) g h ρ = chR2 op op2 a (g ρ st) h ρ := (rfl)
theorem e_chR2 : chR2 op op2 a (.ok b st) h ρ = chR3 op2 b (op a b st) h ρ := (rfl)
theorem e_chR3t : chR3 op2 b (.ok (.bl true) st) h ρ = binR2 op2 b (h ρ st) := (rfl)
theorem e_chR3f : chR3 op2 b (.ok (.bl false) st) h ρ = .ok (.bl false) st := (rfl)
def truR (r : Res D) : Res Bool := r.bind fun d st1 => dTru d st1
theorem e_tru : cTru f ρ st = truR (f ρ st) := (rfl)
theorem e_truR : truR (.ok d st) = dTru d st := (rfl)
theorem e_truB {c : Bool} : dTru (.bl c) st = .ok c st := (rfl)
theorem e_truI {n : Int} : dTru (.int n) st = .ok (n != 0) st := (rfl)
theorem e_truN : dTru .non st = .ok false st := (rfl)
theorem e_truL : dTru (.lst ds) st = .ok (!ds.isEmpty) st := (rfl)
theorem e_truT : dTru (.tup ds) st = .ok (!ds.isEmpty) st := (rfl)
def notR (r : Res Bool) : Res Bool := r.bind fun b st1 => .ok (!b) st1
theorem e_not : cNot t ρ st = notR (t ρ st) := (rfl)
theorem e_notR {c : Bool} : notR (.ok c st) = .ok (!c) st := (rfl)
def andR (r : Res Bool) (u : EvT) (ρ : Env) : Res Bool := r.bind fun b st1 => match b with
  | true => u ρ st1
  | false => .ok false st1
theorem e_and : cAnd t u ρ st = andR (t ρ st) u ρ := (rfl)
theorem e_andT : andR (.ok true st) u ρ = u ρ st := (rfl)
theorem e_andF : andR (.ok false st) u ρ = .ok false st := (rfl)
def orR (r : Res Bool) (u : EvT) (ρ : Env) : Res Bool := r.bind fun b st1 => match b with
  | true => .ok true st1
  | false => u ρ st1
theorem e_or : cOr t u ρ st = orR (t ρ st) u ρ := (rfl)
theorem e_orT : orR (.ok true st) u ρ = .ok true st := (rfl)
theorem e_orF : orR (.ok false st) u ρ = u ρ st := (rfl)
def andVR (r : Res D) (g : Ev) (ρ : Env) : Res D := r.bind fun d st1 => match d with
  | .bl true => g ρ st1
  | .bl false => .ok (.bl false) st1
  | _ => .bad
theorem e_andV : cAndV f g ρ st = andVR (f ρ st) g ρ := (rfl)
theorem e_andVT : andVR (.ok (.bl true) st) g ρ = g ρ st := (rfl)
theorem e_andVF : andVR (.ok (.bl false) st) g ρ = .ok (.bl false) st := (rfl)
def orVR (r : Res D) (g : Ev) (ρ : Env) : Res D := r.bind fun d st1 => match d with
  | .bl true => .ok (.bl true) st1
  | .bl false => g ρ st1
  | _ => .bad
theorem e_orV : cOrV f g ρ st = orVR (f ρ st) g ρ := (rfl)
theorem e_orVT : orVR (.ok (.bl true) st) g ρ = .ok (.bl true) st := (rfl)
theorem e_orVF : orVR (.ok (.bl false) st) g ρ = g ρ st := (rfl)
def notVR (r : Res D) : Res D := r.bind fun d st1 => match d with
  | .bl b => .ok (.bl (!b)) st1
  | _ => .bad
theorem e_notV : cNotV f ρ st = notVR (f ρ st) := (rfl)
theorem e_notVR {c : Bool} : notVR (.ok (.bl c) st) = .ok (.bl (!c)) st := (rfl)
def ifER (r : Res Bool) (f g : Ev) (ρ : Env) : Res D := r.bind fun b st1 => match b with
  | true => f ρ st1
  | false => g ρ st1
theorem e_if : cIf t f g ρ st = ifER (t ρ st) f g ρ := (rfl)
theorem e_ifT : ifER (.ok true st) f g ρ = f ρ st := (rfl)
theorem e_ifF : ifER (.ok false st) f g ρ = g ρ st := (rfl)
def consR (r : Res D) (fs : EvA) (ρ : Env) : Res (List D) := r.bind fun d st1 => (fs ρ st1).bind fun ds st2 => .ok (d :: ds) st2
def consR2 (d : D) (r : Res (List D)) : Res (List D) := r.bind fun ds st2 => .ok (d :: ds) st2
theorem e_nil : cNil ρ st = .ok [] st := (rfl)
theorem e_cons : cCons f fs ρ st = consR (f ρ st) fs ρ := (rfl)
theorem e_consR : consR (.ok d st) fs ρ = consR2 d (fs ρ st) := (rfl)
theorem e_consR2 : consR2 d (.ok ds st) = .ok (d :: ds) st := (rfl)
def tupR (r : Res (List D)) : Res D := r.bind fun ds st1 => if big ds.length then .ok (.tup ds) st1 else .bad
theorem e_tup : cTup fs ρ st = tupR (fs ρ st) := (rfl)
theorem e_tupR (h : big ds.length = true) : tupR (.ok ds st) = .ok (.tup ds) st := if_pos h
def lstR (r : Res (List D)) : Res D := r.bind fun ds st1 => if big ds.length then .ok (.lst ds) st1 else .bad
theorem e_lst : cLst fs ρ st = lstR (fs ρ st) := (rfl)
theorem e_lstR (h : big ds.length = true) : lstR (.ok ds st) = .ok (.lst ds) st := if_pos h
def newR (r : Res (List D)) : Res D := r.bind fun ds st1 => if big ds.length then .ok (.ref st1.length) (st1 ++ [.lst ds]) else .bad
theorem e_new : cNew fs ρ st = newR (fs ρ st) := (rfl)
theorem e_newR (h : big ds.length = true) : newR (.ok ds st) = .ok (.ref st.length) (st ++ [.lst ds]) := if_pos h
def argR (g : Fn) (r : Res (List D)) : Res D := r.bind fun ds st1 => g ds st1
theorem e_args : cArgs fn fs ρ st = argR fn (fs ρ st) := (rfl)
theorem e_argR : argR fn (.ok ds st) = fn ds st := (rfl)
def callR (g : Fn) (dd : List D) (r : Res (List D)) : Res D := r.bind fun ds st1 => g (ds ++ dd) st1
theorem e_call {dd : List D} : cCall fn dd fs ρ st = callR fn dd (fs ρ st) := (rfl)
theorem e_callR {dd : List D} : callR fn dd (.ok ds st) = fn (ds ++ dd) st := (rfl)
/-! ### operators at integers -/
theorem o_add {m n : Int} : dAdd (.int m) (.int n) st = .ok (.int (m + n)) st := (rfl)
theorem o_addB {m : Int} {c : Bool} : dAdd (.int m) (.bl c) st = .ok (.int (m + b2i c)) st := (rfl)
theorem o_sub {m n : Int} : dSub (.int m) (.int n) st = .ok (.int (m - n)) st := (rfl)
theorem o_neg {m : Int} : dNeg (.int m) st = .ok (.int (-m)) st := (rfl)
theorem o_cmp {p : Int → Int → Bool} {m n : Int} : dCmp p (.int m) (.int n) st = .ok (.bl (p m n)) st := (rfl)
theorem o_lt {m n : Int} : dLt (.int m) (.int n) st = .ok (.bl (decide (m < n))) st := (rfl)
theorem o_mod {m n : Int} (h : 0 < n) : dMod (.int m) (.int n) st = .ok (.int (m % n)) st := by
  unfold dMod
  simp only [h, decide_true, if_true]
theorem o_mul {m n : Int} (h : m.natAbs.log2 + n.natAbs.log2 ≤ 999998) : dMul (.int m) (.int n) st = .ok (.int (m * n)) st := by
  unfold dMul
  simp only [Nat.ble_eq_true_of_le h, if_true]
theorem o_div {m n : Int} (h : 0 < n) (h2 : n.natAbs.log2 ≤ 8999) : dFdiv (.int m) (.int n) st = .ok (.int (m / n)) st := by
  unfold dFdiv
  simp only [h, Nat.ble_eq_true_of_le h2, decide_true, Bool.and_self, if_true]
theorem o_pow {m n : Int} (h : (decide (0 ≤ n) && Nat.ble ((m.natAbs.log2 + 1) * n.toNat) 1000000) = true) : dPow (.int m) (.int n) st = .ok (.int (m ^ n.toNat)) st := by
  unfold dPow
  simp only [h, if_true]
theorem o_ix {n : Int} {xs : List D} (hv : items st a = some xs) (h : atI xs n = some d) : dIx a (.int n) st = .ok d st := by
  unfold items at hv
  unfold dIx
  cases q : vw st a <;> rw [q] at hv <;> simp only [Option.some.injEq, reduceCtorEq] at hv <;> subst hv <;> simp only [h]
theorem o_ixT {n : Int} (h : atI ds n = some d) : dIx (.tup ds) (.int n) st = .ok d st := o_ix (xs := ds) rfl h
theorem o_ixL {n : Int} (h : atI ds n = some d) : dIx (.lst ds) (.int n) st = .ok d st := o_ix (xs := ds) rfl h
theorem o_lenT : dLen [.tup ds] st = .ok (.int ds.length) st := (rfl)
theorem o_lenL : dLen [.lst ds] st = .ok (.int ds.length) st := (rfl)
theorem o_len {xs : List D} (hv : items st a = some xs) : dLen [a] st = .ok (.int xs.length) st := by
  unfold items at hv
  unfold dLen
  cases q : vw st a <;> rw [q] at hv <;> simp only [Option.some.injEq, reduceCtorEq] at hv <;> subst hv <;> simp only [q]
theorem o_abs {m : Int} : dAbs [.int m] st = .ok (.int (m.natAbs : Int)) st := by
  have e : (if m < 0 then -m else m) = (m.natAbs : Int) := by split <;> omega
  show Res.ok (D.int (if m < 0 then -m else m)) st = _
  rw [e]
theorem o_int1 {m : Int} : dInt1 [.int m] st = .ok (.int m) st := (rfl)
theorem o_intB {c : Bool} : dInt1 [.bl c] st = .ok (.int (if c then 1 else 0)) st := (rfl)
theorem o_max {m n : Int} : dMax2 [.int m, .int n] st = .ok (.int (if n > m then n else m)) st := (rfl)
theorem o_min {m n : Int} : dMin2 [.int m, .int n] st = .ok (.int (if n < m then n else m)) st := (rfl)
theorem o_eq (h1 : dat 30 (vw st a) = true) (h2 : dat 30 (vw st b) = true) : dEqV a b st = .ok (.bl (dEq (vw st a) (vw st b))) st := by
  unfold dEqV
  split
  · rename_i e1 e2
    rw [e1, e2, dEq]
  · simp only [h1, h2, Bool.and_self, if_true]
theorem o_ne (h1 : dat 30 (vw st a) = true) (h2 : dat 30 (vw st b) = true) : dNeV a b st = .ok (.bl (!dEq (vw st a) (vw st b))) st := by
  unfold dNeV
  split
  · rename_i e1 e2
    rw [e1, e2, dEq]
  · simp only [h1, h2, Bool.and_self, if_true]
theorem o_eqS {x y : List Nat} : dEqV (.str x) (.str y) st = .ok (.bl (eqNs x y)) st := (rfl)
theorem o_neS {x y : List Nat} : dNeV (.str x) (.str y) st = .ok (.bl (!eqNs x y)) st := (rfl)
theorem o_eqI {m n : Int} : dEqV (.int m) (.int n) st = .ok (.bl (m == n)) st := (rfl)
theorem o_neI {m n : Int} : dNeV (.int m) (.int n) st = .ok (.bl (!(m == n))) st := (rfl)
theorem o_isI {m : Int} {y : Ty} : dIsi [.int m, .ty y] st = .ok (.bl (isT .int y)) st := (rfl)
theorem o_isB {c : Bool} {y : Ty} : dIsi [.bl c, .ty y] st = .ok (.bl (isT .bool y)) st := (rfl)
theorem o_isT {y : Ty} : dIsi [.tup ds, .ty y] st = .ok (.bl (isT .tuple y)) st := (rfl)
theorem o_isL {y : Ty} : dIsi [.lst ds, .ty y] st = .ok (.bl (isT .list y)) st := (rfl)
theorem o_isN {y : Ty} : dIsi [.non, .ty y] st = .ok (.bl (isT .none y)) st := (rfl)
theorem o_isS {s : List Nat} {y : Ty} : dIsi [.str s, .ty y] st = .ok (.bl (isT .str y)) st := (rfl)
theorem o_tupL : dTuple [.lst ds] st = .ok (.tup ds) st := (rfl)
theorem o_tupT : dTuple [.tup ds] st = .ok (.tup ds) st := (rfl)
theorem o_rev : dRev (.lst ds) st = .ok (.lst ds.reverse) st := (rfl)
/-! ### statements -/
def RS.thn (r : RS) (h : EvS) : RS := match r with
  | .ok (.nx ρ') st' => h ρ' st'
  | r => r
theorem s_seq : sSeq G H ρ st = (G ρ st).thn H := (rfl)
theorem s_thn : (RS.ok (.nx ρ) st).thn H = H ρ st := (rfl)
theorem s_thnR : (RS.ok (.rt d) st).thn H = .ok (.rt d) st := (rfl)
theorem s_thnB : (RS.ok (.bk ρ) st).thn H = .ok (.bk ρ) st := (rfl)
theorem s_thnC : (RS.ok (.ct ρ) st).thn H = .ok (.ct ρ) st := (rfl)
theorem s_thnX : (RS.exc x ρ st).thn H = .exc x ρ st := (rfl)
theorem s_nil : sNil ρ st = .ok (.nx ρ) st := (rfl)
theorem s_brk : sBrk ρ st = .ok (.bk ρ) st := (rfl)
theorem s_cnt : sCnt ρ st = .ok (.ct ρ) st := (rfl)
def retR (ρ : Env) (r : Res D) : RS := r.into ρ fun d st1 => .ok (.rt d) st1
theorem s_ret : sRet f ρ st = retR ρ (f ρ st) := (rfl)
theorem s_retR : retR ρ (.ok d st) = .ok (.rt d) st := (rfl)
theorem s_retN : sRetN ρ st = .ok (.rt .non) st := (rfl)
def expR (ρ : Env) (r : Res D) : RS := r.into ρ fun _ st1 => .ok (.nx ρ) st1
theorem s_exp : sExp f ρ st = expR ρ (f ρ st) := (rfl)
theorem s_expR : expR ρ (.ok d st) = .ok (.nx ρ) st := (rfl)
def ifR (r : Res Bool) (g h : EvS) (ρ : Env) : RS := r.into ρ fun b st1 => match b with
  | true => g ρ st1
  | false => h ρ st1
theorem s_if : sIf t G H ρ st = ifR (t ρ st) G H ρ := (rfl)
theorem s_ifT : ifR (.ok true st) G H ρ = G ρ st := (rfl)
theorem s_ifF : ifR (.ok false st) G H ρ = H ρ st := (rfl)
def setR (i : Nat) (ρ : Env) (r : Res D) : RS := r.into ρ fun d st1 => .ok (.nx (ρ.set i (some d))) st1
theorem s_set : sSet i f ρ st = setR i ρ (f ρ st) := (rfl)
theorem s_setR : setR i ρ (.ok d st) = .ok (.nx (ρ.set i (some d))) st := (rfl)
def parR (i j : Nat) (ρ : Env) (r : Res (List D)) : RS := r.into ρ fun ds st1 => match ds with
  | [d, e] => .ok (.nx ((ρ.set i (some d)).set j (some e))) st1
  | _ => .bad
theorem s_par : sPar i j fs ρ st = parR i j ρ (fs ρ st) := (rfl)
theorem s_parR : parR i j ρ (.ok [d, e] st) = .ok (.nx ((ρ.set i (some d)).set j (some e))) st := (rfl)
def par3R (i j l : Nat) (ρ : Env) (r : Res (List D)) : RS := r.into ρ fun ds st1 => match ds with
  | [d, e, f] => .ok (.nx (((ρ.set i (some d)).set j (some e)).set l (some f))) st1
  | _ => .bad
theorem s_par3 : sPar3 i j l fs ρ st = par3R i j l ρ (fs ρ st) := (rfl)
theorem s_par3R : par3R i j l ρ (.ok [a, b, d] st) = .ok (.nx (((ρ.set i (some a)).set j (some b)).set l (some d))) st := (rfl)
def asgR (g : EvG) (ρ : Env) (r : Res D) : RS := r.into ρ fun d st1 => match g d ρ with
  | some ρ' => .ok (.nx ρ') st1
  | none => .bad
theorem s_asg {γ : EvG} : sAsg f γ ρ st = asgR γ ρ (f ρ st) := (rfl)
theorem s_asgR {γ : EvG} {ρ' : Env} (h : γ d ρ = some ρ') : asgR γ ρ (.ok d st) = .ok (.nx ρ') st := by
  show (match γ d ρ with
    | some ρ' => RS.ok (.nx ρ') st
    | none => .bad) = _
  rw [h]
def asgR2 (o : Option Env) (st : Sto) : RS := match o with
  | some ρ' => .ok (.nx ρ') st
  | none => .bad
theorem s_asgQ {γ : EvG} : asgR γ ρ (.ok d st) = asgR2 (γ d ρ) st := (rfl)
theorem s_asg2 : asgR2 (some ρ) st = .ok (.nx ρ) st := (rfl)
def subR (r : Res D) (fo fi : Ev) (ρ : Env) : RS := r.into ρ fun d st1 => (fo ρ st1).into ρ fun o st2 => (fi ρ st2).into ρ fun i st3 => match dPut o i d st3 with
  | some st4 => .ok (.nx ρ) st4
  | none => .bad
def subR2 (d : D) (r : Res D) (fi : Ev) (ρ : Env) : RS := r.into ρ fun o st2 => (fi ρ st2).into ρ fun i st3 => match dPut o i d st3 with
  | some st4 => .ok (.nx ρ) st4
  | none => .bad
def subR3 (d o : D) (r : Res D) (ρ : Env) : RS := r.into ρ fun i st3 => match dPut o i d st3 with
  | some st4 => .ok (.nx ρ) st4
  | none => .bad
def putR (r : Option Sto) (ρ : Env) : RS := match r with
  | some st4 => .ok (.nx ρ) st4
  | none => .bad
theorem s_sub : sSub f g h ρ st = subR (f ρ st) g h ρ := (rfl)
theorem s_subR : subR (.ok d st) g h ρ = subR2 d (g ρ st) h ρ := (rfl)
theorem s_subR2 : subR2 d (.ok a st) h ρ = subR3 d a (h ρ st) ρ := (rfl)
theorem s_subR3 : subR3 d a (.ok b st) ρ = putR (dPut a b d st) ρ := (rfl)
theorem s_putR {st4 : Sto} : putR (some st4) ρ = .ok (.nx ρ) st4 := (rfl)
theorem s_put {n k : Nat} {m : Int} (h : st[n]? = some (.lst ds)) (h2 : ixN ds.length m = some k) : dPut (.ref n) (.int m) d st = some (st.set n (.lst (ds.set k d))) := by
  unfold dPut
  simp only [h, h2]
theorem s_fin : RS.fin (.ok (.rt d) st) = .ok d st := (rfl)
theorem s_finN : RS.fin (.ok (.nx ρ) st) = .ok .non st := (rfl)
theorem s_finX : RS.fin (.exc x ρ st) = .exc x st := (rfl)
theorem f_fn {n : Nat} {body : EvS} : fnD n body ds st = (body (ds.map some ++ List.replicate (n - ds.length) none) st).fin := (rfl)
/-! ### loops -/
theorem i_seq {fi : EvI} : cSeqI f ρ st = (f ρ st).bind fun d st1 => match d with
  | .lst xs => .ok xs st1
  | .tup xs => .ok xs st1
  | _ => .bad := (rfl)
def seqR (r : Res D) : Res (List D) := r.bind fun d st1 => match d with
  | .lst xs => .ok xs st1
  | .tup xs => .ok xs st1
  | _ => .bad
theorem e_seqI : cSeqI f ρ st = seqR (f ρ st) := (rfl)
theorem e_seqL : seqR (.ok (.lst ds) st) = .ok ds st := (rfl)
theorem e_seqT : seqR (.ok (.tup ds) st) = .ok ds st := (rfl)
def rng1R (r : Res (List D)) : Res (List D) := r.bind fun ds st1 => match ds with
  | [.int j] => if decide (j < 4000000) && decide (-4000000 < j) then .ok (rng 0 j.toNat) st1 else .bad
  | _ => .bad
theorem e_rng1 : cRng1 fs ρ st = rng1R (fs ρ st) := (rfl)
theorem e_rng1R {n : Int} (h : (decide (n < 4000000) && decide (-4000000 < n)) = true) : rng1R (.ok [.int n] st) = .ok (rng 0 n.toNat) st := if_pos h
def rng2R (r : Res (List D)) : Res (List D) := r.bind fun ds st1 => match ds with
  | [.int i, .int j] => if decide (j < 4000000) && decide (-4000000 < j) && decide (i < 4000000) && decide (-4000000 < i) then .ok (rng i (j - i).toNat) st1 else .bad
  | _ => .bad
theorem e_rng2 : cRng2 fs ρ st = rng2R (fs ρ st) := (rfl)
theorem e_rng2R {m n : Int} (h : (decide (n < 4000000) && decide (-4000000 < n) && decide (m < 4000000) && decide (-4000000 < m)) = true) : rng2R (.ok [.int m, .int n] st) = .ok (rng m (n - m).toNat) st := if_pos h
def zipR (r : Res (List D)) : Res (List D) := r.bind fun ds st1 => match ds with
  | [.lst xs, .lst ys] => .ok (zipD xs ys) st1
  | [.tup xs, .tup ys] => .ok (zipD xs ys) st1
  | _ => .bad
theorem e_zip : cZip fs ρ st = zipR (fs ρ st) := (rfl)
theorem e_zipL {xs ys : List D} : zipR (.ok [.lst xs, .lst ys] st) = .ok (zipD xs ys) st := (rfl)
theorem e_zipT {xs ys : List D} : zipR (.ok [.tup xs, .tup ys] st) = .ok (zipD xs ys) st := (rfl)
def forR (r : Res (List D)) (g : EvG) (body : EvS) (ρ : Env) : RS := r.into ρ fun xs st1 => forD g body xs ρ st1
theorem s_for {fi : EvI} {γ : EvG} : sFor fi γ G ρ st = forR (fi ρ st) γ G ρ := (rfl)
theorem s_forR {γ : EvG} {xs : List D} : forR (.ok xs st) γ G ρ = forD γ G xs ρ st := (rfl)
theorem for_nil {γ : EvG} : forD γ G [] ρ st = .ok (.nx ρ) st := (rfl)
def forS (r : RS) (γ : EvG) (G : EvS) (xs : List D) : RS := match r with
  | .ok (.nx ρ2) st2 => forD γ G xs ρ2 st2
  | .ok (.ct ρ2) st2 => forD γ G xs ρ2 st2
  | .ok (.bk ρ2) st2 => .ok (.nx ρ2) st2
  | r => r
theorem for_cons {γ : EvG} {v : D} {xs : List D} {ρ1 : Env} (h : γ v ρ = some ρ1) : forD γ G (v :: xs) ρ st = forS (G ρ1 st) γ G xs := by
  rw [forD, h]
  rfl
theorem for_nx {γ : EvG} {xs : List D} : forS (.ok (.nx ρ) st) γ G xs = forD γ G xs ρ st := (rfl)
theorem for_ct {γ : EvG} {xs : List D} : forS (.ok (.ct ρ) st) γ G xs = forD γ G xs ρ st := (rfl)
theorem for_bk {γ : EvG} {xs : List D} : forS (.ok (.bk ρ) st) γ G xs = .ok (.nx ρ) st := (rfl)
theorem for_rt {γ : EvG} {xs : List D} : forS (.ok (.rt d) st) γ G xs = .ok (.rt d) st := (rfl)
theorem g_N : gN i d ρ = some (ρ.set i (some d)) := (rfl)
def whR (r : Res Bool) (t : EvT) (G : EvS) (n : Nat) (ρ : Env) : RS := r.into ρ fun b st1 => match b with
  | false => .ok (.nx ρ) st1
  | true => (match G ρ st1 with
    | .ok (.nx ρ2) st2 => whileD t G n ρ2 st2
    | .ok (.ct ρ2) st2 => whileD t G n ρ2 st2
    | .ok (.bk ρ2) st2 => .ok (.nx ρ2) st2
    | r => r)
def whS (r : RS) (t : EvT) (G : EvS) (n : Nat) : RS := match r with
  | .ok (.nx ρ2) st2 => whileD t G n ρ2 st2
  | .ok (.ct ρ2) st2 => whileD t G n ρ2 st2
  | .ok (.bk ρ2) st2 => .ok (.nx ρ2) st2
  | r => r
theorem w_step {n : Nat} : whileD t G (n + 1) ρ st = whR (t ρ st) t G n ρ := (rfl)
theorem w_F {n : Nat} : whR (.ok false st) t G n ρ = .ok (.nx ρ) st := (rfl)
theorem w_T {n : Nat} : whR (.ok true st) t G n ρ = whS (G ρ st) t G n := (rfl)
theorem w_nx {n : Nat} : whS (.ok (.nx ρ) st) t G n = whileD t G n ρ st := (rfl)
/-! ### comprehensions that change nothing -/
def lcR (r : Res (List D)) (g : EvG) (t : EvT) (f : Ev) (vs : List Nat) (ρ : Env) : Res D := r.bind fun xs st1 => (lcD g t f (wipeD ρ vs) xs [] st1).bind fun ds st2 => .ok (.lst ds) st2
theorem e_lc {fi : EvI} {γ : EvG} {vs : List Nat} : cLc fi γ t f vs ρ st = lcR (fi ρ st) γ t f vs ρ := (rfl)
def lcR2 (r : Res (List D)) : Res D := r.bind fun ds st2 => .ok (.lst ds) st2
theorem e_lcR {γ : EvG} {vs : List Nat} {xs : List D} : lcR (.ok xs st) γ t f vs ρ = lcR2 (lcD γ t f (wipeD ρ vs) xs [] st) := (rfl)
theorem e_lcR2 : lcR2 (.ok ds st) = .ok (.lst ds) st := (rfl)
/-- each item's value, the store as it was -/
theorem lc_map {γ : EvG} {f : Ev} {ρ : Env} {st : Sto} (F : D → D) : ∀ (xs acc : List D), (∀ x ∈ xs, ∃ ρ1, γ x ρ = some ρ1 ∧ f ρ1 st = .ok (F x) st) → acc.length + xs.length ≤ 100000 → lcD γ tYesD f ρ xs acc st = .ok (acc ++ xs.map F) st
  | [], acc, _, _ => by
    rw [lcD, List.map_nil, List.append_nil]
  | x :: xs, acc, h, hl => by
    obtain ⟨ρ1, e1, e2⟩ := h x (.head _)
    rw [List.length_cons] at hl
    have hb : big (acc.length + 1) = true := Nat.ble_eq_true_of_le (by omega)
    rw [lcD, e1]
    simp only [tYesD, e2, hb, if_true]
    rw [lc_map F xs (acc ++ [F x]) (fun y hy => h y (.tail _ hy)) (by rw [List.length_append, List.length_singleton]; omega), List.map_cons, List.append_assoc]
    rfl
/-- .. those that a test lets by -/
theorem lc_filter {γ : EvG} {t : EvT} {f : Ev} {ρ : Env} {st : Sto} (F : D → D) (p : D → Bool) : ∀ (xs acc : List D), (∀ x ∈ xs, ∃ ρ1, γ x ρ = some ρ1 ∧ t ρ1 st = .ok (p x) st ∧ (p x = true → f ρ1 st = .ok (F x) st)) → acc.length + xs.length ≤ 100000 → lcD γ t f ρ xs acc st = .ok (acc ++ (xs.filter p).map F) st
  | [], acc, _, _ => by
    rw [lcD, List.filter_nil, List.map_nil, List.append_nil]
  | x :: xs, acc, h, hl => by
    obtain ⟨ρ1, e1, e2, e3⟩ := h x (.head _)
    rw [List.length_cons] at hl
    have hb : big (acc.length + 1) = true := Nat.ble_eq_true_of_le (by omega)
    rw [lcD, e1]
    cases q : p x
    · simp only [e2, q]
      rw [lc_filter F p xs acc (fun y hy => h y (.tail _ hy)) (by omega), List.filter_cons_of_neg (by rw [q]; decide)]
    · simp only [e2, q, e3 q, hb, if_true]
      rw [lc_filter F p xs (acc ++ [F x]) (fun y hy => h y (.tail _ hy)) (by rw [List.length_append, List.length_singleton]; omega), List.filter_cons_of_pos q, List.map_cons, List.append_assoc]
      rfl
end
end G

set_option Elab.async false
set_option linter.all false
set_option maxRecDepth 100000
set_option maxHeartbeats 4000000
/-! Numbers: the pairs as rationals, their sizes; the common divisor's loop. -/
namespace G
open PySem PySem.Spec PyProof.Rows L2
theorem log_le {m k : Nat} (h : m < 2 ^ k) (hk : 0 < k) : m.log2 ≤ k - 1 := by
  by_cases z : m = 0
  · rw [z]
    simp
  · have := (Nat.log2_lt z).2 h
    omega
theorem log_le' {m k : Nat} (h : m < 2 ^ k) : m.log2 ≤ k := by
  by_cases z : k = 0
  · subst z
    have : m = 0 := by omega
    rw [this]
    decide
  · have := log_le h (by omega)
    omega
/-- a rational as the program's pair -/
def dq (q : Rat) : D := .tup [.int q.num, .int (q.den : Int)]
/-- of at most so many digits to the base 2 -/
structure Sm (k : Nat) (q : Rat) : Prop where
  num : q.num.natAbs < 2 ^ k
  den : q.den < 2 ^ k
theorem Sm.mono {k l : Nat} {q : Rat} (h : Sm k q) (hl : k ≤ l) : Sm l q :=
  ⟨Nat.lt_of_lt_of_le h.num (Nat.pow_le_pow_right (by decide) hl), Nat.lt_of_lt_of_le h.den (Nat.pow_le_pow_right (by decide) hl)⟩
theorem natAbs_div_le (a : Int) (b : Nat) : (a / (b : Int)).natAbs ≤ a.natAbs := by
  by_cases hb : b = 0
  · subst hb
    simp
  · have h1 : 0 < (b : Int) := by omega
    rcases Int.le_total 0 a with h | h
    · have e1 : 0 ≤ a / (b : Int) := Int.ediv_nonneg h (by omega)
      have e2 : a / (b : Int) ≤ a := Int.ediv_le_self _ h
      omega
    · have e1 : a ≤ a / (b : Int) := by
        rw [Int.le_ediv_iff_mul_le h1]
        have : a * (b : Int) ≤ a * 1 := Int.mul_le_mul_of_nonpos_left h (by omega)
        omega
      have e2 : a / (b : Int) ≤ 0 := Int.ediv_nonpos_of_nonpos_of_neg h h1 |> fun z => z
      omega

theorem set_self {α : Type} : ∀ {l : List α} {i : Nat} {x : α}, l[i]? = some x → l.set i x = l
  | [], i, x, h => rfl
  | a :: l, 0, x, h => by
    rw [List.getElem?_cons_zero] at h
    cases h
    rfl
  | a :: l, i + 1, x, h => by
    rw [List.getElem?_cons_succ] at h
    rw [List.set_cons_succ, set_self h]
theorem lt_of_get {α : Type} {l : List α} {i : Nat} {x : α} (h : l[i]? = some x) : i < l.length := by
  rcases Nat.lt_or_ge i l.length with q | q
  · exact q
  · rw [List.getElem?_eq_none q] at h
    cases h
theorem set_get {α : Type} {l : List α} {i : Nat} {x y : α} (h : l[i]? = some x) : (l.set i y)[i]? = some y := by
  rw [List.getElem?_set_self (lt_of_get h)]
theorem set_ne {α : Type} {l : List α} {i j : Nat} {y : α} (h : i ≠ j) : (l.set i y)[j]? = l[j]? := List.getElem?_set_ne h
abbrev gcdT (j : Nat) : EvT := cB (cBin (dCmp fun i j => decide (j < i)) (cVar j) (cC (.int 0)))
abbrev gcdB (i j : Nat) : EvS := sPar i j (cCons (cVar j) (cCons (cBin dMod (cVar i) (cVar j)) cNil))
theorem gcd_end {i j n a : Nat} {ρ : Env} {st : Sto} (hi : ρ[i]? = some (some (.int (a : Nat)))) (hj : ρ[j]? = some (some (.int ((0 : Nat) : Int)))) :
    whileD (gcdT j) (gcdB i j) (n + 1) ρ st = .ok (.nx ((ρ.set i (some (.int (a : Nat)))).set j (some (.int 0)))) st := by
  rw [w_step, (show gcdT j ρ st = Res.bool (cBin (dCmp fun i j => decide (j < i)) (cVar j) (cC (.int 0)) ρ st) from rfl), e_bin, e_var hj, e_binR, e_con, e_binR2, o_cmp, e_bool, set_self hi]
  have : decide ((0 : Int) < ((0 : Nat) : Int)) = false := by decide
  rw [this, w_F, set_self (by rw [hj]; rfl)]
theorem gcd_step {i j n a b : Nat} {ρ : Env} {st : Sto} (hb : 0 < b) (hi : ρ[i]? = some (some (.int (a : Nat)))) (hj : ρ[j]? = some (some (.int (b : Nat)))) :
    whileD (gcdT j) (gcdB i j) (n + 1) ρ st = whileD (gcdT j) (gcdB i j) n ((ρ.set i (some (.int (b : Nat)))).set j (some (.int ((a % b : Nat) : Int)))) st := by
  have h0 : (0 : Int) < (b : Int) := by omega
  rw [w_step, (show gcdT j ρ st = Res.bool (cBin (dCmp fun i j => decide (j < i)) (cVar j) (cC (.int 0)) ρ st) from rfl), e_bin, e_var hj, e_binR, e_con, e_binR2, o_cmp, e_bool, decide_eq_true h0, w_T, (show gcdB i j ρ st = parR i j ρ (cCons (cVar j) (cCons (cBin dMod (cVar i) (cVar j)) cNil) ρ st) from rfl), e_cons, e_var hj, e_consR, e_cons, e_bin, e_var hi, e_binR, e_var hj, e_binR2, o_mod h0, e_consR, e_nil, e_consR2, e_consR2, s_parR, w_nx, Int.natCast_emod]
theorem gcd_loop {i j : Nat} (hij : i ≠ j) : ∀ (k n a b : Nat) (ρ : Env) (st : Sto), ρ[i]? = some (some (.int (a : Nat))) → ρ[j]? = some (some (.int (b : Nat))) → b < 2 ^ k → 2 * k + 2 ≤ n →
    whileD (gcdT j) (gcdB i j) n ρ st = .ok (.nx ((ρ.set i (some (.int (Nat.gcd a b : Nat)))).set j (some (.int 0)))) st
  | 0, n, a, b, ρ, st, hi, hj, hb, hn => by
    obtain rfl : b = 0 := by
      have : b < 1 := hb
      omega
    obtain ⟨n, rfl⟩ : ∃ m, n = m + 1 := ⟨n - 1, by omega⟩
    rw [gcd_end hi hj, Nat.gcd_zero_right]
  | k + 1, n, a, b, ρ, st, hi, hj, hb, hn => by
    obtain ⟨n, rfl⟩ : ∃ m, n = m + 2 := ⟨n - 2, by omega⟩
    have pw : 2 ^ (k + 1) = 2 * 2 ^ k := by rw [Nat.pow_succ, Nat.mul_comm]
    rcases Nat.eq_zero_or_pos b with z | z
    · subst z
      rw [gcd_end hi hj, Nat.gcd_zero_right]
    · rw [gcd_step z hi hj]
      have hj1 : ((ρ.set i (some (.int (b : Nat)))).set j (some (D.int ((a % b : Nat) : Int))))[j]? = some (some (.int ((a % b : Nat) : Int))) := set_get (by rw [set_ne hij]; exact hj)
      have hi1 : ((ρ.set i (some (.int (b : Nat)))).set j (some (D.int ((a % b : Nat) : Int))))[i]? = some (some (.int (b : Nat))) := by
        rw [set_ne (Ne.symm hij)]
        exact set_get hi
      have hlt : a % b < b := Nat.mod_lt _ z
      have fin : ∀ (x y z w : Option D), ((((ρ.set i x).set j y).set i z).set j w) = ((ρ.set i z).set j w) := by
        intro x y z w
        rw [List.set_comm x y hij, List.set_set, List.set_comm y z (Ne.symm hij), List.set_set]
      rcases Nat.eq_zero_or_pos (a % b) with z2 | z2
      · rw [z2] at hj1 hi1 ⊢
        rw [gcd_end hi1 hj1, fin]
        rw [Nat.gcd_comm a b, Nat.gcd_rec b a, z2, Nat.gcd_zero_left]
      · rw [gcd_step z2 hi1 hj1]
        have h2 : b % (a % b) < a % b := Nat.mod_lt _ z2
        have h3 : b % (a % b) < 2 ^ k := by
          have := Nat.div_add_mod b (a % b)
          have q : 1 ≤ b / (a % b) := Nat.div_pos (Nat.le_of_lt hlt) z2
          have : a % b * 1 ≤ a % b * (b / (a % b)) := Nat.mul_le_mul_left _ q
          omega
        rw [gcd_loop hij k n _ _ _ st ?_ ?_ h3 (by omega), fin, fin]
        · rw [Nat.gcd_comm a b, Nat.gcd_rec b a, Nat.gcd_comm (a % b) b, Nat.gcd_comm b (a % b), Nat.gcd_rec (a % b) b, Nat.gcd_comm]
        · rw [set_ne (Ne.symm hij)]
          exact set_get hi1
        · exact set_get (by rw [set_ne hij]; exact hj1)
theorem divInt_nat (t : Int) {b : Nat} (h : b ≠ 0) : (Rat.divInt t b).num = t / ((t.natAbs.gcd b : Nat) : Int) ∧ (Rat.divInt t b).den = b / t.natAbs.gcd b := by
  have e : Rat.divInt t b = Rat.normalize t b h := by
    rw [Rat.normalize_eq_mkRat]
    rfl
  rw [e, Rat.normalize_eq]
  exact ⟨rfl, rfl⟩
theorem Sm.divInt {k l : Nat} {t : Int} {b : Nat} (ht : t.natAbs < 2 ^ k) (hb : b < 2 ^ l) (h0 : b ≠ 0) : (Rat.divInt t b).num.natAbs < 2 ^ k ∧ (Rat.divInt t b).den < 2 ^ l := by
  obtain ⟨e1, e2⟩ := divInt_nat t h0
  rw [e1, e2]
  exact ⟨Nat.lt_of_le_of_lt (natAbs_div_le _ _) ht, Nat.lt_of_le_of_lt (Nat.div_le_self _ _) hb⟩
theorem mul_lt {a b k l : Nat} (ha : a < 2 ^ k) (hb : b < 2 ^ l) : a * b < 2 ^ (k + l) := by
  rw [Nat.pow_add]
  exact Nat.mul_lt_mul'' ha hb
theorem Sm.divI {k l : Nat} {t : Int} {b : Int} (ht : t.natAbs < 2 ^ k) (hb : b.natAbs < 2 ^ l) (h0 : b ≠ 0) : (Rat.divInt t b).num.natAbs < 2 ^ k ∧ (Rat.divInt t b).den < 2 ^ l := by
  rcases Int.lt_or_gt_of_ne h0 with h | h
  · have e : Rat.divInt t b = Rat.divInt (-t) (b.natAbs : Int) := by
      rw [Rat.divInt_eq_divInt_iff h0 (by omega)]
      have : (b.natAbs : Int) = - b := by omega
      rw [this, Int.mul_neg, Int.neg_mul]
    rw [e]
    exact Sm.divInt (by omega) hb (by omega)
  · have e : b = (b.natAbs : Int) := by omega
    rw [e]
    exact Sm.divInt ht hb (by omega)
theorem add_eq (x y : Rat) : x + y = Rat.divInt (x.num * y.den + y.num * x.den) ((x.den : Int) * y.den) := by
  conv => lhs; rw [← Rat.num_divInt_den x, ← Rat.num_divInt_den y]
  rw [Rat.divInt_add_divInt _ _ (by have := x.den_nz; omega) (by have := y.den_nz; omega)]
theorem mul_eq (x y : Rat) : x * y = Rat.divInt (x.num * y.num) ((x.den : Int) * y.den) := by
  conv => lhs; rw [← Rat.num_divInt_den x, ← Rat.num_divInt_den y]
  rw [Rat.divInt_mul_divInt]
theorem neg_num (x : Rat) : (-x).num = -x.num ∧ (-x).den = x.den := ⟨rfl, rfl⟩
theorem div_eq (x y : Rat) (h : y ≠ 0) : x / y = Rat.divInt (x.num * y.den) ((x.den : Int) * y.num) := by
  rw [Rat.div_def, Rat.inv_def]
  conv => lhs; rw [← Rat.num_divInt_den x]
  rw [Rat.divInt_mul_divInt]
theorem sub_eq (x y : Rat) : x - y = Rat.divInt (x.num * y.den - y.num * x.den) ((x.den : Int) * y.den) := by
  rw [Rat.sub_eq_add_neg, add_eq, (neg_num y).1, (neg_num y).2, Int.neg_mul, ← Int.sub_eq_add_neg]
section
variable {x y : Rat} {a b : Nat}
theorem Sm.add (hx : Sm a x) (hy : Sm b y) : Sm (a + b + 1) (x + y) := by
  have h1 := mul_lt hx.num hy.den
  have h2 := mul_lt hy.num hx.den
  have h3 := mul_lt hx.den hy.den
  rw [Nat.add_comm b a] at h2
  have dx := x.den_nz
  have dy := y.den_nz
  have pw : 2 ^ (a + b + 1) = 2 * 2 ^ (a + b) := by rw [Nat.pow_succ, Nat.mul_comm]
  have hz : (x.den : Int) * y.den ≠ 0 := Int.mul_ne_zero (by omega) (by omega)
  have := Sm.divI (t := x.num * y.den + y.num * x.den) (b := (x.den : Int) * y.den) (k := a + b + 1) (l := a + b + 1) ?_ ?_ hz
  · rw [← add_eq] at this
    exact ⟨this.1, this.2⟩
  · have e1 : (x.num * y.den).natAbs = x.num.natAbs * y.den := by rw [Int.natAbs_mul]; rfl
    have e2 : (y.num * x.den).natAbs = y.num.natAbs * x.den := by rw [Int.natAbs_mul]; rfl
    have := Int.natAbs_add_le (x.num * y.den) (y.num * x.den)
    omega
  · rw [Int.natAbs_mul]
    show x.den * y.den < _
    omega
theorem Sm.neg (hx : Sm a x) : Sm a (-x) := ⟨by rw [(neg_num x).1, Int.natAbs_neg]; exact hx.num, hx.den⟩
theorem Sm.sub (hx : Sm a x) (hy : Sm b y) : Sm (a + b + 1) (x - y) := by
  rw [Rat.sub_eq_add_neg]
  exact hx.add hy.neg
theorem Sm.mul (hx : Sm a x) (hy : Sm b y) : Sm (a + b) (x * y) := by
  have h1 := mul_lt hx.num hy.num
  have h3 := mul_lt hx.den hy.den
  have dx := x.den_nz
  have dy := y.den_nz
  have hz : (x.den : Int) * y.den ≠ 0 := Int.mul_ne_zero (by omega) (by omega)
  have := Sm.divI (t := x.num * y.num) (b := (x.den : Int) * y.den) (k := a + b) (l := a + b) ?_ ?_ hz
  · rw [← mul_eq] at this
    exact ⟨this.1, this.2⟩
  · rw [Int.natAbs_mul]
    exact h1
  · rw [Int.natAbs_mul]
    exact h3
theorem num_ne (h : y ≠ 0) : y.num ≠ 0 := fun z => h (Rat.num_eq_zero.1 z)
theorem Sm.div (hx : Sm a x) (hy : Sm b y) (h0 : y ≠ 0) : Sm (a + b) (x / y) := by
  have h1 := mul_lt hx.num hy.den
  have h3 := mul_lt hx.den hy.num
  have dx := x.den_nz
  have dy := y.den_nz
  have hz : (x.den : Int) * y.num ≠ 0 := Int.mul_ne_zero (by omega) (num_ne h0)
  have := Sm.divI (t := x.num * y.den) (b := (x.den : Int) * y.num) (k := a + b) (l := a + b) ?_ ?_ hz
  · rw [← div_eq x y h0] at this
    exact ⟨this.1, this.2⟩
  · rw [Int.natAbs_mul]
    exact h1
  · rw [Int.natAbs_mul]
    exact h3
end
theorem dq_zero : dq 0 = .tup [.int 0, .int 1] := rfl
theorem dq_one : dq 1 = .tup [.int 1, .int 1] := rfl
/-! ### what equality and repr say of numbers -/
theorem dq_dat (n : Nat) (q : Rat) : dat (n + 1) (dq q) = true := by cases n <;> rfl
theorem int_beq (i j : Int) : (i == j) = decide (i = j) := by
  by_cases h : i = j
  · rw [decide_eq_true h, h]
    exact beq_self_eq_true j
  · rw [decide_eq_false h]
    exact beq_eq_false_iff_ne.2 h
theorem dq_eq (p q : Rat) : dEq (dq p) (dq q) = decide (p = q) := by
  unfold dq
  rw [dEq, dEqs, dEqs, dEqs, dEq, dEq, Bool.and_true, int_beq, int_beq]
  by_cases h : p = q
  · subst h
    simp
  · rw [decide_eq_false h]
    by_cases h1 : p.num = q.num
    · have h2 : ¬ (p.den : Int) = (q.den : Int) := fun z => h (Rat.ext h1 (by omega))
      rw [decide_eq_false h2, Bool.and_false]
    · rw [decide_eq_false h1, Bool.false_and]
theorem shw_dq {q : Rat} (h : Sm 1919 q) : shw (dq q) = true := by
  have h1 := log_le' h.num
  have h2 := log_le' h.den
  unfold dq
  rw [shw, shws, shws, shws, shw, shw, Bool.and_true]
  have e1 : Nat.blt q.num.natAbs.log2 1920 = true := Nat.ble_eq_true_of_le (by omega)
  have e2 : Nat.blt (q.den : Int).natAbs.log2 1920 = true := Nat.ble_eq_true_of_le (by show q.den.log2 + 1 ≤ 1920; omega)
  rw [e1, e2]
  rfl
theorem wt_dq (q : Rat) : wt (dq q) = 3874 := rfl
end G

set_option Elab.async false
set_option linter.all false
set_option maxRecDepth 100000
set_option maxHeartbeats 4000000
/-! Dice: a list of three integers that each roll changes. -/
namespace G
open PySem PySem.Spec PyProof.Rows L2
theorem ix_ref {st : Sto} {n : Nat} {ds : List D} {m : Int} {d : D} (h : st[n]? = some (.lst ds)) (h2 : atI ds m = some d) : dIx (.ref n) (.int m) st = .ok d st := by
  refine o_ix (xs := ds) ?_ h2
  unfold items vw
  simp only [h]
theorem len_ref {st : Sto} {n : Nat} {ds : List D} (h : st[n]? = some (.lst ds)) : dLen [.ref n] st = .ok (.int ds.length) st := by
  refine o_len (xs := ds) ?_
  unfold items vw
  simp only [h]
/-- the dice at n, after at most N rolls -/
def Dice (n N : Nat) (st : Sto) : Prop := ∃ g s : Int, ∃ c : Nat, st[n]? = some (.lst [.int g, .int s, .int (c : Int)]) ∧ 0 ≤ g ∧ c ≤ N
theorem Dice.mono {n N M : Nat} {st : Sto} (h : Dice n N st) (hm : N ≤ M) : Dice n M st := by
  obtain ⟨g, s, c, e, h1, h2⟩ := h
  exact ⟨g, s, c, e, h1, Nat.le_trans h2 hm⟩
/-- the store behind a roll -/
structure Rolled (n N : Nat) (st st' : Sto) : Prop where
  dice : Dice n N st'
  len : st'.length = st.length
  frame : ∀ m, m ≠ n → st'[m]? = st[m]?
theorem Rolled.trans {n N M : Nat} {st st1 st2 : Sto} (h : Rolled n N st st1) (k : Rolled n M st1 st2) : Rolled n M st st2 :=
  ⟨k.dice, k.len.trans h.len, fun m hm => (k.frame m hm).trans (h.frame m hm)⟩
theorem Rolled.mono {n N M : Nat} {st st1 : Sto} (h : Rolled n N st st1) (hm : N ≤ M) : Rolled n M st st1 := ⟨h.dice.mono hm, h.len, h.frame⟩
theorem Rolled.refl {n N : Nat} {st : Sto} (h : Dice n N st) : Rolled n N st st := ⟨h, rfl, fun _ _ => rfl⟩
abbrev rollF : Fn := fnD 5 (sSeq (sIf (cB (cBin (dCmp fun i j => decide (j < i)) (cBin dIx (cVar 0) (cC (.int 0))) (cC (.int 0)))) (sSeq (sSet 2 (cBin dMod (cBin dIx (cVar 0) (cC (.int 0))) (cVar 1))) (sSeq (sSub (cBin dFdiv (cBin dIx (cVar 0) (cC (.int 0))) (cVar 1)) (cVar 0) (cC (.int 0))) (sRet (cArgs dInt1 (cCons (cVar 2) (cNil)))))) (sNil)) (sSeq (sSub (cBin dAdd (cBin dIx (cVar 0) (cC (.int 2))) (cC (.int 1))) (cVar 0) (cC (.int 2))) (sSeq (sSet 3 (cBin dMod (cBin dAdd (cBin dIx (cVar 0) (cC (.int 1))) (cBin dMul (cC (.int 49979687)) (cBin dIx (cVar 0) (cC (.int 2))))) (cC (.int 2305843009213693951)))) (sSeq (sSet 4 (cBin dAdd (cBin dMul (cBin dMod (cBin dAdd (cBin dMul (cVar 3) (cVar 3)) (cBin dMul (cC (.int 131)) (cBin dIx (cVar 0) (cC (.int 2))))) (cC (.int 2305843009213693921))) (cC (.int 32452843))) (cVar 3))) (sRet (cBin dMod (cArgs dInt1 (cCons (cBin dFdiv (cVar 4) (cC (.int 65587))) (cNil))) (cVar 1)))))))
theorem small_log {m : Int} {k : Nat} (h : m.natAbs < 2 ^ k) : m.natAbs.log2 ≤ k := log_le' h
theorem roll_ok {n N : Nat} {st : Sto} {many : Int} (hd : Dice n N st) (hN : N < 1000000) (h0 : 0 < many) (h1 : many.natAbs.log2 ≤ 8999) :
    ∃ (r : Int) (st' : Sto), rollF [.ref n, .int many] st = .ok (.int r) st' ∧ 0 ≤ r ∧ r < many ∧ Rolled n (N + 1) st st' := by
  obtain ⟨g, s, c, e, hg, hc⟩ := hd
  have x0 := ix_ref (m := 0) e rfl
  have x1 := ix_ref (m := 1) e rfl
  have x2 := ix_ref (m := 2) e rfl
  by_cases hz : 0 < g
  · refine ⟨g % many, st.set n (.lst [.int (g / many), .int s, .int (c : Int)]), ?_, Int.emod_nonneg _ (by omega), Int.emod_lt_of_pos _ h0, ?_⟩
    · unfold rollF
      simp only [G.e_vr, G.e_vrS, G.e_con, G.e_bin, G.e_binR, G.e_binR2, G.e_un, G.e_unR, G.e_B, G.e_bool, G.e_ch, G.e_chR, G.e_chR2, G.e_chR3t, G.e_chR3f, G.e_tru, G.e_truR, G.e_truB, G.e_truI, G.e_truN, G.e_truL, G.e_truT, G.e_not, G.e_notR, G.e_and, G.e_andT, G.e_andF, G.e_or, G.e_orT, G.e_orF, G.e_andV, G.e_andVT, G.e_andVF, G.e_orV, G.e_orVT, G.e_orVF, G.e_notV, G.e_notVR, G.e_if, G.e_ifT, G.e_ifF, G.e_nil, G.e_cons, G.e_consR, G.e_consR2, G.e_tup, G.e_tupR, G.e_lst, G.e_lstR, G.e_new, G.e_newR, G.e_args, G.e_argR, G.e_call, G.e_callR, G.o_add, G.o_addB, G.o_sub, G.o_neg, G.o_cmp, G.o_lt, G.o_mod, G.o_mul, G.o_div, G.o_pow, G.o_ixT, G.o_ixL, G.o_lenT, G.o_lenL, G.o_abs, G.o_int1, G.o_intB, G.o_max, G.o_min, G.o_eqS, G.o_neS, G.o_eqI, G.o_neI, G.o_isI, G.o_isB, G.o_isT, G.o_isL, G.o_isN, G.o_isS, G.o_tupL, G.o_tupT, G.o_rev, G.s_seq, G.s_thn, G.s_thnR, G.s_thnB, G.s_thnC, G.s_thnX, G.s_nil, G.s_brk, G.s_cnt, G.s_ret, G.s_retR, G.s_retN, G.s_exp, G.s_expR, G.s_if, G.s_ifT, G.s_ifF, G.s_set, G.s_setR, G.s_par, G.s_parR, G.s_par3, G.s_par3R, G.s_asg, G.s_asgQ, G.s_asg2, G.s_sub, G.s_subR, G.s_subR2, G.s_subR3, G.s_putR, G.s_fin, G.s_finN, G.s_finX, G.f_fn, G.e_seqI, G.e_seqL, G.e_seqT, G.e_rng1, G.e_rng1R, G.e_rng2, G.e_rng2R, G.e_zip, G.e_zipL, G.e_zipT, G.s_for, G.s_forR, G.for_nil, G.for_nx, G.for_ct, G.for_bk, G.for_rt, G.g_N, G.w_F, G.w_T, G.w_nx, G.e_lc, G.e_lcR, G.e_lcR2, List.map_cons, List.map_nil, List.length_cons, List.length_nil, List.replicate, List.cons_append, List.nil_append, List.append_nil, List.getElem?_cons_zero, List.getElem?_cons_succ, List.set_cons_zero, List.set_cons_succ, Nat.reduceAdd, Nat.reduceSub, if_true, if_false, Bool.not_true, Bool.not_false, decide_true, decide_false, Nat.zero_add, x0, hz, o_mod h0, o_div h0 h1, s_put (m := 0) (k := 0) e rfl]
    · refine ⟨⟨g / many, s, c, set_get e, Int.ediv_nonneg hg (by omega), by omega⟩, List.length_set, fun m hm => set_ne (Ne.symm hm)⟩
  · have y : ∀ (m : Int) (d : D), atI [.int g, .int s, .int ((c : Int) + 1)] m = some d → dIx (.ref n) (.int m) (st.set n (.lst [.int g, .int s, .int ((c : Int) + 1)])) = .ok d (st.set n (.lst [.int g, .int s, .int ((c : Int) + 1)])) := fun m d h => ix_ref (set_get e) h
    have y1 := y 1 _ rfl
    have y2 := y 2 _ rfl
    have c1 : ((c : Int) + 1).natAbs < 2 ^ 20 := by omega
    have L1 := small_log c1
    have m1 : (49979687 : Int).natAbs.log2 + ((c : Int) + 1).natAbs.log2 ≤ 999998 := by
      have : (49979687 : Int).natAbs.log2 = 25 := by decide
      omega
    have m2 : (131 : Int).natAbs.log2 + ((c : Int) + 1).natAbs.log2 ≤ 999998 := by
      have : (131 : Int).natAbs.log2 = 7 := by decide
      omega
    obtain ⟨one, ho⟩ : ∃ one : Int, one = (s + 49979687 * ((c : Int) + 1)) % 2305843009213693951 := ⟨_, rfl⟩
    have o1 : 0 ≤ one := by rw [ho]; exact Int.emod_nonneg _ (by decide)
    have o2 : one < 2305843009213693951 := by rw [ho]; exact Int.emod_lt_of_pos _ (by decide)
    have L2 := small_log (m := one) (k := 62) (by omega)
    have m3 : one.natAbs.log2 + one.natAbs.log2 ≤ 999998 := by omega
    obtain ⟨two, ht⟩ : ∃ two : Int, two = (one * one + 131 * ((c : Int) + 1)) % 2305843009213693921 := ⟨_, rfl⟩
    have t1 : 0 ≤ two := by rw [ht]; exact Int.emod_nonneg _ (by decide)
    have t2 : two < 2305843009213693921 := by rw [ht]; exact Int.emod_lt_of_pos _ (by decide)
    have L3 := small_log (m := two) (k := 62) (by omega)
    have m4 : two.natAbs.log2 + (32452843 : Int).natAbs.log2 ≤ 999998 := by
      have : (32452843 : Int).natAbs.log2 = 24 := by decide
      omega
    refine ⟨(two * 32452843 + one) / 65587 % many, st.set n (.lst [.int g, .int s, .int ((c : Int) + 1)]), ?_, Int.emod_nonneg _ (by omega), Int.emod_lt_of_pos _ h0, ?_⟩
    · unfold rollF
      simp only [G.e_vr, G.e_vrS, G.e_con, G.e_bin, G.e_binR, G.e_binR2, G.e_un, G.e_unR, G.e_B, G.e_bool, G.e_ch, G.e_chR, G.e_chR2, G.e_chR3t, G.e_chR3f, G.e_tru, G.e_truR, G.e_truB, G.e_truI, G.e_truN, G.e_truL, G.e_truT, G.e_not, G.e_notR, G.e_and, G.e_andT, G.e_andF, G.e_or, G.e_orT, G.e_orF, G.e_andV, G.e_andVT, G.e_andVF, G.e_orV, G.e_orVT, G.e_orVF, G.e_notV, G.e_notVR, G.e_if, G.e_ifT, G.e_ifF, G.e_nil, G.e_cons, G.e_consR, G.e_consR2, G.e_tup, G.e_tupR, G.e_lst, G.e_lstR, G.e_new, G.e_newR, G.e_args, G.e_argR, G.e_call, G.e_callR, G.o_add, G.o_addB, G.o_sub, G.o_neg, G.o_cmp, G.o_lt, G.o_mod, G.o_mul, G.o_div, G.o_pow, G.o_ixT, G.o_ixL, G.o_lenT, G.o_lenL, G.o_abs, G.o_int1, G.o_intB, G.o_max, G.o_min, G.o_eqS, G.o_neS, G.o_eqI, G.o_neI, G.o_isI, G.o_isB, G.o_isT, G.o_isL, G.o_isN, G.o_isS, G.o_tupL, G.o_tupT, G.o_rev, G.s_seq, G.s_thn, G.s_thnR, G.s_thnB, G.s_thnC, G.s_thnX, G.s_nil, G.s_brk, G.s_cnt, G.s_ret, G.s_retR, G.s_retN, G.s_exp, G.s_expR, G.s_if, G.s_ifT, G.s_ifF, G.s_set, G.s_setR, G.s_par, G.s_parR, G.s_par3, G.s_par3R, G.s_asg, G.s_asgQ, G.s_asg2, G.s_sub, G.s_subR, G.s_subR2, G.s_subR3, G.s_putR, G.s_fin, G.s_finN, G.s_finX, G.f_fn, G.e_seqI, G.e_seqL, G.e_seqT, G.e_rng1, G.e_rng1R, G.e_rng2, G.e_rng2R, G.e_zip, G.e_zipL, G.e_zipT, G.s_for, G.s_forR, G.for_nil, G.for_nx, G.for_ct, G.for_bk, G.for_rt, G.g_N, G.w_F, G.w_T, G.w_nx, G.e_lc, G.e_lcR, G.e_lcR2, List.map_cons, List.map_nil, List.length_cons, List.length_nil, List.replicate, List.cons_append, List.nil_append, List.append_nil, List.getElem?_cons_zero, List.getElem?_cons_succ, List.set_cons_zero, List.set_cons_succ, Nat.reduceAdd, Nat.reduceSub, if_true, if_false, Bool.not_true, Bool.not_false, decide_true, decide_false, Nat.zero_add, x0, x1, x2, hz, s_put (m := 2) (k := 2) e rfl, y1, y2, o_mul m1, o_mul m2, o_mod (n := 2305843009213693951) (by decide), ← ho, o_mul m3, o_mod (n := 2305843009213693921) (by decide), ← ht, o_mul m4, o_div (n := 65587) (by decide) (by decide), o_mod h0]
    · refine ⟨⟨g, s, c + 1, set_get e, hg, by omega⟩, List.length_set, fun m hm => set_ne (Ne.symm hm)⟩
end G

set_option Elab.async false
set_option linter.all false
set_option maxRecDepth 100000
set_option maxHeartbeats 4000000
/-! Loops with one thing that grows; comprehensions that change the store; small facts. -/
namespace G
open PySem PySem.Spec PyProof.Rows L2
theorem set_mid {ρ : Env} {i a : Nat} (hia : i ≠ a) (u v w z : Option D) : ((((ρ.set i u).set a v).set i w).set a z) = (ρ.set i w).set a z := by
  rw [List.set_comm u v hia, List.set_set, List.set_comm v w (Ne.symm hia), List.set_set]
/-- what the loop's name holds behind it -/
def lastO : Option D → List D → Option D
  | o, [] => o
  | _, x :: xs => lastO (some x) xs
def joinO : Option (Option D) → Option D
  | some o => o
  | none => none
/-- a loop in which one slot grows and the store stays -/
theorem acc_loop {α β : Type} {i a : Nat} (hia : i ≠ a) {body : EvS} {st : Sto} (e : α → D) (f : β → D) (op : β → α → β) (P : β → List α → Prop) (ρ0 : Env)
    (hb : ∀ acc x xs (ρ : Env), P acc (x :: xs) → ρ[a]? = some (some (f acc)) → ρ[i]? = some (some (e x)) → (∀ j, j ≠ i → j ≠ a → ρ[j]? = ρ0[j]?) → body ρ st = .ok (.nx (ρ.set a (some (f (op acc x))))) st ∧ P (op acc x) xs) :
    ∀ (xs : List α) (acc : β) (ρ : Env), P acc xs → ρ[a]? = some (some (f acc)) → (∀ j, j ≠ i → j ≠ a → ρ[j]? = ρ0[j]?) → (ρ[i]?).isSome = true →
      forD (gN i) body (xs.map e) ρ st = .ok (.nx ((ρ.set i (lastO (joinO ρ[i]?) (xs.map e))).set a (some (f (xs.foldl op acc))))) st
  | [], acc, ρ, _, ha, _, hl => by
    obtain ⟨o, ho⟩ := Option.isSome_iff_exists.1 hl
    rw [List.map_nil, for_nil, List.foldl_nil, lastO, ho, joinO, set_self ho, set_self ha]
  | x :: xs, acc, ρ, hP, ha, hj, hl => by
    obtain ⟨o, ho⟩ := Option.isSome_iff_exists.1 hl
    obtain ⟨b1, b2⟩ := hb acc x xs (ρ.set i (some (e x))) hP (by rw [set_ne hia]; exact ha) (set_get ho) (fun j h1 h2 => by rw [set_ne (Ne.symm h1)]; exact hj j h1 h2)
    have la : a < ρ.length := lt_of_get ha
    have hi2 : ((ρ.set i (some (e x))).set a (some (f (op acc x))))[i]? = some (some (e x)) := by rw [set_ne (Ne.symm hia)]; exact set_get ho
    have ih := acc_loop hia e f op P ρ0 hb xs (op acc x) ((ρ.set i (some (e x))).set a (some (f (op acc x)))) b2 (set_get (List.getElem?_eq_getElem (by rw [List.length_set]; exact la)))
      (fun j h1 h2 => by rw [set_ne (Ne.symm h2), set_ne (Ne.symm h1)]; exact hj j h1 h2) (by rw [hi2]; rfl)
    rw [List.map_cons, for_cons (g_N), b1, for_nx, ih, List.foldl_cons, set_mid hia, hi2]
    rfl
/-- .. whatever the names hold -/
theorem lc_invU {α : Type} {γ : EvG} {f : Ev} (R : Env → Prop) (I : List D → List α → Sto → Prop) (e : α → D)
    (h : ∀ x xs acc st, I (x :: xs) acc st → ∃ (d : α) (st2 : Sto), (∀ ρ, R ρ → ∃ ρ1, γ x ρ = some ρ1 ∧ f ρ1 st = .ok (e d) st2) ∧ I xs (acc ++ [d]) st2) :
    ∀ (xs : List D) (acc : List α) (st : Sto), I xs acc st → acc.length + xs.length ≤ 100000 → ∃ (ds : List α) (st' : Sto), (∀ ρ, R ρ → lcD γ tYesD f ρ xs (acc.map e) st = .ok (ds.map e) st') ∧ I [] ds st' ∧ ds.length = acc.length + xs.length
  | [], acc, st, hI, _ => ⟨acc, st, fun ρ _ => by rw [lcD], hI, rfl⟩
  | x :: xs, acc, st, hI, hl => by
    obtain ⟨d, st2, e2, hI2⟩ := h x xs acc st hI
    rw [List.length_cons] at hl
    have hb : big ((acc.map e).length + 1) = true := Nat.ble_eq_true_of_le (by rw [List.length_map]; omega)
    obtain ⟨ds, st', e3, hI3, e4⟩ := lc_invU R I e h xs (acc ++ [d]) st2 hI2 (by rw [List.length_append, List.length_singleton]; omega)
    refine ⟨ds, st', fun ρ hρ => ?_, hI3, by rw [e4, List.length_append, List.length_singleton, List.length_cons]; omega⟩
    obtain ⟨ρ1, e1, e5⟩ := e2 ρ hρ
    rw [lcD, e1]
    simp only [tYesD, e5, hb, if_true]
    rw [← e3 ρ hρ, List.map_append, List.map_cons, List.map_nil]
/-- a comprehension that changes the store -/
theorem lc_inv {α : Type} {γ : EvG} {f : Ev} {ρ : Env} (I : List D → List α → Sto → Prop) (e : α → D)
    (h : ∀ x xs acc st, I (x :: xs) acc st → ∃ ρ1, γ x ρ = some ρ1 ∧ ∃ (d : α) (st2 : Sto), f ρ1 st = .ok (e d) st2 ∧ I xs (acc ++ [d]) st2) :
    ∀ (xs : List D) (acc : List α) (st : Sto), I xs acc st → acc.length + xs.length ≤ 100000 → ∃ (ds : List α) (st' : Sto), lcD γ tYesD f ρ xs (acc.map e) st = .ok (ds.map e) st' ∧ I [] ds st' ∧ ds.length = acc.length + xs.length
  | [], acc, st, hI, _ => ⟨acc, st, by rw [lcD], hI, rfl⟩
  | x :: xs, acc, st, hI, hl => by
    obtain ⟨ρ1, e1, d, st2, e2, hI2⟩ := h x xs acc st hI
    rw [List.length_cons] at hl
    have hb : big ((acc.map e).length + 1) = true := Nat.ble_eq_true_of_le (by rw [List.length_map]; omega)
    obtain ⟨ds, st', e3, hI3, e4⟩ := lc_inv I e h xs (acc ++ [d]) st2 hI2 (by rw [List.length_append, List.length_singleton]; omega)
    refine ⟨ds, st', ?_, hI3, by rw [e4, List.length_append, List.length_singleton, List.length_cons]; omega⟩
    rw [lcD, e1]
    simp only [tYesD, e2, hb, if_true]
    rw [← e3, List.map_append, List.map_cons, List.map_nil]
theorem all_true {α : Type} {st : Sto} : ∀ (xs : List α), dAll [.lst (xs.map fun _ => D.bl true)] st = .ok (.bl true) st := by
  have h : ∀ xs : List α, blsOf (xs.map fun _ => D.bl true) = some (xs.map fun _ => true) := by
    intro xs
    induction xs with
    | nil => rfl
    | cons x xs ih => rw [List.map_cons, blsOf, ih, List.map_cons]
  intro xs
  unfold dAll vw
  simp only [h]
  congr 2
  rw [List.all_map]
  simp
theorem eqNs_self (x : List Nat) : eqNs x x = true := by rw [eqNs_eq, beq_self_eq_true]
theorem ne_dq {x y : Rat} {st : Sto} : dNeV (dq x) (dq y) st = .ok (.bl (!decide (x = y))) st := by
  rw [o_ne (dq_dat _ _) (dq_dat _ _)]
  show Res.ok (D.bl (!dEq (dq x) (dq y))) st = _
  rw [dq_eq]
theorem eq_dq {x y : Rat} {st : Sto} : dEqV (dq x) (dq y) st = .ok (.bl (decide (x = y))) st := by
  rw [o_eq (dq_dat _ _) (dq_dat _ _)]
  show Res.ok (D.bl (dEq (dq x) (dq y))) st = _
  rw [dq_eq]
theorem repr_ok {d : D} {st : Sto} (hv : vw st d = d) (h1 : dat 30 d = true) (h2 : shw d = true) (h3 : wt d ≤ 1000000) : dRepr [d] st = .ok (.str (shown d)) st := by
  have h4 : Nat.ble (wt d) 1000000 = true := Nat.ble_eq_true_of_le h3
  show (if dat 30 (vw st d) && shw (vw st d) && Nat.ble (wt (vw st d)) 1000000 then Res.ok (D.str (shown (vw st d))) st else .bad) = _
  rw [hv, h1, h2, h4]
  rfl
theorem repr_dq {x : Rat} {st : Sto} (h : Sm 1919 x) : dRepr [dq x] st = .ok (.str (shown (dq x))) st :=
  repr_ok rfl (dq_dat _ _) (shw_dq h) (by rw [wt_dq]; decide)
theorem shws_dq : ∀ {qs : List Rat}, (∀ q ∈ qs, Sm 1919 q) → shws (qs.map dq) = true
  | [], _ => rfl
  | q :: qs, h => by rw [List.map_cons, shws, shw_dq (h q (.head _)), shws_dq fun x hx => h x (.tail _ hx), Bool.and_self]
theorem dats_dq (n : Nat) : ∀ {qs : List Rat}, dats (n + 1) (qs.map dq) = true
  | [] => rfl
  | q :: qs => by rw [List.map_cons, dats, dq_dat, dats_dq, Bool.and_self]
theorem wts_dq : ∀ {qs : List Rat}, wts (qs.map dq) = 3876 * qs.length
  | [] => rfl
  | q :: qs => by rw [List.map_cons, wts, wt_dq, wts_dq, List.length_cons]; omega
theorem repr_lst {qs : List Rat} {st : Sto} (h : ∀ q ∈ qs, Sm 1919 q) (hl : qs.length ≤ 250) : dRepr [.lst (qs.map dq)] st = .ok (.str (shown (.lst (qs.map dq)))) st :=
  repr_ok rfl (dats_dq 28) (shws_dq h) (by
    show wts (qs.map dq) + 10 ≤ 1000000
    rw [wts_dq]
    omega)
theorem fold_add (a : Rat) : ∀ qs : List Rat, qs.foldl (· + ·) a = a + qs.foldl (· + ·) 0
  | [] => by rw [List.foldl_nil, List.foldl_nil]; grind
  | q :: qs => by
    rw [List.foldl_cons, List.foldl_cons, fold_add (a + q) qs, fold_add (0 + q) qs]
    grind
theorem fold_rev (qs : List Rat) : qs.reverse.foldl (· + ·) 0 = qs.foldl (· + ·) 0 := by
  induction qs with
  | nil => rfl
  | cons q qs ih =>
    rw [List.reverse_cons, List.foldl_append, ih, List.foldl_cons, List.foldl_cons, List.foldl_nil, fold_add (0 + q) qs]
    grind
theorem atI_nat {xs : List D} {r : Int} (h0 : 0 ≤ r) (h1 : r < xs.length) : ∃ d, atI xs r = some d ∧ d ∈ xs := by
  have h2 : r.toNat < xs.length := by omega
  refine ⟨xs[r.toNat], ?_, List.getElem_mem h2⟩
  unfold atI ixN
  simp only [h0, h1, if_true, Option.bind_some]
  exact List.getElem?_eq_getElem h2
theorem big_1 : big 1 = true := (rfl)
theorem big_2 : big 2 = true := (rfl)
theorem big_3 : big 3 = true := (rfl)
theorem big_4 : big 4 = true := (rfl)
theorem big_5 : big 5 = true := (rfl)
theorem big_6 : big 6 = true := (rfl)
theorem tuple_lst {ds : List D} {st : Sto} : dTuple [.lst ds] st = .ok (.tup ds) st := (rfl)
/-- a loop that keeps something -/
theorem for_inv {γ : EvG} {G : EvS} (I : List D → Env → Sto → Prop)
    (h : ∀ x xs (ρ : Env) st, I (x :: xs) ρ st → ∃ ρ1, γ x ρ = some ρ1 ∧ ∃ ρ2 st2, G ρ1 st = .ok (.nx ρ2) st2 ∧ I xs ρ2 st2) :
    ∀ (xs : List D) (ρ : Env) (st : Sto), I xs ρ st → ∃ ρ' st', forD γ G xs ρ st = .ok (.nx ρ') st' ∧ I [] ρ' st'
  | [], ρ, st, hI => ⟨ρ, st, rfl, hI⟩
  | x :: xs, ρ, st, hI => by
    obtain ⟨ρ1, e1, ρ2, st2, e2, hI2⟩ := h x xs ρ st hI
    obtain ⟨ρ', st', e3, hI3⟩ := for_inv I h xs ρ2 st2 hI2
    exact ⟨ρ', st', by rw [for_cons e1, e2, for_nx, e3], hI3⟩
theorem env6 {ρ : Env} (h : ρ.length = 6) : ∃ a b c d e f, ρ = [a, b, c, d, e, f] := by
  match ρ, h with
  | [a, b, c, d, e, f], _ => exact ⟨a, b, c, d, e, f, rfl⟩
theorem rng_get {lo : Int} {n : Nat} {x : D} (h : x ∈ rng lo n) : ∃ k : Nat, k < n ∧ x = .int (lo + k) := by
  unfold rng at h
  obtain ⟨k, hk, rfl⟩ := List.mem_map.1 h
  exact ⟨k, List.mem_range.1 hk, rfl⟩
end G

set_option Elab.async false
set_option linter.all false
set_option maxRecDepth 100000
set_option maxHeartbeats 0
namespace Kx
open PySem PySem.Spec PyProof.Rows L2 G
abbrev PW : Program := PySem.Challenge.pw_amongliars_k21_whole_numbers
abbrev RWl : PySem.W.OpenLaw := PySem.Challenge.rw_amongliars_k21_whole_numbers
def top (i : Nat) : Stmt := PW.main.body.getD i (.Pass ⟨0, 0, 0, 0⟩)
def c_MOST_PASSED : D := .int 10000000000000000000000000000000000000000
def c_NOUGHT : D := .tup [.int 0, .int 1]
def c_ONE : D := .tup [.int 1, .int 1]
structure Facts (K : PySem.W.Frag) (mg : Str → Option Value) (gl : Nat → Option Addr) where
  f_abs : mg (Str.ofString "abs") = none
  f_all : mg (Str.ofString "all") = none
  f_bool : mg (Str.ofString "bool") = none
  f_int : mg (Str.ofString "int") = none
  f_isinstance : mg (Str.ofString "isinstance") = none
  f_len : mg (Str.ofString "len") = none
  f_max : mg (Str.ofString "max") = none
  f_min : mg (Str.ofString "min") = none
  f_range : mg (Str.ofString "range") = none
  f_repr : mg (Str.ofString "repr") = none
  f_tuple : mg (Str.ofString "tuple") = none
  k_MOST_PASSED : ConAt K mg gl (Str.ofString "MOST_PASSED") c_MOST_PASSED
  k_NOUGHT : ConAt K mg gl (Str.ofString "NOUGHT") c_NOUGHT
  k_ONE : ConAt K mg gl (Str.ofString "ONE") c_ONE
  a__law_dice : Addr
  d__law_dice : FuncData
  t__law_dice : DefAt K mg (Str.ofString "_law_dice") (top 30) [] a__law_dice d__law_dice
  a__law_roll : Addr
  d__law_roll : FuncData
  t__law_roll : DefAt K mg (Str.ofString "_law_roll") (top 31) [] a__law_roll d__law_roll
  a__law_fr : Addr
  d__law_fr : FuncData
  t__law_fr : DefAt K mg (Str.ofString "_law_fr") (top 33) [] a__law_fr d__law_fr
  a__law_pick : Addr
  d__law_pick : FuncData
  t__law_pick : DefAt K mg (Str.ofString "_law_pick") (top 32) [] a__law_pick d__law_pick
  a__law_integer : Addr
  d__law_integer : FuncData
  t__law_integer : DefAt K mg (Str.ofString "_law_integer") (top 37) [] a__law_integer d__law_integer
  a__law_drawn : Addr
  d__law_drawn : FuncData
  t__law_drawn : DefAt K mg (Str.ofString "_law_drawn") (top 38) [] a__law_drawn d__law_drawn
  a_is_integer : Addr
  d_is_integer : FuncData
  t_is_integer : DefAt K mg (Str.ofString "is_integer") (top 10) [] a_is_integer d_is_integer
  a_common_divisor : Addr
  d_common_divisor : FuncData
  t_common_divisor : DefAt K mg (Str.ofString "common_divisor") (top 11) [] a_common_divisor d_common_divisor
  a_is_number : Addr
  d_is_number : FuncData
  t_is_number : DefAt K mg (Str.ofString "is_number") (top 12) [] a_is_number d_is_number
  a_require_number : Addr
  d_require_number : FuncData
  t_require_number : DefAt K mg (Str.ofString "require_number") (top 15) [] a_require_number d_require_number
  a_reduced : Addr
  d_reduced : FuncData
  t_reduced : DefAt K mg (Str.ofString "reduced") (top 13) [] a_reduced d_reduced
  a_added : Addr
  d_added : FuncData
  t_added : DefAt K mg (Str.ofString "added") (top 17) [] a_added d_added
  a_plus : Addr
  d_plus : FuncData
  t_plus : DefAt K mg (Str.ofString "plus") (top 22) [] a_plus d_plus
  a_opposite : Addr
  d_opposite : FuncData
  t_opposite : DefAt K mg (Str.ofString "opposite") (top 19) [] a_opposite d_opposite
  a_minus : Addr
  d_minus : FuncData
  t_minus : DefAt K mg (Str.ofString "minus") (top 23) [] a_minus d_minus
  a_multiplied : Addr
  d_multiplied : FuncData
  t_multiplied : DefAt K mg (Str.ofString "multiplied") (top 18) [] a_multiplied d_multiplied
  a_times : Addr
  d_times : FuncData
  t_times : DefAt K mg (Str.ofString "times") (top 24) [] a_times d_times
  a__law_times : Addr
  d__law_times : FuncData
  t__law_times : DefAt K mg (Str.ofString "_law_times") (top 35) [] a__law_times d__law_times
  a__law_minus : Addr
  d__law_minus : FuncData
  t__law_minus : DefAt K mg (Str.ofString "_law_minus") (top 36) [] a__law_minus d__law_minus
  a__law_plus : Addr
  d__law_plus : FuncData
  t__law_plus : DefAt K mg (Str.ofString "_law_plus") (top 34) [] a__law_plus d__law_plus
  a_divided : Addr
  d_divided : FuncData
  t_divided : DefAt K mg (Str.ofString "divided") (top 20) [] a_divided d_divided
  a_over : Addr
  d_over : FuncData
  t_over : DefAt K mg (Str.ofString "over") (top 25) [] a_over d_over
  a_compared : Addr
  d_compared : FuncData
  t_compared : DefAt K mg (Str.ofString "compared") (top 26) [] a_compared d_compared
  a_sum_of : Addr
  d_sum_of : FuncData
  t_sum_of : DefAt K mg (Str.ofString "sum_of") (top 21) [] a_sum_of d_sum_of
  a_total : Addr
  d_total : FuncData
  t_total : DefAt K mg (Str.ofString "total") (top 27) [] a_total d_total
  a_require_count : Addr
  d_require_count : FuncData
  t_require_count : DefAt K mg (Str.ofString "require_count") (top 16) [dvD (.int 0), dvD (.int 60)] a_require_count d_require_count
  a_power : Addr
  d_power : FuncData
  t_power : DefAt K mg (Str.ofString "power") (top 28) [] a_power d_power
  a_number : Addr
  d_number : FuncData
  t_number : DefAt K mg (Str.ofString "number") (top 14) [dvD (.int 1)] a_number d_number
  a__law_right : Addr
  d__law_right : FuncData
  t__law_right : DefAt K mg (Str.ofString "_law_right") (top 39) [] a__law_right d__law_right
  a_law : Addr
  d_law : FuncData
  t_law : DefAt K mg (Str.ofString "law") (top 40) [] a_law d_law
  b__law_dice_2 : ∃ ds, Vals ((([] : List D).map dvD).map (He.Dv.v K)) ds ∧ Binds K d__law_dice [Str.ofString "script", Str.ofString "spot"] ds
  b__law_drawn_1 : ∃ ds, Vals ((([] : List D).map dvD).map (He.Dv.v K)) ds ∧ Binds K d__law_drawn [Str.ofString "dice"] ds
  b__law_fr_2 : ∃ ds, Vals ((([] : List D).map dvD).map (He.Dv.v K)) ds ∧ Binds K d__law_fr [Str.ofString "top", Str.ofString "bottom"] ds
  b__law_integer_1 : ∃ ds, Vals ((([] : List D).map dvD).map (He.Dv.v K)) ds ∧ Binds K d__law_integer [Str.ofString "dice"] ds
  b__law_minus_2 : ∃ ds, Vals ((([] : List D).map dvD).map (He.Dv.v K)) ds ∧ Binds K d__law_minus [Str.ofString "one", Str.ofString "other"] ds
  b__law_pick_2 : ∃ ds, Vals ((([] : List D).map dvD).map (He.Dv.v K)) ds ∧ Binds K d__law_pick [Str.ofString "dice", Str.ofString "items"] ds
  b__law_plus_2 : ∃ ds, Vals ((([] : List D).map dvD).map (He.Dv.v K)) ds ∧ Binds K d__law_plus [Str.ofString "one", Str.ofString "other"] ds
  b__law_right_1 : ∃ ds, Vals ((([] : List D).map dvD).map (He.Dv.v K)) ds ∧ Binds K d__law_right [Str.ofString "dice"] ds
  b__law_roll_2 : ∃ ds, Vals ((([] : List D).map dvD).map (He.Dv.v K)) ds ∧ Binds K d__law_roll [Str.ofString "dice", Str.ofString "many"] ds
  b__law_times_2 : ∃ ds, Vals ((([] : List D).map dvD).map (He.Dv.v K)) ds ∧ Binds K d__law_times [Str.ofString "one", Str.ofString "other"] ds
  b_added_2 : ∃ ds, Vals ((([] : List D).map dvD).map (He.Dv.v K)) ds ∧ Binds K d_added [Str.ofString "one", Str.ofString "other"] ds
  b_common_divisor_2 : ∃ ds, Vals ((([] : List D).map dvD).map (He.Dv.v K)) ds ∧ Binds K d_common_divisor [Str.ofString "one", Str.ofString "other"] ds
  b_compared_2 : ∃ ds, Vals ((([] : List D).map dvD).map (He.Dv.v K)) ds ∧ Binds K d_compared [Str.ofString "one", Str.ofString "other"] ds
  b_divided_2 : ∃ ds, Vals ((([] : List D).map dvD).map (He.Dv.v K)) ds ∧ Binds K d_divided [Str.ofString "one", Str.ofString "other"] ds
  b_is_integer_1 : ∃ ds, Vals ((([] : List D).map dvD).map (He.Dv.v K)) ds ∧ Binds K d_is_integer [Str.ofString "value"] ds
  b_is_number_1 : ∃ ds, Vals ((([] : List D).map dvD).map (He.Dv.v K)) ds ∧ Binds K d_is_number [Str.ofString "value"] ds
  b_minus_2 : ∃ ds, Vals ((([] : List D).map dvD).map (He.Dv.v K)) ds ∧ Binds K d_minus [Str.ofString "one", Str.ofString "other"] ds
  b_multiplied_2 : ∃ ds, Vals ((([] : List D).map dvD).map (He.Dv.v K)) ds ∧ Binds K d_multiplied [Str.ofString "one", Str.ofString "other"] ds
  b_number_1 : ∃ ds, Vals ((([.int 1] : List D).map dvD).map (He.Dv.v K)) ds ∧ Binds K d_number [Str.ofString "top", Str.ofString "bottom"] ds
  b_number_2 : ∃ ds, Vals ((([] : List D).map dvD).map (He.Dv.v K)) ds ∧ Binds K d_number [Str.ofString "top", Str.ofString "bottom"] ds
  b_opposite_1 : ∃ ds, Vals ((([] : List D).map dvD).map (He.Dv.v K)) ds ∧ Binds K d_opposite [Str.ofString "one"] ds
  b_over_2 : ∃ ds, Vals ((([] : List D).map dvD).map (He.Dv.v K)) ds ∧ Binds K d_over [Str.ofString "one", Str.ofString "other"] ds
  b_plus_2 : ∃ ds, Vals ((([] : List D).map dvD).map (He.Dv.v K)) ds ∧ Binds K d_plus [Str.ofString "one", Str.ofString "other"] ds
  b_power_2 : ∃ ds, Vals ((([] : List D).map dvD).map (He.Dv.v K)) ds ∧ Binds K d_power [Str.ofString "one", Str.ofString "many"] ds
  b_reduced_2 : ∃ ds, Vals ((([] : List D).map dvD).map (He.Dv.v K)) ds ∧ Binds K d_reduced [Str.ofString "top", Str.ofString "bottom"] ds
  b_require_count_1 : ∃ ds, Vals ((([.int 0, .int 60] : List D).map dvD).map (He.Dv.v K)) ds ∧ Binds K d_require_count [Str.ofString "value", Str.ofString "least", Str.ofString "most"] ds
  b_require_number_1 : ∃ ds, Vals ((([] : List D).map dvD).map (He.Dv.v K)) ds ∧ Binds K d_require_number [Str.ofString "value"] ds
  b_sum_of_1 : ∃ ds, Vals ((([] : List D).map dvD).map (He.Dv.v K)) ds ∧ Binds K d_sum_of [Str.ofString "numbers"] ds
  b_times_2 : ∃ ds, Vals ((([] : List D).map dvD).map (He.Dv.v K)) ds ∧ Binds K d_times [Str.ofString "one", Str.ofString "other"] ds
  b_total_1 : ∃ ds, Vals ((([] : List D).map dvD).map (He.Dv.v K)) ds ∧ Binds K d_total [Str.ofString "numbers"] ds
section
variable {P : Program} {w : World} {K : PySem.W.Frag} {mg : Str → Option Value} {base : Heap} {gl : Nat → Option Addr}
def m__law_dice : Fn := fnD 5 (sSeq (sSet 2 (cIf (cB (cBin dLt (cVar 1) (cArgs dLen (cCons (cVar 0) (cNil))))) (cArgs dInt1 (cCons (cBin dIx (cVar 0) (cVar 1)) (cNil))) (cBin dAdd (cBin dMul (cC (.int 131)) (cVar 1)) (cC (.int 37))))) (sSeq (sSet 3 (cBin dMod (cArgs dInt1 (cCons (cArgs dAbs (cCons (cVar 2) (cNil))) (cNil))) (cBin dPow (cBin dPow (cC (.int 10)) (cC (.int 53))) (cC (.int 6))))) (sSeq (sSet 4 (cBin dAdd (cBin dAdd (cBin dAdd (cBin dMul (cBin dMod (cVar 3) (cC (.int 2305843009213693907))) (cC (.int 73))) (cBin dMul (cC (.int 619)) (cVar 1))) (cBin dMul (cC (.int 41)) (cArgs dInt1 (cCons (cBin dLt (cVar 2) (cC (.int 0))) (cNil))))) (cC (.int 17)))) (sRet (cNew (cCons (cArgs dMax2 (cCons (cC (.int 0)) (cCons (cBin dSub (cVar 3) (cBin dPow (cC (.int 10)) (cC (.int 16)))) (cNil)))) (cCons (cVar 4) (cCons (cC (.int 0)) (cNil)))))))))
abbrev n__law_dice : List Str := [Str.ofString "script", Str.ofString "spot", Str.ofString "cell", Str.ofString "great", Str.ofString "seed"]
abbrev p__law_dice : List Str := [Str.ofString "script", Str.ofString "spot"]
theorem s__law_dice : FnScope n__law_dice p__law_dice (defScope (top 30)) := ⟨rfl, rfl, rfl, by decide +kernel, rfl, by decide +kernel, by decide +kernel⟩
theorem o__law_dice (T : Facts K mg gl) : FnG P w K mg base gl 1 T.a__law_dice T.d__law_dice p__law_dice m__law_dice :=
  FnG.of T.t__law_dice.fn s__law_dice (fun cdv A outer s H E hot hr hgd => SB.cons (SS.set 2 s__law_dice.nd (SE.ifExp (ST.cmp op_ltAll dLt_ok (SE.var 1) (SE.callB call_len dLen_ok rfl T.f_len bb_len (SA.cons (SE.var 0) (SA.nil))) (nomark _)) (SE.callTy call_int1 dInt1_ok rfl T.f_int bt_int (SA.cons (SE.ix rfl (SE.var 0) (SE.var 1)) (SA.nil))) (SE.op op_addAll dAdd_ok (SE.op op_mulW dMul_ok (SE.int) (SE.var 1)) (SE.int)))) (SB.cons (SS.set 3 s__law_dice.nd (SE.op op_mod dMod_ok (SE.callTy call_int1 dInt1_ok rfl T.f_int bt_int (SA.cons (SE.callB call_abs dAbs_ok rfl T.f_abs bb_abs (SA.cons (SE.var 2) (SA.nil))) (SA.nil))) (SE.op op_powW dPow_ok (SE.op op_powW dPow_ok (SE.int) (SE.int)) (SE.int)))) (SB.cons (SS.set 4 s__law_dice.nd (SE.op op_addAll dAdd_ok (SE.op op_addAll dAdd_ok (SE.op op_addAll dAdd_ok (SE.op op_mulW dMul_ok (SE.op op_mod dMod_ok (SE.var 3) (SE.int)) (SE.int)) (SE.op op_mulW dMul_ok (SE.int) (SE.var 1))) (SE.op op_mulW dMul_ok (SE.int) (SE.callTy call_int1 dInt1_ok rfl T.f_int bt_int (SA.cons (SE.cmp op_ltAll dLt_ok (SE.var 2) (SE.int) (nomark _)) (SA.nil))))) (SE.int))) (SB.one (SS.ret (SE.new (SA.cons (SE.callB (call_max2 rfl) dMax2_ok rfl T.f_max bb_max (SA.cons (SE.int) (SA.cons (SE.op op_sub dSub_ok (SE.var 3) (SE.op op_powW dPow_ok (SE.int) (SE.int))) (SA.nil)))) (SA.cons (SE.var 4) (SA.cons (SE.int) (SA.nil))))))))))
def m__law_roll : Fn := fnD 5 (sSeq (sIf (cB (cBin (dCmp fun i j => decide (j < i)) (cBin dIx (cVar 0) (cC (.int 0))) (cC (.int 0)))) (sSeq (sSet 2 (cBin dMod (cBin dIx (cVar 0) (cC (.int 0))) (cVar 1))) (sSeq (sSub (cBin dFdiv (cBin dIx (cVar 0) (cC (.int 0))) (cVar 1)) (cVar 0) (cC (.int 0))) (sRet (cArgs dInt1 (cCons (cVar 2) (cNil)))))) (sNil)) (sSeq (sSub (cBin dAdd (cBin dIx (cVar 0) (cC (.int 2))) (cC (.int 1))) (cVar 0) (cC (.int 2))) (sSeq (sSet 3 (cBin dMod (cBin dAdd (cBin dIx (cVar 0) (cC (.int 1))) (cBin dMul (cC (.int 49979687)) (cBin dIx (cVar 0) (cC (.int 2))))) (cC (.int 2305843009213693951)))) (sSeq (sSet 4 (cBin dAdd (cBin dMul (cBin dMod (cBin dAdd (cBin dMul (cVar 3) (cVar 3)) (cBin dMul (cC (.int 131)) (cBin dIx (cVar 0) (cC (.int 2))))) (cC (.int 2305843009213693921))) (cC (.int 32452843))) (cVar 3))) (sRet (cBin dMod (cArgs dInt1 (cCons (cBin dFdiv (cVar 4) (cC (.int 65587))) (cNil))) (cVar 1)))))))
abbrev n__law_roll : List Str := [Str.ofString "dice", Str.ofString "many", Str.ofString "found", Str.ofString "one", Str.ofString "two"]
abbrev p__law_roll : List Str := [Str.ofString "dice", Str.ofString "many"]
theorem s__law_roll : FnScope n__law_roll p__law_roll (defScope (top 31)) := ⟨rfl, rfl, rfl, by decide +kernel, rfl, by decide +kernel, by decide +kernel⟩
theorem o__law_roll (T : Facts K mg gl) : FnG P w K mg base gl 1 T.a__law_roll T.d__law_roll p__law_roll m__law_roll :=
  FnG.of T.t__law_roll.fn s__law_roll (fun cdv A outer s H E hot hr hgd => SB.cons (SS.if_ (ST.cmp op_gt dCmp_ok (SE.ix rfl (SE.var 0) (SE.int)) (SE.int) (nomark _)) (SB.cons (SS.set 2 s__law_roll.nd (SE.op op_mod dMod_ok (SE.ix rfl (SE.var 0) (SE.int)) (SE.var 1))) (SB.cons (SS.sub (SE.op op_fdivW dFdiv_ok (SE.ix rfl (SE.var 0) (SE.int)) (SE.var 1)) (SE.var 0) (SE.int)) (SB.one (SS.ret (SE.callTy call_int1 dInt1_ok rfl T.f_int bt_int (SA.cons (SE.var 2) (SA.nil))))))) (SB.nil)) (SB.cons (SS.sub (SE.op op_addAll dAdd_ok (SE.ix rfl (SE.var 0) (SE.int)) (SE.int)) (SE.var 0) (SE.int)) (SB.cons (SS.set 3 s__law_roll.nd (SE.op op_mod dMod_ok (SE.op op_addAll dAdd_ok (SE.ix rfl (SE.var 0) (SE.int)) (SE.op op_mulW dMul_ok (SE.int) (SE.ix rfl (SE.var 0) (SE.int)))) (SE.int))) (SB.cons (SS.set 4 s__law_roll.nd (SE.op op_addAll dAdd_ok (SE.op op_mulW dMul_ok (SE.op op_mod dMod_ok (SE.op op_addAll dAdd_ok (SE.op op_mulW dMul_ok (SE.var 3) (SE.var 3)) (SE.op op_mulW dMul_ok (SE.int) (SE.ix rfl (SE.var 0) (SE.int)))) (SE.int)) (SE.int)) (SE.var 3))) (SB.one (SS.ret (SE.op op_mod dMod_ok (SE.callTy call_int1 dInt1_ok rfl T.f_int bt_int (SA.cons (SE.op op_fdivW dFdiv_ok (SE.var 4) (SE.int)) (SA.nil))) (SE.var 1))))))))
def m__law_fr : Fn := fnD 5 (sSeq (sPar 2 3 (cCons (cArgs dAbs (cCons (cVar 0) (cNil))) (cCons (cArgs dAbs (cCons (cVar 1) (cNil))) (cNil)))) (sSeq (whileD (cB (cBin (dCmp fun i j => decide (j < i)) (cVar 3) (cC (.int 0)))) (sPar 2 3 (cCons (cVar 3) (cCons (cBin dMod (cVar 2) (cVar 3)) (cNil)))) 100000) (sSeq (sSet 4 (cIf (cB (cBin dLt (cVar 1) (cC (.int 0)))) (cUn dNeg (cC (.int 1))) (cC (.int 1)))) (sRet (cTup (cCons (cBin dFdiv (cBin dMul (cVar 4) (cVar 0)) (cVar 2)) (cCons (cBin dFdiv (cBin dMul (cVar 4) (cVar 1)) (cVar 2)) (cNil))))))))
abbrev n__law_fr : List Str := [Str.ofString "top", Str.ofString "bottom", Str.ofString "one", Str.ofString "other", Str.ofString "sign"]
abbrev p__law_fr : List Str := [Str.ofString "top", Str.ofString "bottom"]
theorem s__law_fr : FnScope n__law_fr p__law_fr (defScope (top 33)) := ⟨rfl, rfl, rfl, by decide +kernel, rfl, by decide +kernel, by decide +kernel⟩
theorem o__law_fr (T : Facts K mg gl) : FnG P w K mg base gl 1 T.a__law_fr T.d__law_fr p__law_fr m__law_fr :=
  FnG.of T.t__law_fr.fn s__law_fr (fun cdv A outer s H E hot hr hgd => SB.cons (SS.par 2 3 s__law_fr.nd rfl (SA.cons (SE.callB call_abs dAbs_ok rfl T.f_abs bb_abs (SA.cons (SE.var 0) (SA.nil))) (SA.cons (SE.callB call_abs dAbs_ok rfl T.f_abs bb_abs (SA.cons (SE.var 1) (SA.nil))) (SA.nil)))) (SB.cons (SS.while_ 100000 (passes_of rfl) (ST.cmp op_gt dCmp_ok (SE.var 3) (SE.int) (nomark _)) (SB.one (SS.par 2 3 s__law_fr.nd rfl (SA.cons (SE.var 3) (SA.cons (SE.op op_mod dMod_ok (SE.var 2) (SE.var 3)) (SA.nil)))))) (SB.cons (SS.set 4 s__law_fr.nd (SE.ifExp (ST.cmp op_ltAll dLt_ok (SE.var 1) (SE.int) (nomark _)) (SE.un un_neg dNeg_ok (SE.int)) (SE.int))) (SB.one (SS.ret (SE.tup (SA.cons (SE.op op_fdivW dFdiv_ok (SE.op op_mulW dMul_ok (SE.var 4) (SE.var 0)) (SE.var 2)) (SA.cons (SE.op op_fdivW dFdiv_ok (SE.op op_mulW dMul_ok (SE.var 4) (SE.var 1)) (SE.var 2)) (SA.nil)))))))))
def m__law_pick : Fn := fnD 2 (sRet (cBin dIx (cVar 1) (cCall m__law_roll [] (cCons (cVar 0) (cCons (cArgs dLen (cCons (cVar 1) (cNil))) (cNil))))))
abbrev n__law_pick : List Str := [Str.ofString "dice", Str.ofString "items"]
abbrev p__law_pick : List Str := [Str.ofString "dice", Str.ofString "items"]
theorem s__law_pick : FnScope n__law_pick p__law_pick (defScope (top 32)) := ⟨rfl, rfl, rfl, by decide +kernel, rfl, by decide +kernel, by decide +kernel⟩
theorem o__law_pick (T : Facts K mg gl) : FnG P w K mg base gl 2 T.a__law_pick T.d__law_pick p__law_pick m__law_pick :=
  FnG.of T.t__law_pick.fn s__law_pick (fun cdv A outer s H E hot hr hgd => SB.one (SS.ret (SE.ix rfl (SE.var 1) (SE.fn (dd := []) (o__law_roll T) T.t__law_roll rfl (hr.mono (by decide)) hgd (T.b__law_roll_2) rfl (SA.cons (SE.var 0) (SA.cons (SE.callB call_len dLen_ok rfl T.f_len bb_len (SA.cons (SE.var 1) (SA.nil))) (SA.nil))) rfl (cCons_len (cCons_len cNil_len))))))
def m__law_integer : Fn := fnD 2 (sSeq (sSet 1 (cCall m__law_pick [] (cCons (cVar 0) (cCons (cLst (cCons (cC (.int 10)) (cCons (cC (.int 10)) (cCons (cC (.int 10)) (cCons (cC (.int 100)) (cCons (cBin dPow (cC (.int 10)) (cC (.int 6))) (cCons (cBin dPow (cC (.int 10)) (cC (.int 19))) (cNil)))))))) (cNil))))) (sRet (cBin dMul (cBin dAdd (cC (.int 1)) (cCall m__law_roll [] (cCons (cVar 0) (cCons (cVar 1) (cNil))))) (cCall m__law_pick [] (cCons (cVar 0) (cCons (cLst (cCons (cC (.int 1)) (cCons (cUn dNeg (cC (.int 1))) (cNil)))) (cNil)))))))
abbrev n__law_integer : List Str := [Str.ofString "dice", Str.ofString "bound"]
abbrev p__law_integer : List Str := [Str.ofString "dice"]
theorem s__law_integer : FnScope n__law_integer p__law_integer (defScope (top 37)) := ⟨rfl, rfl, rfl, by decide +kernel, rfl, by decide +kernel, by decide +kernel⟩
theorem o__law_integer (T : Facts K mg gl) : FnG P w K mg base gl 3 T.a__law_integer T.d__law_integer p__law_integer m__law_integer :=
  FnG.of T.t__law_integer.fn s__law_integer (fun cdv A outer s H E hot hr hgd => SB.cons (SS.set 1 s__law_integer.nd (SE.fn (dd := []) (o__law_pick T) T.t__law_pick rfl (hr.mono (by decide)) hgd (T.b__law_pick_2) rfl (SA.cons (SE.var 0) (SA.cons (SE.lst (SA.cons (SE.int) (SA.cons (SE.int) (SA.cons (SE.int) (SA.cons (SE.int) (SA.cons (SE.op op_powW dPow_ok (SE.int) (SE.int)) (SA.cons (SE.op op_powW dPow_ok (SE.int) (SE.int)) (SA.nil)))))))) (SA.nil))) rfl (cCons_len (cCons_len cNil_len)))) (SB.one (SS.ret (SE.op op_mulW dMul_ok (SE.op op_addAll dAdd_ok (SE.int) (SE.fn (dd := []) (o__law_roll T) T.t__law_roll rfl (hr.mono (by decide)) hgd (T.b__law_roll_2) rfl (SA.cons (SE.var 0) (SA.cons (SE.var 1) (SA.nil))) rfl (cCons_len (cCons_len cNil_len)))) (SE.fn (dd := []) (o__law_pick T) T.t__law_pick rfl (hr.mono (by decide)) hgd (T.b__law_pick_2) rfl (SA.cons (SE.var 0) (SA.cons (SE.lst (SA.cons (SE.int) (SA.cons (SE.un un_neg dNeg_ok (SE.int)) (SA.nil)))) (SA.nil))) rfl (cCons_len (cCons_len cNil_len)))))))
def m__law_drawn : Fn := fnD 1 (sSeq (sIf (cB (cBin dEqV (cCall m__law_roll [] (cCons (cVar 0) (cCons (cC (.int 6)) (cNil)))) (cC (.int 0)))) (sRet (cTup (cCons (cC (.int 0)) (cCons (cC (.int 1)) (cNil))))) (sNil)) (sRet (cCall m__law_fr [] (cCons (cCall m__law_integer [] (cCons (cVar 0) (cNil))) (cCons (cArgs dAbs (cCons (cCall m__law_integer [] (cCons (cVar 0) (cNil))) (cNil))) (cNil))))))
abbrev n__law_drawn : List Str := [Str.ofString "dice"]
abbrev p__law_drawn : List Str := [Str.ofString "dice"]
theorem s__law_drawn : FnScope n__law_drawn p__law_drawn (defScope (top 38)) := ⟨rfl, rfl, rfl, by decide +kernel, rfl, by decide +kernel, by decide +kernel⟩
theorem o__law_drawn (T : Facts K mg gl) : FnG P w K mg base gl 4 T.a__law_drawn T.d__law_drawn p__law_drawn m__law_drawn :=
  FnG.of T.t__law_drawn.fn s__law_drawn (fun cdv A outer s H E hot hr hgd => SB.cons (SS.if_ (ST.cmp (op_eqAll hr.units) dEqV_ok (SE.fn (dd := []) (o__law_roll T) T.t__law_roll rfl (hr.mono (by decide)) hgd (T.b__law_roll_2) rfl (SA.cons (SE.var 0) (SA.cons (SE.int) (SA.nil))) rfl (cCons_len (cCons_len cNil_len))) (SE.int) (nomark _)) (SB.one (SS.ret (SE.tup (SA.cons (SE.int) (SA.cons (SE.int) (SA.nil)))))) (SB.nil)) (SB.one (SS.ret (SE.fn (dd := []) (o__law_fr T) T.t__law_fr rfl (hr.mono (by decide)) hgd (T.b__law_fr_2) rfl (SA.cons (SE.fn (dd := []) (o__law_integer T) T.t__law_integer rfl (hr.mono (by decide)) hgd (T.b__law_integer_1) rfl (SA.cons (SE.var 0) (SA.nil)) rfl (cCons_len cNil_len)) (SA.cons (SE.callB call_abs dAbs_ok rfl T.f_abs bb_abs (SA.cons (SE.fn (dd := []) (o__law_integer T) T.t__law_integer rfl (hr.mono (by decide)) hgd (T.b__law_integer_1) rfl (SA.cons (SE.var 0) (SA.nil)) rfl (cCons_len cNil_len)) (SA.nil))) (SA.nil))) rfl (cCons_len (cCons_len cNil_len))))))
def m_is_integer : Fn := fnD 1 (sRet (cAndV (cArgs dIsi (cCons (cVar 0) (cCons (cC (.ty .int)) (cNil)))) (cNotV (cArgs dIsi (cCons (cVar 0) (cCons (cC (.ty .bool)) (cNil)))))))
abbrev n_is_integer : List Str := [Str.ofString "value"]
abbrev p_is_integer : List Str := [Str.ofString "value"]
theorem s_is_integer : FnScope n_is_integer p_is_integer (defScope (top 10)) := ⟨rfl, rfl, rfl, by decide +kernel, rfl, by decide +kernel, by decide +kernel⟩
theorem o_is_integer (T : Facts K mg gl) : FnG P w K mg base gl 1 T.a_is_integer T.d_is_integer p_is_integer m_is_integer :=
  FnG.of T.t_is_integer.fn s_is_integer (fun cdv A outer s H E hot hr hgd => SB.one (SS.ret (SE.and (SE.callB call_isi dIsi_ok rfl T.f_isinstance bb_isinstance (SA.cons (SE.var 0) (SA.cons (SE.bltn (n := .int) rfl T.f_int bt_int) (SA.nil)))) (SE.one (SE.not (SE.callB call_isi dIsi_ok rfl T.f_isinstance bb_isinstance (SA.cons (SE.var 0) (SA.cons (SE.bltn (n := .bool) rfl T.f_bool bt_bool) (SA.nil)))))))))
def m_common_divisor : Fn := fnD 2 (sSeq (sPar 0 1 (cCons (cArgs dAbs (cCons (cVar 0) (cNil))) (cCons (cArgs dAbs (cCons (cVar 1) (cNil))) (cNil)))) (sSeq (whileD (cB (cBin (dCmp fun i j => decide (j < i)) (cVar 1) (cC (.int 0)))) (sPar 0 1 (cCons (cVar 1) (cCons (cBin dMod (cVar 0) (cVar 1)) (cNil)))) 100000) (sRet (cVar 0))))
abbrev n_common_divisor : List Str := [Str.ofString "one", Str.ofString "other"]
abbrev p_common_divisor : List Str := [Str.ofString "one", Str.ofString "other"]
theorem s_common_divisor : FnScope n_common_divisor p_common_divisor (defScope (top 11)) := ⟨rfl, rfl, rfl, by decide +kernel, rfl, by decide +kernel, by decide +kernel⟩
theorem o_common_divisor (T : Facts K mg gl) : FnG P w K mg base gl 1 T.a_common_divisor T.d_common_divisor p_common_divisor m_common_divisor :=
  FnG.of T.t_common_divisor.fn s_common_divisor (fun cdv A outer s H E hot hr hgd => SB.cons (SS.par 0 1 s_common_divisor.nd rfl (SA.cons (SE.callB call_abs dAbs_ok rfl T.f_abs bb_abs (SA.cons (SE.var 0) (SA.nil))) (SA.cons (SE.callB call_abs dAbs_ok rfl T.f_abs bb_abs (SA.cons (SE.var 1) (SA.nil))) (SA.nil)))) (SB.cons (SS.while_ 100000 (passes_of rfl) (ST.cmp op_gt dCmp_ok (SE.var 1) (SE.int) (nomark _)) (SB.one (SS.par 0 1 s_common_divisor.nd rfl (SA.cons (SE.var 1) (SA.cons (SE.op op_mod dMod_ok (SE.var 0) (SE.var 1)) (SA.nil)))))) (SB.one (SS.ret (SE.var 0)))))
def m_is_number : Fn := fnD 2 (sSeq (sIf (cOr (cNot (cTru (cArgs dIsi (cCons (cVar 0) (cCons (cC (.ty .tuple)) (cNil)))))) (cOr (cB (cBin dNeV (cArgs dLen (cCons (cVar 0) (cNil))) (cC (.int 2)))) (cNot (cTru (cArgs dAll (cCons (cLc (cSeqI (cVar 0)) (gN 1) (tYesD) (cCall m_is_integer [] (cCons (cVar 1) (cNil))) [1]) (cNil))))))) (sRet (cC (.bl false))) (sNil)) (sRet (cAndV (cBin (dCmp fun i j => decide (j ≤ i)) (cBin dIx (cVar 0) (cC (.int 1))) (cC (.int 1))) (cBin dEqV (cCall m_common_divisor [] (cCons (cBin dIx (cVar 0) (cC (.int 0))) (cCons (cBin dIx (cVar 0) (cC (.int 1))) (cNil)))) (cC (.int 1))))))
abbrev n_is_number : List Str := [Str.ofString "value", Str.ofString "one"]
abbrev p_is_number : List Str := [Str.ofString "value"]
theorem s_is_number : FnScope n_is_number p_is_number (defScope (top 12)) := ⟨rfl, rfl, rfl, by decide +kernel, rfl, by decide +kernel, by decide +kernel⟩
theorem o_is_number (T : Facts K mg gl) : FnG P w K mg base gl 2 T.a_is_number T.d_is_number p_is_number m_is_number :=
  FnG.of T.t_is_number.fn s_is_number (fun cdv A outer s H E hot hr hgd => SB.cons (SS.if_ (ST.of (SW.or (ST.not (ST.tru rfl (SE.callB call_isi dIsi_ok rfl T.f_isinstance bb_isinstance (SA.cons (SE.var 0) (SA.cons (SE.bltn (n := .tuple) rfl T.f_tuple bt_tuple) (SA.nil)))))) (SW.or (ST.cmp (op_neAll hr.units) dNeV_ok (SE.callB call_len dLen_ok rfl T.f_len bb_len (SA.cons (SE.var 0) (SA.nil))) (SE.int) (nomark _)) (SW.or1 (ST.not (ST.tru rfl (SE.callB (cr_all rfl) dAll_ok rfl T.f_all bb_all (SA.cons (SE.lc (own := [(Str.ofString "one", 1)]) (o1 := [1]) rfl s_is_number.nd (SI.seq rfl (SE.var 0)) (blkOk_by (by kernel_rfl)) (by decide) (fun _ _ _ _ _ _ => SG.name 1 s_is_number.nd) (fun _ _ _ _ _ _ => STs.nil) (fun _ _ _ _ _ _ => SE.fn (dd := []) (o_is_integer T) T.t_is_integer rfl (hr.mono (by decide)) hgd (T.b_is_integer_1) rfl (SA.cons (SE.var 1) (SA.nil)) rfl (cCons_len cNil_len))) (SA.nil))))))))) (SB.one (SS.ret (SE.bl))) (SB.nil)) (SB.one (SS.ret (SE.and (SE.cmp op_ge dCmp_ok (SE.ix rfl (SE.var 0) (SE.int)) (SE.int) (nomark _)) (SE.one (SE.cmp (op_eqAll hr.units) dEqV_ok (SE.fn (dd := []) (o_common_divisor T) T.t_common_divisor rfl (hr.mono (by decide)) hgd (T.b_common_divisor_2) rfl (SA.cons (SE.ix rfl (SE.var 0) (SE.int)) (SA.cons (SE.ix rfl (SE.var 0) (SE.int)) (SA.nil))) rfl (cCons_len (cCons_len cNil_len))) (SE.int) (nomark _)))))))
def m_require_number : Fn := fnD 1 (sIf (cNot (cTru (cCall m_is_number [] (cCons (cVar 0) (cNil))))) (sBad) (sNil))
abbrev n_require_number : List Str := [Str.ofString "value"]
abbrev p_require_number : List Str := [Str.ofString "value"]
theorem s_require_number : FnScope n_require_number p_require_number (defScope (top 15)) := ⟨rfl, rfl, rfl, by decide +kernel, rfl, by decide +kernel, by decide +kernel⟩
theorem o_require_number (T : Facts K mg gl) : FnG P w K mg base gl 3 T.a_require_number T.d_require_number p_require_number m_require_number :=
  FnG.of T.t_require_number.fn s_require_number (fun cdv A outer s H E hot hr hgd => SB.one (SS.if_ (ST.not (ST.tru rfl (SE.fn (dd := []) (o_is_number T) T.t_is_number rfl (hr.mono (by decide)) hgd (T.b_is_number_1) rfl (SA.cons (SE.var 0) (SA.nil)) rfl (cCons_len cNil_len)))) (SB.one (SS.never)) (SB.nil)))
def m_reduced : Fn := fnD 3 (sSeq (sIf (cB (cBin dLt (cVar 1) (cC (.int 0)))) (sPar 0 1 (cCons (cBin dSub (cC (.int 0)) (cVar 0)) (cCons (cBin dSub (cC (.int 0)) (cVar 1)) (cNil)))) (sNil)) (sSeq (sSet 2 (cCall m_common_divisor [] (cCons (cVar 0) (cCons (cVar 1) (cNil))))) (sRet (cTup (cCons (cBin dFdiv (cVar 0) (cVar 2)) (cCons (cBin dFdiv (cVar 1) (cVar 2)) (cNil)))))))
abbrev n_reduced : List Str := [Str.ofString "top", Str.ofString "bottom", Str.ofString "divisor"]
abbrev p_reduced : List Str := [Str.ofString "top", Str.ofString "bottom"]
theorem s_reduced : FnScope n_reduced p_reduced (defScope (top 13)) := ⟨rfl, rfl, rfl, by decide +kernel, rfl, by decide +kernel, by decide +kernel⟩
theorem o_reduced (T : Facts K mg gl) : FnG P w K mg base gl 2 T.a_reduced T.d_reduced p_reduced m_reduced :=
  FnG.of T.t_reduced.fn s_reduced (fun cdv A outer s H E hot hr hgd => SB.cons (SS.if_ (ST.cmp op_ltAll dLt_ok (SE.var 1) (SE.int) (nomark _)) (SB.one (SS.par 0 1 s_reduced.nd rfl (SA.cons (SE.op op_sub dSub_ok (SE.int) (SE.var 0)) (SA.cons (SE.op op_sub dSub_ok (SE.int) (SE.var 1)) (SA.nil))))) (SB.nil)) (SB.cons (SS.set 2 s_reduced.nd (SE.fn (dd := []) (o_common_divisor T) T.t_common_divisor rfl (hr.mono (by decide)) hgd (T.b_common_divisor_2) rfl (SA.cons (SE.var 0) (SA.cons (SE.var 1) (SA.nil))) rfl (cCons_len (cCons_len cNil_len)))) (SB.one (SS.ret (SE.tup (SA.cons (SE.op op_fdivW dFdiv_ok (SE.var 0) (SE.var 2)) (SA.cons (SE.op op_fdivW dFdiv_ok (SE.var 1) (SE.var 2)) (SA.nil))))))))
def m_added : Fn := fnD 2 (sSeq (sIf (cB (cChain dEqV dEqV (cBin dIx (cVar 0) (cC (.int 1))) (cBin dIx (cVar 1) (cC (.int 1))) (cC (.int 1)))) (sRet (cTup (cCons (cBin dAdd (cBin dIx (cVar 0) (cC (.int 0))) (cBin dIx (cVar 1) (cC (.int 0)))) (cCons (cC (.int 1)) (cNil))))) (sNil)) (sRet (cCall m_reduced [] (cCons (cBin dAdd (cBin dMul (cBin dIx (cVar 0) (cC (.int 0))) (cBin dIx (cVar 1) (cC (.int 1)))) (cBin dMul (cBin dIx (cVar 1) (cC (.int 0))) (cBin dIx (cVar 0) (cC (.int 1))))) (cCons (cBin dMul (cBin dIx (cVar 0) (cC (.int 1))) (cBin dIx (cVar 1) (cC (.int 1)))) (cNil))))))
abbrev n_added : List Str := [Str.ofString "one", Str.ofString "other"]
abbrev p_added : List Str := [Str.ofString "one", Str.ofString "other"]
theorem s_added : FnScope n_added p_added (defScope (top 17)) := ⟨rfl, rfl, rfl, by decide +kernel, rfl, by decide +kernel, by decide +kernel⟩
theorem o_added (T : Facts K mg gl) : FnG P w K mg base gl 3 T.a_added T.d_added p_added m_added :=
  FnG.of T.t_added.fn s_added (fun cdv A outer s H E hot hr hgd => SB.cons (SS.if_ (ST.chain (op_eqAll hr.units) (op_eqAll hr.units) dEqV_ok dEqV_ok (SE.ix rfl (SE.var 0) (SE.int)) (SE.ix rfl (SE.var 1) (SE.int)) (SE.int)) (SB.one (SS.ret (SE.tup (SA.cons (SE.op op_addAll dAdd_ok (SE.ix rfl (SE.var 0) (SE.int)) (SE.ix rfl (SE.var 1) (SE.int))) (SA.cons (SE.int) (SA.nil)))))) (SB.nil)) (SB.one (SS.ret (SE.fn (dd := []) (o_reduced T) T.t_reduced rfl (hr.mono (by decide)) hgd (T.b_reduced_2) rfl (SA.cons (SE.op op_addAll dAdd_ok (SE.op op_mulW dMul_ok (SE.ix rfl (SE.var 0) (SE.int)) (SE.ix rfl (SE.var 1) (SE.int))) (SE.op op_mulW dMul_ok (SE.ix rfl (SE.var 1) (SE.int)) (SE.ix rfl (SE.var 0) (SE.int)))) (SA.cons (SE.op op_mulW dMul_ok (SE.ix rfl (SE.var 0) (SE.int)) (SE.ix rfl (SE.var 1) (SE.int))) (SA.nil))) rfl (cCons_len (cCons_len cNil_len))))))
def m_plus : Fn := fnD 2 (sSeq (sExp (cCall m_require_number [] (cCons (cVar 0) (cNil)))) (sSeq (sExp (cCall m_require_number [] (cCons (cVar 1) (cNil)))) (sRet (cCall m_added [] (cCons (cVar 0) (cCons (cVar 1) (cNil)))))))
abbrev n_plus : List Str := [Str.ofString "one", Str.ofString "other"]
abbrev p_plus : List Str := [Str.ofString "one", Str.ofString "other"]
theorem s_plus : FnScope n_plus p_plus (defScope (top 22)) := ⟨rfl, rfl, rfl, by decide +kernel, rfl, by decide +kernel, by decide +kernel⟩
theorem o_plus (T : Facts K mg gl) : FnG P w K mg base gl 4 T.a_plus T.d_plus p_plus m_plus :=
  FnG.of T.t_plus.fn s_plus (fun cdv A outer s H E hot hr hgd => SB.cons (SS.expr (SE.fn (dd := []) (o_require_number T) T.t_require_number rfl (hr.mono (by decide)) hgd (T.b_require_number_1) rfl (SA.cons (SE.var 0) (SA.nil)) rfl (cCons_len cNil_len))) (SB.cons (SS.expr (SE.fn (dd := []) (o_require_number T) T.t_require_number rfl (hr.mono (by decide)) hgd (T.b_require_number_1) rfl (SA.cons (SE.var 1) (SA.nil)) rfl (cCons_len cNil_len))) (SB.one (SS.ret (SE.fn (dd := []) (o_added T) T.t_added rfl (hr.mono (by decide)) hgd (T.b_added_2) rfl (SA.cons (SE.var 0) (SA.cons (SE.var 1) (SA.nil))) rfl (cCons_len (cCons_len cNil_len)))))))
def m_opposite : Fn := fnD 1 (sRet (cTup (cCons (cBin dSub (cC (.int 0)) (cBin dIx (cVar 0) (cC (.int 0)))) (cCons (cBin dIx (cVar 0) (cC (.int 1))) (cNil)))))
abbrev n_opposite : List Str := [Str.ofString "one"]
abbrev p_opposite : List Str := [Str.ofString "one"]
theorem s_opposite : FnScope n_opposite p_opposite (defScope (top 19)) := ⟨rfl, rfl, rfl, by decide +kernel, rfl, by decide +kernel, by decide +kernel⟩
theorem o_opposite (T : Facts K mg gl) : FnG P w K mg base gl 1 T.a_opposite T.d_opposite p_opposite m_opposite :=
  FnG.of T.t_opposite.fn s_opposite (fun cdv A outer s H E hot hr hgd => SB.one (SS.ret (SE.tup (SA.cons (SE.op op_sub dSub_ok (SE.int) (SE.ix rfl (SE.var 0) (SE.int))) (SA.cons (SE.ix rfl (SE.var 0) (SE.int)) (SA.nil))))))
def m_minus : Fn := fnD 2 (sSeq (sExp (cCall m_require_number [] (cCons (cVar 0) (cNil)))) (sSeq (sExp (cCall m_require_number [] (cCons (cVar 1) (cNil)))) (sRet (cCall m_added [] (cCons (cVar 0) (cCons (cCall m_opposite [] (cCons (cVar 1) (cNil))) (cNil)))))))
abbrev n_minus : List Str := [Str.ofString "one", Str.ofString "other"]
abbrev p_minus : List Str := [Str.ofString "one", Str.ofString "other"]
theorem s_minus : FnScope n_minus p_minus (defScope (top 23)) := ⟨rfl, rfl, rfl, by decide +kernel, rfl, by decide +kernel, by decide +kernel⟩
theorem o_minus (T : Facts K mg gl) : FnG P w K mg base gl 4 T.a_minus T.d_minus p_minus m_minus :=
  FnG.of T.t_minus.fn s_minus (fun cdv A outer s H E hot hr hgd => SB.cons (SS.expr (SE.fn (dd := []) (o_require_number T) T.t_require_number rfl (hr.mono (by decide)) hgd (T.b_require_number_1) rfl (SA.cons (SE.var 0) (SA.nil)) rfl (cCons_len cNil_len))) (SB.cons (SS.expr (SE.fn (dd := []) (o_require_number T) T.t_require_number rfl (hr.mono (by decide)) hgd (T.b_require_number_1) rfl (SA.cons (SE.var 1) (SA.nil)) rfl (cCons_len cNil_len))) (SB.one (SS.ret (SE.fn (dd := []) (o_added T) T.t_added rfl (hr.mono (by decide)) hgd (T.b_added_2) rfl (SA.cons (SE.var 0) (SA.cons (SE.fn (dd := []) (o_opposite T) T.t_opposite rfl (hr.mono (by decide)) hgd (T.b_opposite_1) rfl (SA.cons (SE.var 1) (SA.nil)) rfl (cCons_len cNil_len)) (SA.nil))) rfl (cCons_len (cCons_len cNil_len)))))))
def m_multiplied : Fn := fnD 2 (sSeq (sIf (cB (cChain dEqV dEqV (cBin dIx (cVar 0) (cC (.int 1))) (cBin dIx (cVar 1) (cC (.int 1))) (cC (.int 1)))) (sRet (cTup (cCons (cBin dMul (cBin dIx (cVar 0) (cC (.int 0))) (cBin dIx (cVar 1) (cC (.int 0)))) (cCons (cC (.int 1)) (cNil))))) (sNil)) (sRet (cCall m_reduced [] (cCons (cBin dMul (cBin dIx (cVar 0) (cC (.int 0))) (cBin dIx (cVar 1) (cC (.int 0)))) (cCons (cBin dMul (cBin dIx (cVar 0) (cC (.int 1))) (cBin dIx (cVar 1) (cC (.int 1)))) (cNil))))))
abbrev n_multiplied : List Str := [Str.ofString "one", Str.ofString "other"]
abbrev p_multiplied : List Str := [Str.ofString "one", Str.ofString "other"]
theorem s_multiplied : FnScope n_multiplied p_multiplied (defScope (top 18)) := ⟨rfl, rfl, rfl, by decide +kernel, rfl, by decide +kernel, by decide +kernel⟩
theorem o_multiplied (T : Facts K mg gl) : FnG P w K mg base gl 3 T.a_multiplied T.d_multiplied p_multiplied m_multiplied :=
  FnG.of T.t_multiplied.fn s_multiplied (fun cdv A outer s H E hot hr hgd => SB.cons (SS.if_ (ST.chain (op_eqAll hr.units) (op_eqAll hr.units) dEqV_ok dEqV_ok (SE.ix rfl (SE.var 0) (SE.int)) (SE.ix rfl (SE.var 1) (SE.int)) (SE.int)) (SB.one (SS.ret (SE.tup (SA.cons (SE.op op_mulW dMul_ok (SE.ix rfl (SE.var 0) (SE.int)) (SE.ix rfl (SE.var 1) (SE.int))) (SA.cons (SE.int) (SA.nil)))))) (SB.nil)) (SB.one (SS.ret (SE.fn (dd := []) (o_reduced T) T.t_reduced rfl (hr.mono (by decide)) hgd (T.b_reduced_2) rfl (SA.cons (SE.op op_mulW dMul_ok (SE.ix rfl (SE.var 0) (SE.int)) (SE.ix rfl (SE.var 1) (SE.int))) (SA.cons (SE.op op_mulW dMul_ok (SE.ix rfl (SE.var 0) (SE.int)) (SE.ix rfl (SE.var 1) (SE.int))) (SA.nil))) rfl (cCons_len (cCons_len cNil_len))))))
def m_times : Fn := fnD 2 (sSeq (sExp (cCall m_require_number [] (cCons (cVar 0) (cNil)))) (sSeq (sExp (cCall m_require_number [] (cCons (cVar 1) (cNil)))) (sRet (cCall m_multiplied [] (cCons (cVar 0) (cCons (cVar 1) (cNil)))))))
abbrev n_times : List Str := [Str.ofString "one", Str.ofString "other"]
abbrev p_times : List Str := [Str.ofString "one", Str.ofString "other"]
theorem s_times : FnScope n_times p_times (defScope (top 24)) := ⟨rfl, rfl, rfl, by decide +kernel, rfl, by decide +kernel, by decide +kernel⟩
theorem o_times (T : Facts K mg gl) : FnG P w K mg base gl 4 T.a_times T.d_times p_times m_times :=
  FnG.of T.t_times.fn s_times (fun cdv A outer s H E hot hr hgd => SB.cons (SS.expr (SE.fn (dd := []) (o_require_number T) T.t_require_number rfl (hr.mono (by decide)) hgd (T.b_require_number_1) rfl (SA.cons (SE.var 0) (SA.nil)) rfl (cCons_len cNil_len))) (SB.cons (SS.expr (SE.fn (dd := []) (o_require_number T) T.t_require_number rfl (hr.mono (by decide)) hgd (T.b_require_number_1) rfl (SA.cons (SE.var 1) (SA.nil)) rfl (cCons_len cNil_len))) (SB.one (SS.ret (SE.fn (dd := []) (o_multiplied T) T.t_multiplied rfl (hr.mono (by decide)) hgd (T.b_multiplied_2) rfl (SA.cons (SE.var 0) (SA.cons (SE.var 1) (SA.nil))) rfl (cCons_len (cCons_len cNil_len)))))))
def m__law_times : Fn := fnD 2 (sRet (cCall m__law_fr [] (cCons (cBin dMul (cBin dIx (cVar 0) (cC (.int 0))) (cBin dIx (cVar 1) (cC (.int 0)))) (cCons (cBin dMul (cBin dIx (cVar 0) (cC (.int 1))) (cBin dIx (cVar 1) (cC (.int 1)))) (cNil)))))
abbrev n__law_times : List Str := [Str.ofString "one", Str.ofString "other"]
abbrev p__law_times : List Str := [Str.ofString "one", Str.ofString "other"]
theorem s__law_times : FnScope n__law_times p__law_times (defScope (top 35)) := ⟨rfl, rfl, rfl, by decide +kernel, rfl, by decide +kernel, by decide +kernel⟩
theorem o__law_times (T : Facts K mg gl) : FnG P w K mg base gl 2 T.a__law_times T.d__law_times p__law_times m__law_times :=
  FnG.of T.t__law_times.fn s__law_times (fun cdv A outer s H E hot hr hgd => SB.one (SS.ret (SE.fn (dd := []) (o__law_fr T) T.t__law_fr rfl (hr.mono (by decide)) hgd (T.b__law_fr_2) rfl (SA.cons (SE.op op_mulW dMul_ok (SE.ix rfl (SE.var 0) (SE.int)) (SE.ix rfl (SE.var 1) (SE.int))) (SA.cons (SE.op op_mulW dMul_ok (SE.ix rfl (SE.var 0) (SE.int)) (SE.ix rfl (SE.var 1) (SE.int))) (SA.nil))) rfl (cCons_len (cCons_len cNil_len)))))
def m__law_minus : Fn := fnD 2 (sRet (cCall m__law_fr [] (cCons (cBin dSub (cBin dMul (cBin dIx (cVar 0) (cC (.int 0))) (cBin dIx (cVar 1) (cC (.int 1)))) (cBin dMul (cBin dIx (cVar 1) (cC (.int 0))) (cBin dIx (cVar 0) (cC (.int 1))))) (cCons (cBin dMul (cBin dIx (cVar 0) (cC (.int 1))) (cBin dIx (cVar 1) (cC (.int 1)))) (cNil)))))
abbrev n__law_minus : List Str := [Str.ofString "one", Str.ofString "other"]
abbrev p__law_minus : List Str := [Str.ofString "one", Str.ofString "other"]
theorem s__law_minus : FnScope n__law_minus p__law_minus (defScope (top 36)) := ⟨rfl, rfl, rfl, by decide +kernel, rfl, by decide +kernel, by decide +kernel⟩
theorem o__law_minus (T : Facts K mg gl) : FnG P w K mg base gl 2 T.a__law_minus T.d__law_minus p__law_minus m__law_minus :=
  FnG.of T.t__law_minus.fn s__law_minus (fun cdv A outer s H E hot hr hgd => SB.one (SS.ret (SE.fn (dd := []) (o__law_fr T) T.t__law_fr rfl (hr.mono (by decide)) hgd (T.b__law_fr_2) rfl (SA.cons (SE.op op_sub dSub_ok (SE.op op_mulW dMul_ok (SE.ix rfl (SE.var 0) (SE.int)) (SE.ix rfl (SE.var 1) (SE.int))) (SE.op op_mulW dMul_ok (SE.ix rfl (SE.var 1) (SE.int)) (SE.ix rfl (SE.var 0) (SE.int)))) (SA.cons (SE.op op_mulW dMul_ok (SE.ix rfl (SE.var 0) (SE.int)) (SE.ix rfl (SE.var 1) (SE.int))) (SA.nil))) rfl (cCons_len (cCons_len cNil_len)))))
def m__law_plus : Fn := fnD 2 (sRet (cCall m__law_fr [] (cCons (cBin dAdd (cBin dMul (cBin dIx (cVar 0) (cC (.int 0))) (cBin dIx (cVar 1) (cC (.int 1)))) (cBin dMul (cBin dIx (cVar 1) (cC (.int 0))) (cBin dIx (cVar 0) (cC (.int 1))))) (cCons (cBin dMul (cBin dIx (cVar 0) (cC (.int 1))) (cBin dIx (cVar 1) (cC (.int 1)))) (cNil)))))
abbrev n__law_plus : List Str := [Str.ofString "one", Str.ofString "other"]
abbrev p__law_plus : List Str := [Str.ofString "one", Str.ofString "other"]
theorem s__law_plus : FnScope n__law_plus p__law_plus (defScope (top 34)) := ⟨rfl, rfl, rfl, by decide +kernel, rfl, by decide +kernel, by decide +kernel⟩
theorem o__law_plus (T : Facts K mg gl) : FnG P w K mg base gl 2 T.a__law_plus T.d__law_plus p__law_plus m__law_plus :=
  FnG.of T.t__law_plus.fn s__law_plus (fun cdv A outer s H E hot hr hgd => SB.one (SS.ret (SE.fn (dd := []) (o__law_fr T) T.t__law_fr rfl (hr.mono (by decide)) hgd (T.b__law_fr_2) rfl (SA.cons (SE.op op_addAll dAdd_ok (SE.op op_mulW dMul_ok (SE.ix rfl (SE.var 0) (SE.int)) (SE.ix rfl (SE.var 1) (SE.int))) (SE.op op_mulW dMul_ok (SE.ix rfl (SE.var 1) (SE.int)) (SE.ix rfl (SE.var 0) (SE.int)))) (SA.cons (SE.op op_mulW dMul_ok (SE.ix rfl (SE.var 0) (SE.int)) (SE.ix rfl (SE.var 1) (SE.int))) (SA.nil))) rfl (cCons_len (cCons_len cNil_len)))))
def m_divided : Fn := fnD 2 (sRet (cCall m_reduced [] (cCons (cBin dMul (cBin dIx (cVar 0) (cC (.int 0))) (cBin dIx (cVar 1) (cC (.int 1)))) (cCons (cBin dMul (cBin dIx (cVar 0) (cC (.int 1))) (cBin dIx (cVar 1) (cC (.int 0)))) (cNil)))))
abbrev n_divided : List Str := [Str.ofString "one", Str.ofString "other"]
abbrev p_divided : List Str := [Str.ofString "one", Str.ofString "other"]
theorem s_divided : FnScope n_divided p_divided (defScope (top 20)) := ⟨rfl, rfl, rfl, by decide +kernel, rfl, by decide +kernel, by decide +kernel⟩
theorem o_divided (T : Facts K mg gl) : FnG P w K mg base gl 3 T.a_divided T.d_divided p_divided m_divided :=
  FnG.of T.t_divided.fn s_divided (fun cdv A outer s H E hot hr hgd => SB.one (SS.ret (SE.fn (dd := []) (o_reduced T) T.t_reduced rfl (hr.mono (by decide)) hgd (T.b_reduced_2) rfl (SA.cons (SE.op op_mulW dMul_ok (SE.ix rfl (SE.var 0) (SE.int)) (SE.ix rfl (SE.var 1) (SE.int))) (SA.cons (SE.op op_mulW dMul_ok (SE.ix rfl (SE.var 0) (SE.int)) (SE.ix rfl (SE.var 1) (SE.int))) (SA.nil))) rfl (cCons_len (cCons_len cNil_len)))))
def m_over : Fn := fnD 2 (sSeq (sExp (cCall m_require_number [] (cCons (cVar 0) (cNil)))) (sSeq (sExp (cCall m_require_number [] (cCons (cVar 1) (cNil)))) (sSeq (sIf (cB (cBin dEqV (cVar 1) (cC c_NOUGHT))) (sBad) (sNil)) (sRet (cCall m_divided [] (cCons (cVar 0) (cCons (cVar 1) (cNil))))))))
abbrev n_over : List Str := [Str.ofString "one", Str.ofString "other"]
abbrev p_over : List Str := [Str.ofString "one", Str.ofString "other"]
theorem s_over : FnScope n_over p_over (defScope (top 25)) := ⟨rfl, rfl, rfl, by decide +kernel, rfl, by decide +kernel, by decide +kernel⟩
theorem o_over (T : Facts K mg gl) : FnG P w K mg base gl 4 T.a_over T.d_over p_over m_over :=
  FnG.of T.t_over.fn s_over (fun cdv A outer s H E hot hr hgd => SB.cons (SS.expr (SE.fn (dd := []) (o_require_number T) T.t_require_number rfl (hr.mono (by decide)) hgd (T.b_require_number_1) rfl (SA.cons (SE.var 0) (SA.nil)) rfl (cCons_len cNil_len))) (SB.cons (SS.expr (SE.fn (dd := []) (o_require_number T) T.t_require_number rfl (hr.mono (by decide)) hgd (T.b_require_number_1) rfl (SA.cons (SE.var 1) (SA.nil)) rfl (cCons_len cNil_len))) (SB.cons (SS.if_ (ST.cmp (op_eqAll hr.units) dEqV_ok (SE.var 1) (SE.con T.k_NOUGHT rfl) (nomark _)) (SB.one (SS.never)) (SB.nil)) (SB.one (SS.ret (SE.fn (dd := []) (o_divided T) T.t_divided rfl (hr.mono (by decide)) hgd (T.b_divided_2) rfl (SA.cons (SE.var 0) (SA.cons (SE.var 1) (SA.nil))) rfl (cCons_len (cCons_len cNil_len))))))))
def m_compared : Fn := fnD 4 (sSeq (sExp (cCall m_require_number [] (cCons (cVar 0) (cNil)))) (sSeq (sExp (cCall m_require_number [] (cCons (cVar 1) (cNil)))) (sSeq (sPar 2 3 (cCons (cBin dMul (cBin dIx (cVar 0) (cC (.int 0))) (cBin dIx (cVar 1) (cC (.int 1)))) (cCons (cBin dMul (cBin dIx (cVar 1) (cC (.int 0))) (cBin dIx (cVar 0) (cC (.int 1)))) (cNil)))) (sRet (cBin dSub (cArgs dInt1 (cCons (cBin (dCmp fun i j => decide (j < i)) (cVar 2) (cVar 3)) (cNil))) (cArgs dInt1 (cCons (cBin dLt (cVar 2) (cVar 3)) (cNil))))))))
abbrev n_compared : List Str := [Str.ofString "one", Str.ofString "other", Str.ofString "left", Str.ofString "right"]
abbrev p_compared : List Str := [Str.ofString "one", Str.ofString "other"]
theorem s_compared : FnScope n_compared p_compared (defScope (top 26)) := ⟨rfl, rfl, rfl, by decide +kernel, rfl, by decide +kernel, by decide +kernel⟩
theorem o_compared (T : Facts K mg gl) : FnG P w K mg base gl 4 T.a_compared T.d_compared p_compared m_compared :=
  FnG.of T.t_compared.fn s_compared (fun cdv A outer s H E hot hr hgd => SB.cons (SS.expr (SE.fn (dd := []) (o_require_number T) T.t_require_number rfl (hr.mono (by decide)) hgd (T.b_require_number_1) rfl (SA.cons (SE.var 0) (SA.nil)) rfl (cCons_len cNil_len))) (SB.cons (SS.expr (SE.fn (dd := []) (o_require_number T) T.t_require_number rfl (hr.mono (by decide)) hgd (T.b_require_number_1) rfl (SA.cons (SE.var 1) (SA.nil)) rfl (cCons_len cNil_len))) (SB.cons (SS.par 2 3 s_compared.nd rfl (SA.cons (SE.op op_mulW dMul_ok (SE.ix rfl (SE.var 0) (SE.int)) (SE.ix rfl (SE.var 1) (SE.int))) (SA.cons (SE.op op_mulW dMul_ok (SE.ix rfl (SE.var 1) (SE.int)) (SE.ix rfl (SE.var 0) (SE.int))) (SA.nil)))) (SB.one (SS.ret (SE.op op_sub dSub_ok (SE.callTy call_int1 dInt1_ok rfl T.f_int bt_int (SA.cons (SE.cmp op_gt dCmp_ok (SE.var 2) (SE.var 3) (nomark _)) (SA.nil))) (SE.callTy call_int1 dInt1_ok rfl T.f_int bt_int (SA.cons (SE.cmp op_ltAll dLt_ok (SE.var 2) (SE.var 3) (nomark _)) (SA.nil)))))))))
def m_sum_of : Fn := fnD 3 (sSeq (sSet 1 (cC c_NOUGHT)) (sSeq (sFor (cSeqI (cVar 0)) (gN 2) (sSet 1 (cCall m_added [] (cCons (cVar 1) (cCons (cVar 2) (cNil)))))) (sRet (cVar 1))))
abbrev n_sum_of : List Str := [Str.ofString "numbers", Str.ofString "found", Str.ofString "one"]
abbrev p_sum_of : List Str := [Str.ofString "numbers"]
theorem s_sum_of : FnScope n_sum_of p_sum_of (defScope (top 21)) := ⟨rfl, rfl, rfl, by decide +kernel, rfl, by decide +kernel, by decide +kernel⟩
theorem o_sum_of (T : Facts K mg gl) : FnG P w K mg base gl 4 T.a_sum_of T.d_sum_of p_sum_of m_sum_of :=
  FnG.of T.t_sum_of.fn s_sum_of (fun cdv A outer s H E hot hr hgd => SB.cons (SS.set 1 s_sum_of.nd (SE.con T.k_NOUGHT rfl)) (SB.cons (SS.for_ (passes_of rfl) rfl (SI.seq rfl (SE.var 0)) (SG.name 2 s_sum_of.nd) (SB.one (SS.set 1 s_sum_of.nd (SE.fn (dd := []) (o_added T) T.t_added rfl (hr.mono (by decide)) hgd (T.b_added_2) rfl (SA.cons (SE.var 1) (SA.cons (SE.var 2) (SA.nil))) rfl (cCons_len (cCons_len cNil_len)))))) (SB.one (SS.ret (SE.var 1)))))
def m_total : Fn := fnD 2 (sSeq (sIf (cOr (cNot (cTru (cArgs dIsi (cCons (cVar 0) (cCons (cC (.ty .tuple)) (cNil)))))) (cNot (cTru (cArgs dAll (cCons (cLc (cSeqI (cVar 0)) (gN 1) (tYesD) (cCall m_is_number [] (cCons (cVar 1) (cNil))) [1]) (cNil)))))) (sBad) (sNil)) (sRet (cCall m_sum_of [] (cCons (cVar 0) (cNil)))))
abbrev n_total : List Str := [Str.ofString "numbers", Str.ofString "one"]
abbrev p_total : List Str := [Str.ofString "numbers"]
theorem s_total : FnScope n_total p_total (defScope (top 27)) := ⟨rfl, rfl, rfl, by decide +kernel, rfl, by decide +kernel, by decide +kernel⟩
theorem o_total (T : Facts K mg gl) : FnG P w K mg base gl 5 T.a_total T.d_total p_total m_total :=
  FnG.of T.t_total.fn s_total (fun cdv A outer s H E hot hr hgd => SB.cons (SS.if_ (ST.of (SW.or (ST.not (ST.tru rfl (SE.callB call_isi dIsi_ok rfl T.f_isinstance bb_isinstance (SA.cons (SE.var 0) (SA.cons (SE.bltn (n := .tuple) rfl T.f_tuple bt_tuple) (SA.nil)))))) (SW.or1 (ST.not (ST.tru rfl (SE.callB (cr_all rfl) dAll_ok rfl T.f_all bb_all (SA.cons (SE.lc (own := [(Str.ofString "one", 1)]) (o1 := [1]) rfl s_total.nd (SI.seq rfl (SE.var 0)) (blkOk_by (by kernel_rfl)) (by decide) (fun _ _ _ _ _ _ => SG.name 1 s_total.nd) (fun _ _ _ _ _ _ => STs.nil) (fun _ _ _ _ _ _ => SE.fn (dd := []) (o_is_number T) T.t_is_number rfl (hr.mono (by decide)) hgd (T.b_is_number_1) rfl (SA.cons (SE.var 1) (SA.nil)) rfl (cCons_len cNil_len))) (SA.nil)))))))) (SB.one (SS.never)) (SB.nil)) (SB.one (SS.ret (SE.fn (dd := []) (o_sum_of T) T.t_sum_of rfl (hr.mono (by decide)) hgd (T.b_sum_of_1) rfl (SA.cons (SE.var 0) (SA.nil)) rfl (cCons_len cNil_len)))))
def m_require_count : Fn := fnD 3 (sIf (cOr (cNot (cTru (cCall m_is_integer [] (cCons (cVar 0) (cNil))))) (cNot (cB (cChain (dCmp fun i j => decide (i ≤ j)) (dCmp fun i j => decide (i ≤ j)) (cVar 1) (cVar 0) (cVar 2))))) (sBad) (sNil))
abbrev n_require_count : List Str := [Str.ofString "value", Str.ofString "least", Str.ofString "most"]
abbrev p_require_count : List Str := [Str.ofString "value", Str.ofString "least", Str.ofString "most"]
theorem s_require_count : FnScope n_require_count p_require_count (defScope (top 16)) := ⟨rfl, rfl, rfl, by decide +kernel, rfl, by decide +kernel, by decide +kernel⟩
theorem o_require_count (T : Facts K mg gl) : FnG P w K mg base gl 2 T.a_require_count T.d_require_count p_require_count m_require_count :=
  FnG.of T.t_require_count.fn s_require_count (fun cdv A outer s H E hot hr hgd => SB.one (SS.if_ (ST.of (SW.or (ST.not (ST.tru rfl (SE.fn (dd := []) (o_is_integer T) T.t_is_integer rfl (hr.mono (by decide)) hgd (T.b_is_integer_1) rfl (SA.cons (SE.var 0) (SA.nil)) rfl (cCons_len cNil_len)))) (SW.or1 (ST.not (ST.chain op_le op_le dCmp_ok dCmp_ok (SE.var 1) (SE.var 0) (SE.var 2)))))) (SB.one (SS.never)) (SB.nil)))
def m_power : Fn := fnD 4 (sSeq (sExp (cCall m_require_number [] (cCons (cVar 0) (cNil)))) (sSeq (sExp (cCall m_require_count [.int 0, .int 60] (cCons (cVar 1) (cNil)))) (sSeq (sSet 2 (cC c_ONE)) (sSeq (sFor (cRng1 (cCons (cVar 1) (cNil))) (gN 3) (sSet 2 (cCall m_multiplied [] (cCons (cVar 2) (cCons (cVar 0) (cNil)))))) (sRet (cVar 2))))))
abbrev n_power : List Str := [Str.ofString "one", Str.ofString "many", Str.ofString "found", Str.ofString "_"]
abbrev p_power : List Str := [Str.ofString "one", Str.ofString "many"]
theorem s_power : FnScope n_power p_power (defScope (top 28)) := ⟨rfl, rfl, rfl, by decide +kernel, rfl, by decide +kernel, by decide +kernel⟩
theorem o_power (T : Facts K mg gl) : FnG P w K mg base gl 4 T.a_power T.d_power p_power m_power :=
  FnG.of T.t_power.fn s_power (fun cdv A outer s H E hot hr hgd => SB.cons (SS.expr (SE.fn (dd := []) (o_require_number T) T.t_require_number rfl (hr.mono (by decide)) hgd (T.b_require_number_1) rfl (SA.cons (SE.var 0) (SA.nil)) rfl (cCons_len cNil_len))) (SB.cons (SS.expr (SE.fn (dd := [.int 0, .int 60]) (o_require_count T) T.t_require_count rfl (hr.mono (by decide)) hgd (T.b_require_count_1) rfl (SA.cons (SE.var 1) (SA.nil)) rfl (cCons_len cNil_len))) (SB.cons (SS.set 2 s_power.nd (SE.con T.k_ONE rfl)) (SB.cons (SS.for_ (passes_of rfl) rfl (SI.range1 rfl T.f_range (SA.cons (SE.var 1) (SA.nil))) (SG.name 3 s_power.nd) (SB.one (SS.set 2 s_power.nd (SE.fn (dd := []) (o_multiplied T) T.t_multiplied rfl (hr.mono (by decide)) hgd (T.b_multiplied_2) rfl (SA.cons (SE.var 2) (SA.cons (SE.var 0) (SA.nil))) rfl (cCons_len (cCons_len cNil_len)))))) (SB.one (SS.ret (SE.var 2)))))))
def m_number : Fn := fnD 2 (sSeq (sIf (cOr (cNot (cTru (cCall m_is_integer [] (cCons (cVar 0) (cNil))))) (cB (cBin (dCmp fun i j => decide (j ≤ i)) (cArgs dAbs (cCons (cVar 0) (cNil))) (cC c_MOST_PASSED)))) (sBad) (sNil)) (sSeq (sIf (cOr (cNot (cTru (cCall m_is_integer [] (cCons (cVar 1) (cNil))))) (cOr (cB (cBin (dCmp fun i j => decide (j ≤ i)) (cArgs dAbs (cCons (cVar 1) (cNil))) (cC c_MOST_PASSED))) (cB (cBin dEqV (cVar 1) (cC (.int 0)))))) (sBad) (sNil)) (sRet (cCall m_reduced [] (cCons (cVar 0) (cCons (cVar 1) (cNil)))))))
abbrev n_number : List Str := [Str.ofString "top", Str.ofString "bottom"]
abbrev p_number : List Str := [Str.ofString "top", Str.ofString "bottom"]
theorem s_number : FnScope n_number p_number (defScope (top 14)) := ⟨rfl, rfl, rfl, by decide +kernel, rfl, by decide +kernel, by decide +kernel⟩
theorem o_number (T : Facts K mg gl) : FnG P w K mg base gl 3 T.a_number T.d_number p_number m_number :=
  FnG.of T.t_number.fn s_number (fun cdv A outer s H E hot hr hgd => SB.cons (SS.if_ (ST.of (SW.or (ST.not (ST.tru rfl (SE.fn (dd := []) (o_is_integer T) T.t_is_integer rfl (hr.mono (by decide)) hgd (T.b_is_integer_1) rfl (SA.cons (SE.var 0) (SA.nil)) rfl (cCons_len cNil_len)))) (SW.or1 (ST.cmp op_ge dCmp_ok (SE.callB call_abs dAbs_ok rfl T.f_abs bb_abs (SA.cons (SE.var 0) (SA.nil))) (SE.con T.k_MOST_PASSED rfl) (nomark _))))) (SB.one (SS.never)) (SB.nil)) (SB.cons (SS.if_ (ST.of (SW.or (ST.not (ST.tru rfl (SE.fn (dd := []) (o_is_integer T) T.t_is_integer rfl (hr.mono (by decide)) hgd (T.b_is_integer_1) rfl (SA.cons (SE.var 1) (SA.nil)) rfl (cCons_len cNil_len)))) (SW.or (ST.cmp op_ge dCmp_ok (SE.callB call_abs dAbs_ok rfl T.f_abs bb_abs (SA.cons (SE.var 1) (SA.nil))) (SE.con T.k_MOST_PASSED rfl) (nomark _)) (SW.or1 (ST.cmp (op_eqAll hr.units) dEqV_ok (SE.var 1) (SE.int) (nomark _)))))) (SB.one (SS.never)) (SB.nil)) (SB.one (SS.ret (SE.fn (dd := []) (o_reduced T) T.t_reduced rfl (hr.mono (by decide)) hgd (T.b_reduced_2) rfl (SA.cons (SE.var 0) (SA.cons (SE.var 1) (SA.nil))) rfl (cCons_len (cCons_len cNil_len)))))))
def m__law_right : Fn := fnD 14 (sSeq (sPar3 1 2 3 (cCons (cCall m__law_drawn [] (cCons (cVar 0) (cNil))) (cCons (cCall m__law_drawn [] (cCons (cVar 0) (cNil))) (cCons (cCall m__law_drawn [] (cCons (cVar 0) (cNil))) (cNil))))) (sSeq (sSet 4 (cLst (cCons (cCall m_plus [] (cCons (cVar 1) (cCons (cVar 2) (cNil)))) (cCons (cCall m_minus [] (cCons (cVar 1) (cCons (cVar 2) (cNil)))) (cCons (cCall m_times [] (cCons (cVar 1) (cCons (cVar 2) (cNil)))) (cCons (cCall m_plus [] (cCons (cCall m_minus [] (cCons (cVar 1) (cCons (cVar 2) (cNil)))) (cCons (cVar 2) (cNil)))) (cNil))))))) (sSeq (sIf (cB (cBin dNeV (cArgs dRepr (cCons (cVar 4) (cNil))) (cArgs dRepr (cCons (cLst (cCons (cCall m__law_plus [] (cCons (cVar 1) (cCons (cVar 2) (cNil)))) (cCons (cCall m__law_minus [] (cCons (cVar 1) (cCons (cVar 2) (cNil)))) (cCons (cCall m__law_times [] (cCons (cVar 1) (cCons (cVar 2) (cNil)))) (cCons (cVar 1) (cNil)))))) (cNil))))) (sRet (cC (.bl false))) (sNil)) (sSeq (sIf (cB (cBin dNeV (cBin dIx (cVar 2) (cC (.int 0))) (cC (.int 0)))) (sSeq (sSet 5 (cCall m__law_fr [] (cCons (cBin dMul (cBin dIx (cVar 1) (cC (.int 0))) (cBin dIx (cVar 2) (cC (.int 1)))) (cCons (cBin dMul (cBin dIx (cVar 1) (cC (.int 1))) (cBin dIx (cVar 2) (cC (.int 0)))) (cNil))))) (sIf (cOr (cB (cBin dNeV (cArgs dRepr (cCons (cCall m_over [] (cCons (cVar 1) (cCons (cVar 2) (cNil)))) (cNil))) (cArgs dRepr (cCons (cVar 5) (cNil))))) (cB (cBin dNeV (cCall m_times [] (cCons (cCall m_over [] (cCons (cVar 1) (cCons (cVar 2) (cNil)))) (cCons (cVar 2) (cNil)))) (cVar 1)))) (sRet (cC (.bl false))) (sNil))) (sNil)) (sSeq (sPar 6 7 (cCons (cBin dMul (cBin dIx (cVar 1) (cC (.int 0))) (cBin dIx (cVar 2) (cC (.int 1)))) (cCons (cBin dMul (cBin dIx (cVar 2) (cC (.int 0))) (cBin dIx (cVar 1) (cC (.int 1)))) (cNil)))) (sSeq (sIf (cOr (cB (cBin dNeV (cCall m_compared [] (cCons (cVar 1) (cCons (cVar 2) (cNil)))) (cBin dSub (cArgs dInt1 (cCons (cBin (dCmp fun i j => decide (j < i)) (cVar 6) (cVar 7)) (cNil))) (cArgs dInt1 (cCons (cBin dLt (cVar 6) (cVar 7)) (cNil)))))) (cB (cBin dNeV (cCall m_compared [] (cCons (cVar 1) (cCons (cVar 1) (cNil)))) (cC (.int 0))))) (sRet (cC (.bl false))) (sNil)) (sSeq (sIf (cB (cBin dNeV (cCall m_times [] (cCons (cCall m_plus [] (cCons (cVar 1) (cCons (cVar 2) (cNil)))) (cCons (cVar 3) (cNil)))) (cCall m_plus [] (cCons (cCall m_times [] (cCons (cVar 1) (cCons (cVar 3) (cNil)))) (cCons (cCall m_times [] (cCons (cVar 2) (cCons (cVar 3) (cNil)))) (cNil)))))) (sRet (cC (.bl false))) (sNil)) (sSeq (sPar 9 5 (cCons (cLc (cRng1 (cCons (cCall m__law_roll [] (cCons (cVar 0) (cCons (cC (.int 6)) (cNil)))) (cNil))) (gN 8) (tYesD) (cCall m__law_drawn [] (cCons (cVar 0) (cNil))) [8]) (cCons (cTup (cCons (cC (.int 0)) (cCons (cC (.int 1)) (cNil)))) (cNil)))) (sSeq (sFor (cSeqI (cVar 9)) (gN 10) (sSet 5 (cCall m__law_plus [] (cCons (cVar 5) (cCons (cVar 10) (cNil)))))) (sSeq (sIf (cOr (cB (cBin dNeV (cCall m_total [] (cCons (cArgs dTuple (cCons (cVar 9) (cNil))) (cNil))) (cVar 5))) (cB (cBin dNeV (cCall m_total [] (cCons (cArgs dTuple (cCons (cUn dRev (cVar 9)) (cNil))) (cNil))) (cVar 5)))) (sRet (cC (.bl false))) (sNil)) (sSeq (sPar 11 5 (cCons (cCall m__law_roll [] (cCons (cVar 0) (cCons (cC (.int 7)) (cNil)))) (cCons (cTup (cCons (cC (.int 1)) (cCons (cC (.int 1)) (cNil)))) (cNil)))) (sSeq (sFor (cRng1 (cCons (cVar 11) (cNil))) (gN 8) (sSet 5 (cCall m__law_times [] (cCons (cVar 5) (cCons (cVar 1) (cNil)))))) (sSeq (sIf (cOr (cB (cBin dNeV (cCall m_power [] (cCons (cVar 1) (cCons (cVar 11) (cNil)))) (cVar 5))) (cB (cBin dNeV (cCall m_power [] (cCons (cVar 1) (cCons (cC (.int 0)) (cNil)))) (cTup (cCons (cC (.int 1)) (cCons (cC (.int 1)) (cNil))))))) (sRet (cC (.bl false))) (sNil)) (sSeq (sPar 12 13 (cCons (cCall m__law_pick [] (cCons (cVar 0) (cCons (cLst (cCons (cC (.int 0)) (cCons (cCall m__law_integer [] (cCons (cVar 0) (cNil))) (cNil)))) (cNil)))) (cCons (cCall m__law_integer [] (cCons (cVar 0) (cNil))) (cNil)))) (sRet (cAndV (cBin dEqV (cCall m_number [] (cCons (cVar 12) (cCons (cVar 13) (cNil)))) (cCall m__law_fr [] (cCons (cVar 12) (cCons (cVar 13) (cNil))))) (cBin dEqV (cArgs dRepr (cCons (cCall m_number [.int 1] (cCons (cVar 12) (cNil))) (cNil))) (cArgs dRepr (cCons (cTup (cCons (cVar 12) (cCons (cC (.int 1)) (cNil)))) (cNil))))))))))))))))))))
abbrev n__law_right : List Str := [Str.ofString "dice", Str.ofString "one", Str.ofString "other", Str.ofString "third", Str.ofString "told", Str.ofString "due", Str.ofString "left", Str.ofString "right", Str.ofString "turn", Str.ofString "row", Str.ofString "item", Str.ofString "many", Str.ofString "top", Str.ofString "bottom"]
abbrev p__law_right : List Str := [Str.ofString "dice"]
theorem s__law_right : FnScope n__law_right p__law_right (defScope (top 39)) := ⟨rfl, rfl, rfl, by decide +kernel, rfl, by decide +kernel, by decide +kernel⟩
theorem o__law_right (T : Facts K mg gl) : FnG P w K mg base gl 6 T.a__law_right T.d__law_right p__law_right m__law_right :=
  FnG.of T.t__law_right.fn s__law_right (fun cdv A outer s H E hot hr hgd => SB.cons (SS.par3 1 2 3 s__law_right.nd rfl (SA.cons (SE.fn (dd := []) (o__law_drawn T) T.t__law_drawn rfl (hr.mono (by decide)) hgd (T.b__law_drawn_1) rfl (SA.cons (SE.var 0) (SA.nil)) rfl (cCons_len cNil_len)) (SA.cons (SE.fn (dd := []) (o__law_drawn T) T.t__law_drawn rfl (hr.mono (by decide)) hgd (T.b__law_drawn_1) rfl (SA.cons (SE.var 0) (SA.nil)) rfl (cCons_len cNil_len)) (SA.cons (SE.fn (dd := []) (o__law_drawn T) T.t__law_drawn rfl (hr.mono (by decide)) hgd (T.b__law_drawn_1) rfl (SA.cons (SE.var 0) (SA.nil)) rfl (cCons_len cNil_len)) (SA.nil))))) (SB.cons (SS.set 4 s__law_right.nd (SE.lst (SA.cons (SE.fn (dd := []) (o_plus T) T.t_plus rfl (hr.mono (by decide)) hgd (T.b_plus_2) rfl (SA.cons (SE.var 1) (SA.cons (SE.var 2) (SA.nil))) rfl (cCons_len (cCons_len cNil_len))) (SA.cons (SE.fn (dd := []) (o_minus T) T.t_minus rfl (hr.mono (by decide)) hgd (T.b_minus_2) rfl (SA.cons (SE.var 1) (SA.cons (SE.var 2) (SA.nil))) rfl (cCons_len (cCons_len cNil_len))) (SA.cons (SE.fn (dd := []) (o_times T) T.t_times rfl (hr.mono (by decide)) hgd (T.b_times_2) rfl (SA.cons (SE.var 1) (SA.cons (SE.var 2) (SA.nil))) rfl (cCons_len (cCons_len cNil_len))) (SA.cons (SE.fn (dd := []) (o_plus T) T.t_plus rfl (hr.mono (by decide)) hgd (T.b_plus_2) rfl (SA.cons (SE.fn (dd := []) (o_minus T) T.t_minus rfl (hr.mono (by decide)) hgd (T.b_minus_2) rfl (SA.cons (SE.var 1) (SA.cons (SE.var 2) (SA.nil))) rfl (cCons_len (cCons_len cNil_len))) (SA.cons (SE.var 2) (SA.nil))) rfl (cCons_len (cCons_len cNil_len))) (SA.nil))))))) (SB.cons (SS.if_ (ST.cmp (op_neAll hr.units) dNeV_ok (SE.callB (call_reprD hgd hr.units) dRepr_ok rfl T.f_repr bb_repr (SA.cons (SE.var 4) (SA.nil))) (SE.callB (call_reprD hgd hr.units) dRepr_ok rfl T.f_repr bb_repr (SA.cons (SE.lst (SA.cons (SE.fn (dd := []) (o__law_plus T) T.t__law_plus rfl (hr.mono (by decide)) hgd (T.b__law_plus_2) rfl (SA.cons (SE.var 1) (SA.cons (SE.var 2) (SA.nil))) rfl (cCons_len (cCons_len cNil_len))) (SA.cons (SE.fn (dd := []) (o__law_minus T) T.t__law_minus rfl (hr.mono (by decide)) hgd (T.b__law_minus_2) rfl (SA.cons (SE.var 1) (SA.cons (SE.var 2) (SA.nil))) rfl (cCons_len (cCons_len cNil_len))) (SA.cons (SE.fn (dd := []) (o__law_times T) T.t__law_times rfl (hr.mono (by decide)) hgd (T.b__law_times_2) rfl (SA.cons (SE.var 1) (SA.cons (SE.var 2) (SA.nil))) rfl (cCons_len (cCons_len cNil_len))) (SA.cons (SE.var 1) (SA.nil)))))) (SA.nil))) (nomark _)) (SB.one (SS.ret (SE.bl))) (SB.nil)) (SB.cons (SS.if_ (ST.cmp (op_neAll hr.units) dNeV_ok (SE.ix rfl (SE.var 2) (SE.int)) (SE.int) (nomark _)) (SB.cons (SS.set 5 s__law_right.nd (SE.fn (dd := []) (o__law_fr T) T.t__law_fr rfl (hr.mono (by decide)) hgd (T.b__law_fr_2) rfl (SA.cons (SE.op op_mulW dMul_ok (SE.ix rfl (SE.var 1) (SE.int)) (SE.ix rfl (SE.var 2) (SE.int))) (SA.cons (SE.op op_mulW dMul_ok (SE.ix rfl (SE.var 1) (SE.int)) (SE.ix rfl (SE.var 2) (SE.int))) (SA.nil))) rfl (cCons_len (cCons_len cNil_len)))) (SB.one (SS.if_ (ST.of (SW.or (ST.cmp (op_neAll hr.units) dNeV_ok (SE.callB (call_reprD hgd hr.units) dRepr_ok rfl T.f_repr bb_repr (SA.cons (SE.fn (dd := []) (o_over T) T.t_over rfl (hr.mono (by decide)) hgd (T.b_over_2) rfl (SA.cons (SE.var 1) (SA.cons (SE.var 2) (SA.nil))) rfl (cCons_len (cCons_len cNil_len))) (SA.nil))) (SE.callB (call_reprD hgd hr.units) dRepr_ok rfl T.f_repr bb_repr (SA.cons (SE.var 5) (SA.nil))) (nomark _)) (SW.or1 (ST.cmp (op_neAll hr.units) dNeV_ok (SE.fn (dd := []) (o_times T) T.t_times rfl (hr.mono (by decide)) hgd (T.b_times_2) rfl (SA.cons (SE.fn (dd := []) (o_over T) T.t_over rfl (hr.mono (by decide)) hgd (T.b_over_2) rfl (SA.cons (SE.var 1) (SA.cons (SE.var 2) (SA.nil))) rfl (cCons_len (cCons_len cNil_len))) (SA.cons (SE.var 2) (SA.nil))) rfl (cCons_len (cCons_len cNil_len))) (SE.var 1) (nomark _))))) (SB.one (SS.ret (SE.bl))) (SB.nil)))) (SB.nil)) (SB.cons (SS.par 6 7 s__law_right.nd rfl (SA.cons (SE.op op_mulW dMul_ok (SE.ix rfl (SE.var 1) (SE.int)) (SE.ix rfl (SE.var 2) (SE.int))) (SA.cons (SE.op op_mulW dMul_ok (SE.ix rfl (SE.var 2) (SE.int)) (SE.ix rfl (SE.var 1) (SE.int))) (SA.nil)))) (SB.cons (SS.if_ (ST.of (SW.or (ST.cmp (op_neAll hr.units) dNeV_ok (SE.fn (dd := []) (o_compared T) T.t_compared rfl (hr.mono (by decide)) hgd (T.b_compared_2) rfl (SA.cons (SE.var 1) (SA.cons (SE.var 2) (SA.nil))) rfl (cCons_len (cCons_len cNil_len))) (SE.op op_sub dSub_ok (SE.callTy call_int1 dInt1_ok rfl T.f_int bt_int (SA.cons (SE.cmp op_gt dCmp_ok (SE.var 6) (SE.var 7) (nomark _)) (SA.nil))) (SE.callTy call_int1 dInt1_ok rfl T.f_int bt_int (SA.cons (SE.cmp op_ltAll dLt_ok (SE.var 6) (SE.var 7) (nomark _)) (SA.nil)))) (nomark _)) (SW.or1 (ST.cmp (op_neAll hr.units) dNeV_ok (SE.fn (dd := []) (o_compared T) T.t_compared rfl (hr.mono (by decide)) hgd (T.b_compared_2) rfl (SA.cons (SE.var 1) (SA.cons (SE.var 1) (SA.nil))) rfl (cCons_len (cCons_len cNil_len))) (SE.int) (nomark _))))) (SB.one (SS.ret (SE.bl))) (SB.nil)) (SB.cons (SS.if_ (ST.cmp (op_neAll hr.units) dNeV_ok (SE.fn (dd := []) (o_times T) T.t_times rfl (hr.mono (by decide)) hgd (T.b_times_2) rfl (SA.cons (SE.fn (dd := []) (o_plus T) T.t_plus rfl (hr.mono (by decide)) hgd (T.b_plus_2) rfl (SA.cons (SE.var 1) (SA.cons (SE.var 2) (SA.nil))) rfl (cCons_len (cCons_len cNil_len))) (SA.cons (SE.var 3) (SA.nil))) rfl (cCons_len (cCons_len cNil_len))) (SE.fn (dd := []) (o_plus T) T.t_plus rfl (hr.mono (by decide)) hgd (T.b_plus_2) rfl (SA.cons (SE.fn (dd := []) (o_times T) T.t_times rfl (hr.mono (by decide)) hgd (T.b_times_2) rfl (SA.cons (SE.var 1) (SA.cons (SE.var 3) (SA.nil))) rfl (cCons_len (cCons_len cNil_len))) (SA.cons (SE.fn (dd := []) (o_times T) T.t_times rfl (hr.mono (by decide)) hgd (T.b_times_2) rfl (SA.cons (SE.var 2) (SA.cons (SE.var 3) (SA.nil))) rfl (cCons_len (cCons_len cNil_len))) (SA.nil))) rfl (cCons_len (cCons_len cNil_len))) (nomark _)) (SB.one (SS.ret (SE.bl))) (SB.nil)) (SB.cons (SS.par 9 5 s__law_right.nd rfl (SA.cons (SE.lc (own := [(Str.ofString "turn", 8)]) (o1 := [8]) rfl s__law_right.nd (SI.range1 rfl T.f_range (SA.cons (SE.fn (dd := []) (o__law_roll T) T.t__law_roll rfl (hr.mono (by decide)) hgd (T.b__law_roll_2) rfl (SA.cons (SE.var 0) (SA.cons (SE.int) (SA.nil))) rfl (cCons_len (cCons_len cNil_len))) (SA.nil))) (blkOk_by (by kernel_rfl)) (by decide) (fun _ _ _ _ _ _ => SG.name 8 s__law_right.nd) (fun _ _ _ _ _ _ => STs.nil) (fun _ _ _ _ _ _ => SE.fn (dd := []) (o__law_drawn T) T.t__law_drawn rfl (hr.mono (by decide)) hgd (T.b__law_drawn_1) rfl (SA.cons (SE.var 0) (SA.nil)) rfl (cCons_len cNil_len))) (SA.cons (SE.tup (SA.cons (SE.int) (SA.cons (SE.int) (SA.nil)))) (SA.nil)))) (SB.cons (SS.for_ (passes_of rfl) rfl (SI.seq rfl (SE.var 9)) (SG.name 10 s__law_right.nd) (SB.one (SS.set 5 s__law_right.nd (SE.fn (dd := []) (o__law_plus T) T.t__law_plus rfl (hr.mono (by decide)) hgd (T.b__law_plus_2) rfl (SA.cons (SE.var 5) (SA.cons (SE.var 10) (SA.nil))) rfl (cCons_len (cCons_len cNil_len)))))) (SB.cons (SS.if_ (ST.of (SW.or (ST.cmp (op_neAll hr.units) dNeV_ok (SE.fn (dd := []) (o_total T) T.t_total rfl (hr.mono (by decide)) hgd (T.b_total_1) rfl (SA.cons (SE.callTy call_tuple_of dTuple_ok rfl T.f_tuple bt_tuple (SA.cons (SE.var 9) (SA.nil))) (SA.nil)) rfl (cCons_len cNil_len)) (SE.var 5) (nomark _)) (SW.or1 (ST.cmp (op_neAll hr.units) dNeV_ok (SE.fn (dd := []) (o_total T) T.t_total rfl (hr.mono (by decide)) hgd (T.b_total_1) rfl (SA.cons (SE.callTy call_tuple_of dTuple_ok rfl T.f_tuple bt_tuple (SA.cons (SE.revL rfl (SE.var 9)) (SA.nil))) (SA.nil)) rfl (cCons_len cNil_len)) (SE.var 5) (nomark _))))) (SB.one (SS.ret (SE.bl))) (SB.nil)) (SB.cons (SS.par 11 5 s__law_right.nd rfl (SA.cons (SE.fn (dd := []) (o__law_roll T) T.t__law_roll rfl (hr.mono (by decide)) hgd (T.b__law_roll_2) rfl (SA.cons (SE.var 0) (SA.cons (SE.int) (SA.nil))) rfl (cCons_len (cCons_len cNil_len))) (SA.cons (SE.tup (SA.cons (SE.int) (SA.cons (SE.int) (SA.nil)))) (SA.nil)))) (SB.cons (SS.for_ (passes_of rfl) rfl (SI.range1 rfl T.f_range (SA.cons (SE.var 11) (SA.nil))) (SG.name 8 s__law_right.nd) (SB.one (SS.set 5 s__law_right.nd (SE.fn (dd := []) (o__law_times T) T.t__law_times rfl (hr.mono (by decide)) hgd (T.b__law_times_2) rfl (SA.cons (SE.var 5) (SA.cons (SE.var 1) (SA.nil))) rfl (cCons_len (cCons_len cNil_len)))))) (SB.cons (SS.if_ (ST.of (SW.or (ST.cmp (op_neAll hr.units) dNeV_ok (SE.fn (dd := []) (o_power T) T.t_power rfl (hr.mono (by decide)) hgd (T.b_power_2) rfl (SA.cons (SE.var 1) (SA.cons (SE.var 11) (SA.nil))) rfl (cCons_len (cCons_len cNil_len))) (SE.var 5) (nomark _)) (SW.or1 (ST.cmp (op_neAll hr.units) dNeV_ok (SE.fn (dd := []) (o_power T) T.t_power rfl (hr.mono (by decide)) hgd (T.b_power_2) rfl (SA.cons (SE.var 1) (SA.cons (SE.int) (SA.nil))) rfl (cCons_len (cCons_len cNil_len))) (SE.tup (SA.cons (SE.int) (SA.cons (SE.int) (SA.nil)))) (nomark _))))) (SB.one (SS.ret (SE.bl))) (SB.nil)) (SB.cons (SS.par 12 13 s__law_right.nd rfl (SA.cons (SE.fn (dd := []) (o__law_pick T) T.t__law_pick rfl (hr.mono (by decide)) hgd (T.b__law_pick_2) rfl (SA.cons (SE.var 0) (SA.cons (SE.lst (SA.cons (SE.int) (SA.cons (SE.fn (dd := []) (o__law_integer T) T.t__law_integer rfl (hr.mono (by decide)) hgd (T.b__law_integer_1) rfl (SA.cons (SE.var 0) (SA.nil)) rfl (cCons_len cNil_len)) (SA.nil)))) (SA.nil))) rfl (cCons_len (cCons_len cNil_len))) (SA.cons (SE.fn (dd := []) (o__law_integer T) T.t__law_integer rfl (hr.mono (by decide)) hgd (T.b__law_integer_1) rfl (SA.cons (SE.var 0) (SA.nil)) rfl (cCons_len cNil_len)) (SA.nil)))) (SB.one (SS.ret (SE.and (SE.cmp (op_eqAll hr.units) dEqV_ok (SE.fn (dd := []) (o_number T) T.t_number rfl (hr.mono (by decide)) hgd (T.b_number_2) rfl (SA.cons (SE.var 12) (SA.cons (SE.var 13) (SA.nil))) rfl (cCons_len (cCons_len cNil_len))) (SE.fn (dd := []) (o__law_fr T) T.t__law_fr rfl (hr.mono (by decide)) hgd (T.b__law_fr_2) rfl (SA.cons (SE.var 12) (SA.cons (SE.var 13) (SA.nil))) rfl (cCons_len (cCons_len cNil_len))) (nomark _)) (SE.one (SE.cmp (op_eqAll hr.units) dEqV_ok (SE.callB (call_reprD hgd hr.units) dRepr_ok rfl T.f_repr bb_repr (SA.cons (SE.fn (dd := [.int 1]) (o_number T) T.t_number rfl (hr.mono (by decide)) hgd (T.b_number_1) rfl (SA.cons (SE.var 12) (SA.nil)) rfl (cCons_len cNil_len)) (SA.nil))) (SE.callB (call_reprD hgd hr.units) dRepr_ok rfl T.f_repr bb_repr (SA.cons (SE.tup (SA.cons (SE.var 12) (SA.cons (SE.int) (SA.nil)))) (SA.nil))) (nomark _))))))))))))))))))))
def m_law : Fn := fnD 6 (sSeq (sFor (cRng1 (cCons (cArgs dMax2 (cCons (cC (.int 1)) (cCons (cArgs dMin2 (cCons (cC (.int 6)) (cCons (cArgs dLen (cCons (cVar 0) (cNil))) (cNil)))) (cNil)))) (cNil))) (gN 1) (sSeq (sSet 2 (cCall m__law_dice [] (cCons (cVar 0) (cCons (cVar 1) (cNil))))) (sFor (cRng1 (cCons (cC (.int 3)) (cNil))) (gN 3) (sIf (cNot (cTru (cCall m__law_right [] (cCons (cVar 2) (cNil))))) (sRet (cC (.bl false))) (sNil))))) (sSeq (sSet 4 (cTup (cCons (cBin dAdd (cBin dPow (cC (.int 10)) (cC (.int 60))) (cC (.int 1))) (cCons (cBin dAdd (cBin dPow (cC (.int 10)) (cC (.int 59))) (cC (.int 3))) (cNil))))) (sSeq (sSet 5 (cLst (cCons (cBin dEqV (cCall m_plus [] (cCons (cVar 4) (cCons (cTup (cCons (cC (.int 1)) (cCons (cC (.int 3)) (cNil)))) (cNil)))) (cCall m__law_plus [] (cCons (cVar 4) (cCons (cTup (cCons (cC (.int 1)) (cCons (cC (.int 3)) (cNil)))) (cNil))))) (cCons (cBin dEqV (cCall m_power [] (cCons (cTup (cCons (cUn dNeg (cC (.int 1))) (cCons (cC (.int 2)) (cNil)))) (cCons (cC (.int 60)) (cNil)))) (cTup (cCons (cC (.int 1)) (cCons (cC (.int 1152921504606846976)) (cNil))))) (cNil))))) (sSeq (sSet 5 (cBin dAdd (cVar 5) (cLst (cCons (cCall m_number [] (cCons (cBin dPow (cC (.int 10)) (cC (.int 39))) (cCons (cUn dNeg (cBin dPow (cC (.int 10)) (cC (.int 39)))) (cNil)))) (cCons (cCall m_number [] (cCons (cUn dNeg (cC (.int 6))) (cCons (cC (.int 4)) (cNil)))) (cCons (cCall m_total [] (cCons (cTup (cNil)) (cNil))) (cCons (cCall m_compared [] (cCons (cTup (cCons (cUn dNeg (cC (.int 1))) (cCons (cC (.int 2)) (cNil)))) (cCons (cTup (cCons (cUn dNeg (cC (.int 1))) (cCons (cC (.int 3)) (cNil)))) (cNil)))) (cNil)))))))) (sRet (cBin dEqV (cVar 5) (cLst (cCons (cC (.bl true)) (cCons (cC (.bl true)) (cCons (cTup (cCons (cUn dNeg (cC (.int 1))) (cCons (cC (.int 1)) (cNil)))) (cCons (cTup (cCons (cUn dNeg (cC (.int 3))) (cCons (cC (.int 2)) (cNil)))) (cCons (cTup (cCons (cC (.int 0)) (cCons (cC (.int 1)) (cNil)))) (cCons (cUn dNeg (cC (.int 1))) (cNil))))))))))))))
abbrev n_law : List Str := [Str.ofString "script", Str.ofString "spot", Str.ofString "dice", Str.ofString "turn", Str.ofString "great", Str.ofString "told"]
abbrev p_law : List Str := [Str.ofString "script"]
theorem s_law : FnScope n_law p_law (defScope (top 40)) := ⟨rfl, rfl, rfl, by decide +kernel, rfl, by decide +kernel, by decide +kernel⟩
theorem o_law (T : Facts K mg gl) : FnG P w K mg base gl 7 T.a_law T.d_law p_law m_law :=
  FnG.of T.t_law.fn s_law (fun cdv A outer s H E hot hr hgd => SB.cons (SS.for_ (passes_of rfl) rfl (SI.range1 rfl T.f_range (SA.cons (SE.callB (call_max2 rfl) dMax2_ok rfl T.f_max bb_max (SA.cons (SE.int) (SA.cons (SE.callB (call_min2 rfl) dMin2_ok rfl T.f_min bb_min (SA.cons (SE.int) (SA.cons (SE.callB call_len dLen_ok rfl T.f_len bb_len (SA.cons (SE.var 0) (SA.nil))) (SA.nil)))) (SA.nil)))) (SA.nil))) (SG.name 1 s_law.nd) (SB.cons (SS.set 2 s_law.nd (SE.fn (dd := []) (o__law_dice T) T.t__law_dice rfl (hr.mono (by decide)) hgd (T.b__law_dice_2) rfl (SA.cons (SE.var 0) (SA.cons (SE.var 1) (SA.nil))) rfl (cCons_len (cCons_len cNil_len)))) (SB.one (SS.for_ (passes_of rfl) rfl (SI.range1 rfl T.f_range (SA.cons (SE.int) (SA.nil))) (SG.name 3 s_law.nd) (SB.one (SS.if_ (ST.not (ST.tru rfl (SE.fn (dd := []) (o__law_right T) T.t__law_right rfl (hr.mono (by decide)) hgd (T.b__law_right_1) rfl (SA.cons (SE.var 2) (SA.nil)) rfl (cCons_len cNil_len)))) (SB.one (SS.ret (SE.bl))) (SB.nil))))))) (SB.cons (SS.set 4 s_law.nd (SE.tup (SA.cons (SE.op op_addAll dAdd_ok (SE.op op_powW dPow_ok (SE.int) (SE.int)) (SE.int)) (SA.cons (SE.op op_addAll dAdd_ok (SE.op op_powW dPow_ok (SE.int) (SE.int)) (SE.int)) (SA.nil))))) (SB.cons (SS.set 5 s_law.nd (SE.lst (SA.cons (SE.cmp (op_eqAll hr.units) dEqV_ok (SE.fn (dd := []) (o_plus T) T.t_plus rfl (hr.mono (by decide)) hgd (T.b_plus_2) rfl (SA.cons (SE.var 4) (SA.cons (SE.tup (SA.cons (SE.int) (SA.cons (SE.int) (SA.nil)))) (SA.nil))) rfl (cCons_len (cCons_len cNil_len))) (SE.fn (dd := []) (o__law_plus T) T.t__law_plus rfl (hr.mono (by decide)) hgd (T.b__law_plus_2) rfl (SA.cons (SE.var 4) (SA.cons (SE.tup (SA.cons (SE.int) (SA.cons (SE.int) (SA.nil)))) (SA.nil))) rfl (cCons_len (cCons_len cNil_len))) (nomark _)) (SA.cons (SE.cmp (op_eqAll hr.units) dEqV_ok (SE.fn (dd := []) (o_power T) T.t_power rfl (hr.mono (by decide)) hgd (T.b_power_2) rfl (SA.cons (SE.tup (SA.cons (SE.un un_neg dNeg_ok (SE.int)) (SA.cons (SE.int) (SA.nil)))) (SA.cons (SE.int) (SA.nil))) rfl (cCons_len (cCons_len cNil_len))) (SE.tup (SA.cons (SE.int) (SA.cons (SE.int) (SA.nil)))) (nomark _)) (SA.nil))))) (SB.cons (SS.set 5 s_law.nd (SE.op op_addAll dAdd_ok (SE.var 5) (SE.lst (SA.cons (SE.fn (dd := []) (o_number T) T.t_number rfl (hr.mono (by decide)) hgd (T.b_number_2) rfl (SA.cons (SE.op op_powW dPow_ok (SE.int) (SE.int)) (SA.cons (SE.un un_neg dNeg_ok (SE.op op_powW dPow_ok (SE.int) (SE.int))) (SA.nil))) rfl (cCons_len (cCons_len cNil_len))) (SA.cons (SE.fn (dd := []) (o_number T) T.t_number rfl (hr.mono (by decide)) hgd (T.b_number_2) rfl (SA.cons (SE.un un_neg dNeg_ok (SE.int)) (SA.cons (SE.int) (SA.nil))) rfl (cCons_len (cCons_len cNil_len))) (SA.cons (SE.fn (dd := []) (o_total T) T.t_total rfl (hr.mono (by decide)) hgd (T.b_total_1) rfl (SA.cons (SE.tup (SA.nil)) (SA.nil)) rfl (cCons_len cNil_len)) (SA.cons (SE.fn (dd := []) (o_compared T) T.t_compared rfl (hr.mono (by decide)) hgd (T.b_compared_2) rfl (SA.cons (SE.tup (SA.cons (SE.un un_neg dNeg_ok (SE.int)) (SA.cons (SE.int) (SA.nil)))) (SA.cons (SE.tup (SA.cons (SE.un un_neg dNeg_ok (SE.int)) (SA.cons (SE.int) (SA.nil)))) (SA.nil))) rfl (cCons_len (cCons_len cNil_len))) (SA.nil)))))))) (SB.one (SS.ret (SE.cmp (op_eqAll hr.units) dEqV_ok (SE.var 5) (SE.lst (SA.cons (SE.bl) (SA.cons (SE.bl) (SA.cons (SE.tup (SA.cons (SE.un un_neg dNeg_ok (SE.int)) (SA.cons (SE.int) (SA.nil)))) (SA.cons (SE.tup (SA.cons (SE.un un_neg dNeg_ok (SE.int)) (SA.cons (SE.int) (SA.nil)))) (SA.cons (SE.tup (SA.cons (SE.int) (SA.cons (SE.int) (SA.nil)))) (SA.cons (SE.un un_neg dNeg_ok (SE.int)) (SA.nil)))))))) (nomark _))))))))
end
/-! ### the head -/
def df (x : Str) (i : Nat) (dd : List He.Dv) : He.DefD := ⟨(x, none), x, x, defArgs (top i), defBody (top i), defScope (top i), dd, []⟩
def fn : List He.DefD := [df (Str.ofString "_law_dice") 30 [], df (Str.ofString "_law_roll") 31 [], df (Str.ofString "_law_fr") 33 [], df (Str.ofString "_law_pick") 32 [], df (Str.ofString "_law_integer") 37 [], df (Str.ofString "_law_drawn") 38 [], df (Str.ofString "is_integer") 10 [], df (Str.ofString "common_divisor") 11 [], df (Str.ofString "is_number") 12 [], df (Str.ofString "require_number") 15 [], df (Str.ofString "reduced") 13 [], df (Str.ofString "added") 17 []] ++ [df (Str.ofString "plus") 22 [], df (Str.ofString "opposite") 19 [], df (Str.ofString "minus") 23 [], df (Str.ofString "multiplied") 18 [], df (Str.ofString "times") 24 [], df (Str.ofString "_law_times") 35 [], df (Str.ofString "_law_minus") 36 [], df (Str.ofString "_law_plus") 34 [], df (Str.ofString "divided") 20 [], df (Str.ofString "over") 25 [], df (Str.ofString "compared") 26 [], df (Str.ofString "sum_of") 21 []] ++ [df (Str.ofString "total") 27 [], df (Str.ofString "require_count") 16 [dvD (.int 0), dvD (.int 60)], df (Str.ofString "power") 28 [], df (Str.ofString "number") 14 [dvD (.int 1)], df (Str.ofString "_law_right") 39 [], df (Str.ofString "law") 40 []]
def fa : List He.Fa := [He.Fa.glo (Str.ofString "_law_dice"), He.Fa.glo (Str.ofString "_law_roll"), He.Fa.glo (Str.ofString "_law_fr"), He.Fa.glo (Str.ofString "_law_pick"), He.Fa.glo (Str.ofString "_law_integer"), He.Fa.glo (Str.ofString "_law_drawn"), He.Fa.glo (Str.ofString "is_integer"), He.Fa.glo (Str.ofString "common_divisor"), He.Fa.glo (Str.ofString "is_number"), He.Fa.glo (Str.ofString "require_number"), He.Fa.glo (Str.ofString "reduced"), He.Fa.glo (Str.ofString "added")] ++ [He.Fa.glo (Str.ofString "plus"), He.Fa.glo (Str.ofString "opposite"), He.Fa.glo (Str.ofString "minus"), He.Fa.glo (Str.ofString "multiplied"), He.Fa.glo (Str.ofString "times"), He.Fa.glo (Str.ofString "_law_times"), He.Fa.glo (Str.ofString "_law_minus"), He.Fa.glo (Str.ofString "_law_plus"), He.Fa.glo (Str.ofString "divided"), He.Fa.glo (Str.ofString "over"), He.Fa.glo (Str.ofString "compared"), He.Fa.glo (Str.ofString "sum_of")] ++ [He.Fa.glo (Str.ofString "total"), He.Fa.glo (Str.ofString "require_count"), He.Fa.glo (Str.ofString "power"), He.Fa.glo (Str.ofString "number"), He.Fa.glo (Str.ofString "_law_right"), He.Fa.glo (Str.ofString "law"), He.Fa.free (Str.ofString "abs"), He.Fa.free (Str.ofString "all"), He.Fa.free (Str.ofString "bool"), He.Fa.free (Str.ofString "int"), He.Fa.free (Str.ofString "isinstance"), He.Fa.free (Str.ofString "len")] ++ [He.Fa.free (Str.ofString "max"), He.Fa.free (Str.ofString "min"), He.Fa.free (Str.ofString "range"), He.Fa.free (Str.ofString "repr"), He.Fa.free (Str.ofString "tuple")]
def ex (K : PySem.W.Frag) : Bool := conB K (Str.ofString "MOST_PASSED") c_MOST_PASSED && conB K (Str.ofString "NOUGHT") c_NOUGHT && conB K (Str.ofString "ONE") c_ONE
abbrev R : PySem.W.OpenRow := PySem.W.OpenLaw.row RWl
abbrev hk : PySem.W.Hook := He.hookX 4 fa fn [] [] ex
def ob (s : PySem.W.SharedT) : He.AlX := He.obsX 4 fa fn [] [] ex (HandSHeadRun.getT s)
theorem ob_eq (s : PySem.W.SharedT) : ob s = hk.obs s.abs := He.obsX_eq (HandSHeadRun.getT_eq s)
def names : List Str := [Str.ofString "CourtError", Str.ofString "InvalidFraction", Str.ofString "InvalidCount", Str.ofString "Refused", Str.ofString "NOUGHT", Str.ofString "ONE", Str.ofString "MAX_COUNT", Str.ofString "MOST_PASSED", Str.ofString "is_integer", Str.ofString "common_divisor", Str.ofString "is_number", Str.ofString "reduced"] ++ [Str.ofString "number", Str.ofString "require_number", Str.ofString "require_count", Str.ofString "added", Str.ofString "multiplied", Str.ofString "opposite", Str.ofString "divided", Str.ofString "sum_of", Str.ofString "plus", Str.ofString "minus", Str.ofString "times", Str.ofString "over"] ++ [Str.ofString "compared", Str.ofString "total", Str.ofString "power", Str.ofString "_law_dice", Str.ofString "_law_roll", Str.ofString "_law_pick", Str.ofString "_law_fr", Str.ofString "_law_plus", Str.ofString "_law_times", Str.ofString "_law_minus", Str.ofString "_law_integer", Str.ofString "_law_drawn"] ++ [Str.ofString "_law_right"]
theorem run (w : World) : HandSHeadRun.RunEq R (PySem.W.view R.prog [40]) hk ob 2000 names w := by
  intro os
  kernel_rfl
theorem facts {w : World} {K : PySem.W.Frag} {h hh : Heap} {mg : Str → Option Value} (X : K.In h) (G : h.Ns mainGlobals mg) (c : He.SaysX fa fn [] [] ex w hh K) (gl : Nat → Option Addr) : ∃ T : Facts K mg gl, T.a_law = He.ga K (Str.ofString "law") := by
  obtain ⟨d__law_dice, t__law_dice⟩ := def_at (st := top 30) (dd := []) X G c.t.d 0 0 rfl rfl
  obtain ⟨d__law_roll, t__law_roll⟩ := def_at (st := top 31) (dd := []) X G c.t.d 1 1 rfl rfl
  obtain ⟨d__law_fr, t__law_fr⟩ := def_at (st := top 33) (dd := []) X G c.t.d 2 2 rfl rfl
  obtain ⟨d__law_pick, t__law_pick⟩ := def_at (st := top 32) (dd := []) X G c.t.d 3 3 rfl rfl
  obtain ⟨d__law_integer, t__law_integer⟩ := def_at (st := top 37) (dd := []) X G c.t.d 4 4 rfl rfl
  obtain ⟨d__law_drawn, t__law_drawn⟩ := def_at (st := top 38) (dd := []) X G c.t.d 5 5 rfl rfl
  obtain ⟨d_is_integer, t_is_integer⟩ := def_at (st := top 10) (dd := []) X G c.t.d 6 6 rfl rfl
  obtain ⟨d_common_divisor, t_common_divisor⟩ := def_at (st := top 11) (dd := []) X G c.t.d 7 7 rfl rfl
  obtain ⟨d_is_number, t_is_number⟩ := def_at (st := top 12) (dd := []) X G c.t.d 8 8 rfl rfl
  obtain ⟨d_require_number, t_require_number⟩ := def_at (st := top 15) (dd := []) X G c.t.d 9 9 rfl rfl
  obtain ⟨d_reduced, t_reduced⟩ := def_at (st := top 13) (dd := []) X G c.t.d 10 10 rfl rfl
  obtain ⟨d_added, t_added⟩ := def_at (st := top 17) (dd := []) X G c.t.d 11 11 rfl rfl
  obtain ⟨d_plus, t_plus⟩ := def_at (st := top 22) (dd := []) X G c.t.d 12 12 rfl rfl
  obtain ⟨d_opposite, t_opposite⟩ := def_at (st := top 19) (dd := []) X G c.t.d 13 13 rfl rfl
  obtain ⟨d_minus, t_minus⟩ := def_at (st := top 23) (dd := []) X G c.t.d 14 14 rfl rfl
  obtain ⟨d_multiplied, t_multiplied⟩ := def_at (st := top 18) (dd := []) X G c.t.d 15 15 rfl rfl
  obtain ⟨d_times, t_times⟩ := def_at (st := top 24) (dd := []) X G c.t.d 16 16 rfl rfl
  obtain ⟨d__law_times, t__law_times⟩ := def_at (st := top 35) (dd := []) X G c.t.d 17 17 rfl rfl
  obtain ⟨d__law_minus, t__law_minus⟩ := def_at (st := top 36) (dd := []) X G c.t.d 18 18 rfl rfl
  obtain ⟨d__law_plus, t__law_plus⟩ := def_at (st := top 34) (dd := []) X G c.t.d 19 19 rfl rfl
  obtain ⟨d_divided, t_divided⟩ := def_at (st := top 20) (dd := []) X G c.t.d 20 20 rfl rfl
  obtain ⟨d_over, t_over⟩ := def_at (st := top 25) (dd := []) X G c.t.d 21 21 rfl rfl
  obtain ⟨d_compared, t_compared⟩ := def_at (st := top 26) (dd := []) X G c.t.d 22 22 rfl rfl
  obtain ⟨d_sum_of, t_sum_of⟩ := def_at (st := top 21) (dd := []) X G c.t.d 23 23 rfl rfl
  obtain ⟨d_total, t_total⟩ := def_at (st := top 27) (dd := []) X G c.t.d 24 24 rfl rfl
  obtain ⟨d_require_count, t_require_count⟩ := def_at (st := top 16) (dd := [dvD (.int 0), dvD (.int 60)]) X G c.t.d 25 25 rfl rfl
  obtain ⟨d_power, t_power⟩ := def_at (st := top 28) (dd := []) X G c.t.d 26 26 rfl rfl
  obtain ⟨d_number, t_number⟩ := def_at (st := top 14) (dd := [dvD (.int 1)]) X G c.t.d 27 27 rfl rfl
  obtain ⟨d__law_right, t__law_right⟩ := def_at (st := top 39) (dd := []) X G c.t.d 28 28 rfl rfl
  obtain ⟨d_law, t_law⟩ := def_at (st := top 40) (dd := []) X G c.t.d 29 29 rfl rfl
  have ec := c.more
  unfold ex at ec
  simp only [Bool.and_eq_true] at ec
  obtain ⟨⟨k_MOST_PASSED, k_NOUGHT⟩, k_ONE⟩ := ec
  refine ⟨{
    f_abs := He.free_ok X G (c.t.d.fact 30 (f := .free (Str.ofString "abs")) rfl),
    f_all := He.free_ok X G (c.t.d.fact 31 (f := .free (Str.ofString "all")) rfl),
    f_bool := He.free_ok X G (c.t.d.fact 32 (f := .free (Str.ofString "bool")) rfl),
    f_int := He.free_ok X G (c.t.d.fact 33 (f := .free (Str.ofString "int")) rfl),
    f_isinstance := He.free_ok X G (c.t.d.fact 34 (f := .free (Str.ofString "isinstance")) rfl),
    f_len := He.free_ok X G (c.t.d.fact 35 (f := .free (Str.ofString "len")) rfl),
    f_max := He.free_ok X G (c.t.d.fact 36 (f := .free (Str.ofString "max")) rfl),
    f_min := He.free_ok X G (c.t.d.fact 37 (f := .free (Str.ofString "min")) rfl),
    f_range := He.free_ok X G (c.t.d.fact 38 (f := .free (Str.ofString "range")) rfl),
    f_repr := He.free_ok X G (c.t.d.fact 39 (f := .free (Str.ofString "repr")) rfl),
    f_tuple := He.free_ok X G (c.t.d.fact 40 (f := .free (Str.ofString "tuple")) rfl),
    k_MOST_PASSED := conB_ok X G k_MOST_PASSED,
    k_NOUGHT := conB_ok X G k_NOUGHT,
    k_ONE := conB_ok X G k_ONE,
    a__law_dice := _, d__law_dice := _, t__law_dice := t__law_dice,
    a__law_roll := _, d__law_roll := _, t__law_roll := t__law_roll,
    a__law_fr := _, d__law_fr := _, t__law_fr := t__law_fr,
    a__law_pick := _, d__law_pick := _, t__law_pick := t__law_pick,
    a__law_integer := _, d__law_integer := _, t__law_integer := t__law_integer,
    a__law_drawn := _, d__law_drawn := _, t__law_drawn := t__law_drawn,
    a_is_integer := _, d_is_integer := _, t_is_integer := t_is_integer,
    a_common_divisor := _, d_common_divisor := _, t_common_divisor := t_common_divisor,
    a_is_number := _, d_is_number := _, t_is_number := t_is_number,
    a_require_number := _, d_require_number := _, t_require_number := t_require_number,
    a_reduced := _, d_reduced := _, t_reduced := t_reduced,
    a_added := _, d_added := _, t_added := t_added,
    a_plus := _, d_plus := _, t_plus := t_plus,
    a_opposite := _, d_opposite := _, t_opposite := t_opposite,
    a_minus := _, d_minus := _, t_minus := t_minus,
    a_multiplied := _, d_multiplied := _, t_multiplied := t_multiplied,
    a_times := _, d_times := _, t_times := t_times,
    a__law_times := _, d__law_times := _, t__law_times := t__law_times,
    a__law_minus := _, d__law_minus := _, t__law_minus := t__law_minus,
    a__law_plus := _, d__law_plus := _, t__law_plus := t__law_plus,
    a_divided := _, d_divided := _, t_divided := t_divided,
    a_over := _, d_over := _, t_over := t_over,
    a_compared := _, d_compared := _, t_compared := t_compared,
    a_sum_of := _, d_sum_of := _, t_sum_of := t_sum_of,
    a_total := _, d_total := _, t_total := t_total,
    a_require_count := _, d_require_count := _, t_require_count := t_require_count,
    a_power := _, d_power := _, t_power := t_power,
    a_number := _, d_number := _, t_number := t_number,
    a__law_right := _, d__law_right := _, t__law_right := t__law_right,
    a_law := _, d_law := _, t_law := t_law,
    b__law_dice_2 := binds0 t__law_dice fun _ _ _ _ _ _ us hl => match us, hl with | [_, _], _ => rfl,
    b__law_drawn_1 := binds0 t__law_drawn fun _ _ _ _ _ _ us hl => match us, hl with | [_], _ => rfl,
    b__law_fr_2 := binds0 t__law_fr fun _ _ _ _ _ _ us hl => match us, hl with | [_, _], _ => rfl,
    b__law_integer_1 := binds0 t__law_integer fun _ _ _ _ _ _ us hl => match us, hl with | [_], _ => rfl,
    b__law_minus_2 := binds0 t__law_minus fun _ _ _ _ _ _ us hl => match us, hl with | [_, _], _ => rfl,
    b__law_pick_2 := binds0 t__law_pick fun _ _ _ _ _ _ us hl => match us, hl with | [_, _], _ => rfl,
    b__law_plus_2 := binds0 t__law_plus fun _ _ _ _ _ _ us hl => match us, hl with | [_, _], _ => rfl,
    b__law_right_1 := binds0 t__law_right fun _ _ _ _ _ _ us hl => match us, hl with | [_], _ => rfl,
    b__law_roll_2 := binds0 t__law_roll fun _ _ _ _ _ _ us hl => match us, hl with | [_, _], _ => rfl,
    b__law_times_2 := binds0 t__law_times fun _ _ _ _ _ _ us hl => match us, hl with | [_, _], _ => rfl,
    b_added_2 := binds0 t_added fun _ _ _ _ _ _ us hl => match us, hl with | [_, _], _ => rfl,
    b_common_divisor_2 := binds0 t_common_divisor fun _ _ _ _ _ _ us hl => match us, hl with | [_, _], _ => rfl,
    b_compared_2 := binds0 t_compared fun _ _ _ _ _ _ us hl => match us, hl with | [_, _], _ => rfl,
    b_divided_2 := binds0 t_divided fun _ _ _ _ _ _ us hl => match us, hl with | [_, _], _ => rfl,
    b_is_integer_1 := binds0 t_is_integer fun _ _ _ _ _ _ us hl => match us, hl with | [_], _ => rfl,
    b_is_number_1 := binds0 t_is_number fun _ _ _ _ _ _ us hl => match us, hl with | [_], _ => rfl,
    b_minus_2 := binds0 t_minus fun _ _ _ _ _ _ us hl => match us, hl with | [_, _], _ => rfl,
    b_multiplied_2 := binds0 t_multiplied fun _ _ _ _ _ _ us hl => match us, hl with | [_, _], _ => rfl,
    b_number_1 := FunD.binds1 t_number.fn 1 0 (by simp) rfl fun _ _ _ _ _ _ _ us its h1 h2 => match us, its, h1, h2 with | [_], [_], _, _ => ⟨_, rfl, rfl⟩,
    b_number_2 := FunD.binds1 t_number.fn 2 1 (by simp) rfl fun _ _ _ _ _ _ _ us its h1 h2 => match us, its, h1, h2 with | [_, _], [_], _, _ => ⟨_, rfl, rfl⟩,
    b_opposite_1 := binds0 t_opposite fun _ _ _ _ _ _ us hl => match us, hl with | [_], _ => rfl,
    b_over_2 := binds0 t_over fun _ _ _ _ _ _ us hl => match us, hl with | [_, _], _ => rfl,
    b_plus_2 := binds0 t_plus fun _ _ _ _ _ _ us hl => match us, hl with | [_, _], _ => rfl,
    b_power_2 := binds0 t_power fun _ _ _ _ _ _ us hl => match us, hl with | [_, _], _ => rfl,
    b_reduced_2 := binds0 t_reduced fun _ _ _ _ _ _ us hl => match us, hl with | [_, _], _ => rfl,
    b_require_count_1 := FunD.binds1 t_require_count.fn 1 0 (by simp) rfl fun _ _ _ _ _ _ _ us its h1 h2 => match us, its, h1, h2 with | [_], [_, _], _, _ => ⟨_, rfl, rfl⟩,
    b_require_number_1 := binds0 t_require_number fun _ _ _ _ _ _ us hl => match us, hl with | [_], _ => rfl,
    b_sum_of_1 := binds0 t_sum_of fun _ _ _ _ _ _ us hl => match us, hl with | [_], _ => rfl,
    b_times_2 := binds0 t_times fun _ _ _ _ _ _ us hl => match us, hl with | [_, _], _ => rfl,
    b_total_1 := binds0 t_total fun _ _ _ _ _ _ us hl => match us, hl with | [_], _ => rfl }, rfl⟩
end Kx

set_option Elab.async false
set_option linter.all false
set_option maxRecDepth 100000
set_option maxHeartbeats 4000000
namespace Kx
open PySem PySem.Spec PyProof.Rows L2 G
theorem is_integer_int {i : Int} {st : Sto} : m_is_integer [.int i] st = .ok (.bl true) st := rfl
theorem common_ok {a b : Int} {k : Nat} {st : Sto} (hb : b.natAbs < 2 ^ k) (hk : k ≤ 40000) : m_common_divisor [.int a, .int b] st = .ok (.int (a.natAbs.gcd b.natAbs : Nat)) st := by
  unfold m_common_divisor
  simp only [G.e_vr, G.e_vrS, G.e_con, G.e_bin, G.e_binR, G.e_binR2, G.e_un, G.e_unR, G.e_B, G.e_bool, G.e_ch, G.e_chR, G.e_chR2, G.e_chR3t, G.e_chR3f, G.e_tru, G.e_truR, G.e_truB, G.e_truI, G.e_truN, G.e_truL, G.e_truT, G.e_not, G.e_notR, G.e_and, G.e_andT, G.e_andF, G.e_or, G.e_orT, G.e_orF, G.e_andV, G.e_andVT, G.e_andVF, G.e_orV, G.e_orVT, G.e_orVF, G.e_notV, G.e_notVR, G.e_if, G.e_ifT, G.e_ifF, G.e_nil, G.e_cons, G.e_consR, G.e_consR2, G.e_tup, G.e_tupR, G.e_lst, G.e_lstR, G.e_new, G.e_newR, G.e_args, G.e_argR, G.e_call, G.e_callR, G.o_add, G.o_addB, G.o_sub, G.o_neg, G.o_cmp, G.o_lt, G.o_mod, G.o_mul, G.o_div, G.o_pow, G.o_ixT, G.o_ixL, G.o_lenT, G.o_lenL, G.o_abs, G.o_int1, G.o_intB, G.o_max, G.o_min, G.o_eqS, G.o_neS, G.o_eqI, G.o_neI, G.o_isI, G.o_isB, G.o_isT, G.o_isL, G.o_isN, G.o_isS, G.o_tupL, G.o_tupT, G.o_rev, G.s_seq, G.s_thn, G.s_thnR, G.s_thnB, G.s_thnC, G.s_thnX, G.s_nil, G.s_brk, G.s_cnt, G.s_ret, G.s_retR, G.s_retN, G.s_exp, G.s_expR, G.s_if, G.s_ifT, G.s_ifF, G.s_set, G.s_setR, G.s_par, G.s_parR, G.s_par3, G.s_par3R, G.s_asg, G.s_asgQ, G.s_asg2, G.s_sub, G.s_subR, G.s_subR2, G.s_subR3, G.s_putR, G.s_fin, G.s_finN, G.s_finX, G.f_fn, G.e_seqI, G.e_seqL, G.e_seqT, G.e_rng1, G.e_rng1R, G.e_rng2, G.e_rng2R, G.e_zip, G.e_zipL, G.e_zipT, G.s_for, G.s_forR, G.for_nil, G.for_nx, G.for_ct, G.for_bk, G.for_rt, G.g_N, G.w_F, G.w_T, G.w_nx, G.e_lc, G.e_lcR, G.e_lcR2, List.map_cons, List.map_nil, List.length_cons, List.length_nil, List.replicate, List.cons_append, List.nil_append, List.append_nil, List.getElem?_cons_zero, List.getElem?_cons_succ, List.set_cons_zero, List.set_cons_succ, Nat.reduceAdd, Nat.reduceSub, if_true, if_false, Bool.not_true, Bool.not_false, decide_true, decide_false, Nat.zero_add]
  rw [gcd_loop (by decide) k 100000 a.natAbs b.natAbs _ st rfl rfl hb (by omega)]
  simp only [G.e_vr, G.e_vrS, G.e_con, G.e_bin, G.e_binR, G.e_binR2, G.e_un, G.e_unR, G.e_B, G.e_bool, G.e_ch, G.e_chR, G.e_chR2, G.e_chR3t, G.e_chR3f, G.e_tru, G.e_truR, G.e_truB, G.e_truI, G.e_truN, G.e_truL, G.e_truT, G.e_not, G.e_notR, G.e_and, G.e_andT, G.e_andF, G.e_or, G.e_orT, G.e_orF, G.e_andV, G.e_andVT, G.e_andVF, G.e_orV, G.e_orVT, G.e_orVF, G.e_notV, G.e_notVR, G.e_if, G.e_ifT, G.e_ifF, G.e_nil, G.e_cons, G.e_consR, G.e_consR2, G.e_tup, G.e_tupR, G.e_lst, G.e_lstR, G.e_new, G.e_newR, G.e_args, G.e_argR, G.e_call, G.e_callR, G.o_add, G.o_addB, G.o_sub, G.o_neg, G.o_cmp, G.o_lt, G.o_mod, G.o_mul, G.o_div, G.o_pow, G.o_ixT, G.o_ixL, G.o_lenT, G.o_lenL, G.o_abs, G.o_int1, G.o_intB, G.o_max, G.o_min, G.o_eqS, G.o_neS, G.o_eqI, G.o_neI, G.o_isI, G.o_isB, G.o_isT, G.o_isL, G.o_isN, G.o_isS, G.o_tupL, G.o_tupT, G.o_rev, G.s_seq, G.s_thn, G.s_thnR, G.s_thnB, G.s_thnC, G.s_thnX, G.s_nil, G.s_brk, G.s_cnt, G.s_ret, G.s_retR, G.s_retN, G.s_exp, G.s_expR, G.s_if, G.s_ifT, G.s_ifF, G.s_set, G.s_setR, G.s_par, G.s_parR, G.s_par3, G.s_par3R, G.s_asg, G.s_asgQ, G.s_asg2, G.s_sub, G.s_subR, G.s_subR2, G.s_subR3, G.s_putR, G.s_fin, G.s_finN, G.s_finX, G.f_fn, G.e_seqI, G.e_seqL, G.e_seqT, G.e_rng1, G.e_rng1R, G.e_rng2, G.e_rng2R, G.e_zip, G.e_zipL, G.e_zipT, G.s_for, G.s_forR, G.for_nil, G.for_nx, G.for_ct, G.for_bk, G.for_rt, G.g_N, G.w_F, G.w_T, G.w_nx, G.e_lc, G.e_lcR, G.e_lcR2, List.map_cons, List.map_nil, List.length_cons, List.length_nil, List.replicate, List.cons_append, List.nil_append, List.append_nil, List.getElem?_cons_zero, List.getElem?_cons_succ, List.set_cons_zero, List.set_cons_succ, Nat.reduceAdd, Nat.reduceSub, if_true, if_false, Bool.not_true, Bool.not_false, decide_true, decide_false, Nat.zero_add]
theorem pair_ix {a b : D} {st : Sto} : dIx (.tup [a, b]) (.int 0) st = .ok a st ∧ dIx (.tup [a, b]) (.int 1) st = .ok b st := ⟨rfl, rfl⟩
theorem dq_0 {q : Rat} {st : Sto} : dIx (dq q) (.int 0) st = .ok (.int q.num) st := rfl
theorem dq_1 {q : Rat} {st : Sto} : dIx (dq q) (.int 1) st = .ok (.int (q.den : Int)) st := rfl
theorem is_number_ok {q : Rat} {k : Nat} {st : Sto} (h : Sm k q) (hk : k ≤ 40000) : m_is_number [dq q] st = .ok (.bl true) st := by
  have c : (1 : Int) ≤ (q.den : Int) := by
    have := q.den_nz
    omega
  have r : ((q.num.natAbs.gcd (q.den : Int).natAbs : Nat) : Int) == 1 := by
    have e : q.num.natAbs.gcd q.den = 1 := q.reduced
    show ((q.num.natAbs.gcd q.den : Nat) : Int) == 1
    rw [e]
    rfl
  unfold m_is_number
  have e1 : dIsi [dq q, .ty .tuple] st = .ok (.bl true) st := rfl
  have e2 : dLen [dq q] st = .ok (.int 2) st := rfl
  have e3 : lcR (seqR (.ok (dq q) st)) (gN 1) tYesD (cCall m_is_integer [] (cCons (cVar 1) cNil)) [1] [some (dq q), none] = .ok (.lst [.bl true, .bl true]) st := rfl
  have e4 : dAll [.lst [.bl true, .bl true]] st = .ok (.bl true) st := rfl
  simp only [G.e_vr, G.e_vrS, G.e_con, G.e_bin, G.e_binR, G.e_binR2, G.e_un, G.e_unR, G.e_B, G.e_bool, G.e_ch, G.e_chR, G.e_chR2, G.e_chR3t, G.e_chR3f, G.e_tru, G.e_truR, G.e_truB, G.e_truI, G.e_truN, G.e_truL, G.e_truT, G.e_not, G.e_notR, G.e_and, G.e_andT, G.e_andF, G.e_or, G.e_orT, G.e_orF, G.e_andV, G.e_andVT, G.e_andVF, G.e_orV, G.e_orVT, G.e_orVF, G.e_notV, G.e_notVR, G.e_if, G.e_ifT, G.e_ifF, G.e_nil, G.e_cons, G.e_consR, G.e_consR2, G.e_tup, G.e_tupR, G.e_lst, G.e_lstR, G.e_new, G.e_newR, G.e_args, G.e_argR, G.e_call, G.e_callR, G.o_add, G.o_addB, G.o_sub, G.o_neg, G.o_cmp, G.o_lt, G.o_mod, G.o_mul, G.o_div, G.o_pow, G.o_ixT, G.o_ixL, G.o_lenT, G.o_lenL, G.o_abs, G.o_int1, G.o_intB, G.o_max, G.o_min, G.o_eqS, G.o_neS, G.o_eqI, G.o_neI, G.o_isI, G.o_isB, G.o_isT, G.o_isL, G.o_isN, G.o_isS, G.o_tupL, G.o_tupT, G.o_rev, G.s_seq, G.s_thn, G.s_thnR, G.s_thnB, G.s_thnC, G.s_thnX, G.s_nil, G.s_brk, G.s_cnt, G.s_ret, G.s_retR, G.s_retN, G.s_exp, G.s_expR, G.s_if, G.s_ifT, G.s_ifF, G.s_set, G.s_setR, G.s_par, G.s_parR, G.s_par3, G.s_par3R, G.s_asg, G.s_asgQ, G.s_asg2, G.s_sub, G.s_subR, G.s_subR2, G.s_subR3, G.s_putR, G.s_fin, G.s_finN, G.s_finX, G.f_fn, G.e_seqI, G.e_seqL, G.e_seqT, G.e_rng1, G.e_rng1R, G.e_rng2, G.e_rng2R, G.e_zip, G.e_zipL, G.e_zipT, G.s_for, G.s_forR, G.for_nil, G.for_nx, G.for_ct, G.for_bk, G.for_rt, G.g_N, G.w_F, G.w_T, G.w_nx, G.e_lc, G.e_lcR, G.e_lcR2, List.map_cons, List.map_nil, List.length_cons, List.length_nil, List.replicate, List.cons_append, List.nil_append, List.append_nil, List.getElem?_cons_zero, List.getElem?_cons_succ, List.set_cons_zero, List.set_cons_succ, Nat.reduceAdd, Nat.reduceSub, if_true, if_false, Bool.not_true, Bool.not_false, decide_true, decide_false, Nat.zero_add, e1, e2, e3, e4, dq_0, dq_1, common_ok (b := (q.den : Int)) (k := k) h.den hk, c, r, show ((2 : Int) == 2) = true from rfl]
theorem require_ok {q : Rat} {k : Nat} {st : Sto} (h : Sm k q) (hk : k ≤ 40000) : m_require_number [dq q] st = .ok .non st := by
  unfold m_require_number
  simp only [G.e_vr, G.e_vrS, G.e_con, G.e_bin, G.e_binR, G.e_binR2, G.e_un, G.e_unR, G.e_B, G.e_bool, G.e_ch, G.e_chR, G.e_chR2, G.e_chR3t, G.e_chR3f, G.e_tru, G.e_truR, G.e_truB, G.e_truI, G.e_truN, G.e_truL, G.e_truT, G.e_not, G.e_notR, G.e_and, G.e_andT, G.e_andF, G.e_or, G.e_orT, G.e_orF, G.e_andV, G.e_andVT, G.e_andVF, G.e_orV, G.e_orVT, G.e_orVF, G.e_notV, G.e_notVR, G.e_if, G.e_ifT, G.e_ifF, G.e_nil, G.e_cons, G.e_consR, G.e_consR2, G.e_tup, G.e_tupR, G.e_lst, G.e_lstR, G.e_new, G.e_newR, G.e_args, G.e_argR, G.e_call, G.e_callR, G.o_add, G.o_addB, G.o_sub, G.o_neg, G.o_cmp, G.o_lt, G.o_mod, G.o_mul, G.o_div, G.o_pow, G.o_ixT, G.o_ixL, G.o_lenT, G.o_lenL, G.o_abs, G.o_int1, G.o_intB, G.o_max, G.o_min, G.o_eqS, G.o_neS, G.o_eqI, G.o_neI, G.o_isI, G.o_isB, G.o_isT, G.o_isL, G.o_isN, G.o_isS, G.o_tupL, G.o_tupT, G.o_rev, G.s_seq, G.s_thn, G.s_thnR, G.s_thnB, G.s_thnC, G.s_thnX, G.s_nil, G.s_brk, G.s_cnt, G.s_ret, G.s_retR, G.s_retN, G.s_exp, G.s_expR, G.s_if, G.s_ifT, G.s_ifF, G.s_set, G.s_setR, G.s_par, G.s_parR, G.s_par3, G.s_par3R, G.s_asg, G.s_asgQ, G.s_asg2, G.s_sub, G.s_subR, G.s_subR2, G.s_subR3, G.s_putR, G.s_fin, G.s_finN, G.s_finX, G.f_fn, G.e_seqI, G.e_seqL, G.e_seqT, G.e_rng1, G.e_rng1R, G.e_rng2, G.e_rng2R, G.e_zip, G.e_zipL, G.e_zipT, G.s_for, G.s_forR, G.for_nil, G.for_nx, G.for_ct, G.for_bk, G.for_rt, G.g_N, G.w_F, G.w_T, G.w_nx, G.e_lc, G.e_lcR, G.e_lcR2, List.map_cons, List.map_nil, List.length_cons, List.length_nil, List.replicate, List.cons_append, List.nil_append, List.append_nil, List.getElem?_cons_zero, List.getElem?_cons_succ, List.set_cons_zero, List.set_cons_succ, Nat.reduceAdd, Nat.reduceSub, if_true, if_false, Bool.not_true, Bool.not_false, decide_true, decide_false, Nat.zero_add, is_number_ok h hk]
theorem dvd_log {a b : Nat} {k : Nat} (hb : b < 2 ^ k) (h0 : b ≠ 0) : 0 < ((a.gcd b : Nat) : Int) ∧ (((a.gcd b : Nat) : Int)).natAbs.log2 ≤ k := by
  have h1 : 0 < a.gcd b := Nat.gcd_pos_of_pos_right _ (by omega)
  have h2 : a.gcd b ≤ b := Nat.gcd_le_right _ (by omega)
  refine ⟨by omega, log_le' ?_⟩
  show a.gcd b < 2 ^ k
  omega
theorem reduced_ok {t b : Int} {k : Nat} {st : Sto} (h0 : b ≠ 0) (hb : b.natAbs < 2 ^ k) (hk : k ≤ 8999) : m_reduced [.int t, .int b] st = .ok (dq (Rat.divInt t b)) st := by
  unfold m_reduced
  obtain ⟨g1, g2⟩ := dvd_log (a := t.natAbs) hb (by omega)
  rcases Int.lt_or_gt_of_ne h0 with h | h
  · have e : Rat.divInt t b = Rat.divInt (0 - t) (b.natAbs : Int) := by
      rw [Rat.divInt_eq_divInt_iff h0 (by omega)]
      have : (b.natAbs : Int) = - b := by omega
      rw [this, Int.mul_neg, Int.zero_sub, Int.neg_mul]
    obtain ⟨d1, d2⟩ := divInt_nat (0 - t) (b := b.natAbs) (by omega)
    have hn : (0 - b) = (b.natAbs : Int) := by omega
    have ha : (0 - t).natAbs = t.natAbs := by omega
    rw [ha] at d1 d2
    simp only [G.e_vr, G.e_vrS, G.e_con, G.e_bin, G.e_binR, G.e_binR2, G.e_un, G.e_unR, G.e_B, G.e_bool, G.e_ch, G.e_chR, G.e_chR2, G.e_chR3t, G.e_chR3f, G.e_tru, G.e_truR, G.e_truB, G.e_truI, G.e_truN, G.e_truL, G.e_truT, G.e_not, G.e_notR, G.e_and, G.e_andT, G.e_andF, G.e_or, G.e_orT, G.e_orF, G.e_andV, G.e_andVT, G.e_andVF, G.e_orV, G.e_orVT, G.e_orVF, G.e_notV, G.e_notVR, G.e_if, G.e_ifT, G.e_ifF, G.e_nil, G.e_cons, G.e_consR, G.e_consR2, G.e_tup, G.e_tupR, G.e_lst, G.e_lstR, G.e_new, G.e_newR, G.e_args, G.e_argR, G.e_call, G.e_callR, G.o_add, G.o_addB, G.o_sub, G.o_neg, G.o_cmp, G.o_lt, G.o_mod, G.o_mul, G.o_div, G.o_pow, G.o_ixT, G.o_ixL, G.o_lenT, G.o_lenL, G.o_abs, G.o_int1, G.o_intB, G.o_max, G.o_min, G.o_eqS, G.o_neS, G.o_eqI, G.o_neI, G.o_isI, G.o_isB, G.o_isT, G.o_isL, G.o_isN, G.o_isS, G.o_tupL, G.o_tupT, G.o_rev, G.s_seq, G.s_thn, G.s_thnR, G.s_thnB, G.s_thnC, G.s_thnX, G.s_nil, G.s_brk, G.s_cnt, G.s_ret, G.s_retR, G.s_retN, G.s_exp, G.s_expR, G.s_if, G.s_ifT, G.s_ifF, G.s_set, G.s_setR, G.s_par, G.s_parR, G.s_par3, G.s_par3R, G.s_asg, G.s_asgQ, G.s_asg2, G.s_sub, G.s_subR, G.s_subR2, G.s_subR3, G.s_putR, G.s_fin, G.s_finN, G.s_finX, G.f_fn, G.e_seqI, G.e_seqL, G.e_seqT, G.e_rng1, G.e_rng1R, G.e_rng2, G.e_rng2R, G.e_zip, G.e_zipL, G.e_zipT, G.s_for, G.s_forR, G.for_nil, G.for_nx, G.for_ct, G.for_bk, G.for_rt, G.g_N, G.w_F, G.w_T, G.w_nx, G.e_lc, G.e_lcR, G.e_lcR2, List.map_cons, List.map_nil, List.length_cons, List.length_nil, List.replicate, List.cons_append, List.nil_append, List.append_nil, List.getElem?_cons_zero, List.getElem?_cons_succ, List.set_cons_zero, List.set_cons_succ, Nat.reduceAdd, Nat.reduceSub, if_true, if_false, Bool.not_true, Bool.not_false, decide_true, decide_false, Nat.zero_add, h, common_ok (b := 0 - b) (k := k) (by omega) (by omega)]
    rw [hn, Int.natAbs_natCast, ha]
    simp only [G.e_vr, G.e_vrS, G.e_con, G.e_bin, G.e_binR, G.e_binR2, G.e_un, G.e_unR, G.e_B, G.e_bool, G.e_ch, G.e_chR, G.e_chR2, G.e_chR3t, G.e_chR3f, G.e_tru, G.e_truR, G.e_truB, G.e_truI, G.e_truN, G.e_truL, G.e_truT, G.e_not, G.e_notR, G.e_and, G.e_andT, G.e_andF, G.e_or, G.e_orT, G.e_orF, G.e_andV, G.e_andVT, G.e_andVF, G.e_orV, G.e_orVT, G.e_orVF, G.e_notV, G.e_notVR, G.e_if, G.e_ifT, G.e_ifF, G.e_nil, G.e_cons, G.e_consR, G.e_consR2, G.e_tup, G.e_tupR, G.e_lst, G.e_lstR, G.e_new, G.e_newR, G.e_args, G.e_argR, G.e_call, G.e_callR, G.o_add, G.o_addB, G.o_sub, G.o_neg, G.o_cmp, G.o_lt, G.o_mod, G.o_mul, G.o_div, G.o_pow, G.o_ixT, G.o_ixL, G.o_lenT, G.o_lenL, G.o_abs, G.o_int1, G.o_intB, G.o_max, G.o_min, G.o_eqS, G.o_neS, G.o_eqI, G.o_neI, G.o_isI, G.o_isB, G.o_isT, G.o_isL, G.o_isN, G.o_isS, G.o_tupL, G.o_tupT, G.o_rev, G.s_seq, G.s_thn, G.s_thnR, G.s_thnB, G.s_thnC, G.s_thnX, G.s_nil, G.s_brk, G.s_cnt, G.s_ret, G.s_retR, G.s_retN, G.s_exp, G.s_expR, G.s_if, G.s_ifT, G.s_ifF, G.s_set, G.s_setR, G.s_par, G.s_parR, G.s_par3, G.s_par3R, G.s_asg, G.s_asgQ, G.s_asg2, G.s_sub, G.s_subR, G.s_subR2, G.s_subR3, G.s_putR, G.s_fin, G.s_finN, G.s_finX, G.f_fn, G.e_seqI, G.e_seqL, G.e_seqT, G.e_rng1, G.e_rng1R, G.e_rng2, G.e_rng2R, G.e_zip, G.e_zipL, G.e_zipT, G.s_for, G.s_forR, G.for_nil, G.for_nx, G.for_ct, G.for_bk, G.for_rt, G.g_N, G.w_F, G.w_T, G.w_nx, G.e_lc, G.e_lcR, G.e_lcR2, List.map_cons, List.map_nil, List.length_cons, List.length_nil, List.replicate, List.cons_append, List.nil_append, List.append_nil, List.getElem?_cons_zero, List.getElem?_cons_succ, List.set_cons_zero, List.set_cons_succ, Nat.reduceAdd, Nat.reduceSub, if_true, if_false, Bool.not_true, Bool.not_false, decide_true, decide_false, Nat.zero_add, o_div g1 (by omega)]
    rw [e]
    unfold dq
    rw [d1, d2, Int.natCast_ediv]
    rfl
  · have hn : b = (b.natAbs : Int) := by omega
    have hc : ¬ b < 0 := by omega
    obtain ⟨d1, d2⟩ := divInt_nat t (b := b.natAbs) (by omega)
    simp only [G.e_vr, G.e_vrS, G.e_con, G.e_bin, G.e_binR, G.e_binR2, G.e_un, G.e_unR, G.e_B, G.e_bool, G.e_ch, G.e_chR, G.e_chR2, G.e_chR3t, G.e_chR3f, G.e_tru, G.e_truR, G.e_truB, G.e_truI, G.e_truN, G.e_truL, G.e_truT, G.e_not, G.e_notR, G.e_and, G.e_andT, G.e_andF, G.e_or, G.e_orT, G.e_orF, G.e_andV, G.e_andVT, G.e_andVF, G.e_orV, G.e_orVT, G.e_orVF, G.e_notV, G.e_notVR, G.e_if, G.e_ifT, G.e_ifF, G.e_nil, G.e_cons, G.e_consR, G.e_consR2, G.e_tup, G.e_tupR, G.e_lst, G.e_lstR, G.e_new, G.e_newR, G.e_args, G.e_argR, G.e_call, G.e_callR, G.o_add, G.o_addB, G.o_sub, G.o_neg, G.o_cmp, G.o_lt, G.o_mod, G.o_mul, G.o_div, G.o_pow, G.o_ixT, G.o_ixL, G.o_lenT, G.o_lenL, G.o_abs, G.o_int1, G.o_intB, G.o_max, G.o_min, G.o_eqS, G.o_neS, G.o_eqI, G.o_neI, G.o_isI, G.o_isB, G.o_isT, G.o_isL, G.o_isN, G.o_isS, G.o_tupL, G.o_tupT, G.o_rev, G.s_seq, G.s_thn, G.s_thnR, G.s_thnB, G.s_thnC, G.s_thnX, G.s_nil, G.s_brk, G.s_cnt, G.s_ret, G.s_retR, G.s_retN, G.s_exp, G.s_expR, G.s_if, G.s_ifT, G.s_ifF, G.s_set, G.s_setR, G.s_par, G.s_parR, G.s_par3, G.s_par3R, G.s_asg, G.s_asgQ, G.s_asg2, G.s_sub, G.s_subR, G.s_subR2, G.s_subR3, G.s_putR, G.s_fin, G.s_finN, G.s_finX, G.f_fn, G.e_seqI, G.e_seqL, G.e_seqT, G.e_rng1, G.e_rng1R, G.e_rng2, G.e_rng2R, G.e_zip, G.e_zipL, G.e_zipT, G.s_for, G.s_forR, G.for_nil, G.for_nx, G.for_ct, G.for_bk, G.for_rt, G.g_N, G.w_F, G.w_T, G.w_nx, G.e_lc, G.e_lcR, G.e_lcR2, List.map_cons, List.map_nil, List.length_cons, List.length_nil, List.replicate, List.cons_append, List.nil_append, List.append_nil, List.getElem?_cons_zero, List.getElem?_cons_succ, List.set_cons_zero, List.set_cons_succ, Nat.reduceAdd, Nat.reduceSub, if_true, if_false, Bool.not_true, Bool.not_false, decide_true, decide_false, Nat.zero_add, hc, common_ok (b := b) (k := k) (by omega) (by omega)]
    simp only [G.e_vr, G.e_vrS, G.e_con, G.e_bin, G.e_binR, G.e_binR2, G.e_un, G.e_unR, G.e_B, G.e_bool, G.e_ch, G.e_chR, G.e_chR2, G.e_chR3t, G.e_chR3f, G.e_tru, G.e_truR, G.e_truB, G.e_truI, G.e_truN, G.e_truL, G.e_truT, G.e_not, G.e_notR, G.e_and, G.e_andT, G.e_andF, G.e_or, G.e_orT, G.e_orF, G.e_andV, G.e_andVT, G.e_andVF, G.e_orV, G.e_orVT, G.e_orVF, G.e_notV, G.e_notVR, G.e_if, G.e_ifT, G.e_ifF, G.e_nil, G.e_cons, G.e_consR, G.e_consR2, G.e_tup, G.e_tupR, G.e_lst, G.e_lstR, G.e_new, G.e_newR, G.e_args, G.e_argR, G.e_call, G.e_callR, G.o_add, G.o_addB, G.o_sub, G.o_neg, G.o_cmp, G.o_lt, G.o_mod, G.o_mul, G.o_div, G.o_pow, G.o_ixT, G.o_ixL, G.o_lenT, G.o_lenL, G.o_abs, G.o_int1, G.o_intB, G.o_max, G.o_min, G.o_eqS, G.o_neS, G.o_eqI, G.o_neI, G.o_isI, G.o_isB, G.o_isT, G.o_isL, G.o_isN, G.o_isS, G.o_tupL, G.o_tupT, G.o_rev, G.s_seq, G.s_thn, G.s_thnR, G.s_thnB, G.s_thnC, G.s_thnX, G.s_nil, G.s_brk, G.s_cnt, G.s_ret, G.s_retR, G.s_retN, G.s_exp, G.s_expR, G.s_if, G.s_ifT, G.s_ifF, G.s_set, G.s_setR, G.s_par, G.s_parR, G.s_par3, G.s_par3R, G.s_asg, G.s_asgQ, G.s_asg2, G.s_sub, G.s_subR, G.s_subR2, G.s_subR3, G.s_putR, G.s_fin, G.s_finN, G.s_finX, G.f_fn, G.e_seqI, G.e_seqL, G.e_seqT, G.e_rng1, G.e_rng1R, G.e_rng2, G.e_rng2R, G.e_zip, G.e_zipL, G.e_zipT, G.s_for, G.s_forR, G.for_nil, G.for_nx, G.for_ct, G.for_bk, G.for_rt, G.g_N, G.w_F, G.w_T, G.w_nx, G.e_lc, G.e_lcR, G.e_lcR2, List.map_cons, List.map_nil, List.length_cons, List.length_nil, List.replicate, List.cons_append, List.nil_append, List.append_nil, List.getElem?_cons_zero, List.getElem?_cons_succ, List.set_cons_zero, List.set_cons_succ, Nat.reduceAdd, Nat.reduceSub, if_true, if_false, Bool.not_true, Bool.not_false, decide_true, decide_false, Nat.zero_add, o_div g1 (by omega)]
    rw [show Rat.divInt t b = Rat.divInt t (b.natAbs : Int) from by rw [← hn]]
    unfold dq
    rw [d1, d2, Int.natCast_ediv, ← hn]
    rfl
theorem fr_ok {t b : Int} {k l : Nat} {st : Sto} (h0 : b ≠ 0) (hb : b.natAbs < 2 ^ k) (hk : k ≤ 8999) (ht : t.natAbs < 2 ^ l) (hl : l ≤ 900000) : m__law_fr [.int t, .int b] st = .ok (dq (Rat.divInt t b)) st := by
  unfold m__law_fr
  obtain ⟨g1, g2⟩ := dvd_log (a := t.natAbs) hb (by omega)
  have lt := small_log ht
  have lb := small_log hb
  simp only [G.e_vr, G.e_vrS, G.e_con, G.e_bin, G.e_binR, G.e_binR2, G.e_un, G.e_unR, G.e_B, G.e_bool, G.e_ch, G.e_chR, G.e_chR2, G.e_chR3t, G.e_chR3f, G.e_tru, G.e_truR, G.e_truB, G.e_truI, G.e_truN, G.e_truL, G.e_truT, G.e_not, G.e_notR, G.e_and, G.e_andT, G.e_andF, G.e_or, G.e_orT, G.e_orF, G.e_andV, G.e_andVT, G.e_andVF, G.e_orV, G.e_orVT, G.e_orVF, G.e_notV, G.e_notVR, G.e_if, G.e_ifT, G.e_ifF, G.e_nil, G.e_cons, G.e_consR, G.e_consR2, G.e_tup, G.e_tupR, G.e_lst, G.e_lstR, G.e_new, G.e_newR, G.e_args, G.e_argR, G.e_call, G.e_callR, G.o_add, G.o_addB, G.o_sub, G.o_neg, G.o_cmp, G.o_lt, G.o_mod, G.o_mul, G.o_div, G.o_pow, G.o_ixT, G.o_ixL, G.o_lenT, G.o_lenL, G.o_abs, G.o_int1, G.o_intB, G.o_max, G.o_min, G.o_eqS, G.o_neS, G.o_eqI, G.o_neI, G.o_isI, G.o_isB, G.o_isT, G.o_isL, G.o_isN, G.o_isS, G.o_tupL, G.o_tupT, G.o_rev, G.s_seq, G.s_thn, G.s_thnR, G.s_thnB, G.s_thnC, G.s_thnX, G.s_nil, G.s_brk, G.s_cnt, G.s_ret, G.s_retR, G.s_retN, G.s_exp, G.s_expR, G.s_if, G.s_ifT, G.s_ifF, G.s_set, G.s_setR, G.s_par, G.s_parR, G.s_par3, G.s_par3R, G.s_asg, G.s_asgQ, G.s_asg2, G.s_sub, G.s_subR, G.s_subR2, G.s_subR3, G.s_putR, G.s_fin, G.s_finN, G.s_finX, G.f_fn, G.e_seqI, G.e_seqL, G.e_seqT, G.e_rng1, G.e_rng1R, G.e_rng2, G.e_rng2R, G.e_zip, G.e_zipL, G.e_zipT, G.s_for, G.s_forR, G.for_nil, G.for_nx, G.for_ct, G.for_bk, G.for_rt, G.g_N, G.w_F, G.w_T, G.w_nx, G.e_lc, G.e_lcR, G.e_lcR2, List.map_cons, List.map_nil, List.length_cons, List.length_nil, List.replicate, List.cons_append, List.nil_append, List.append_nil, List.getElem?_cons_zero, List.getElem?_cons_succ, List.set_cons_zero, List.set_cons_succ, Nat.reduceAdd, Nat.reduceSub, if_true, if_false, Bool.not_true, Bool.not_false, decide_true, decide_false, Nat.zero_add]
  rw [gcd_loop (by decide) k 100000 t.natAbs b.natAbs _ st rfl rfl hb (by omega)]
  have l1 : (1 : Int).natAbs.log2 = 0 := by decide
  have l2 : (-1 : Int).natAbs.log2 = 0 := by decide
  rcases Int.lt_or_gt_of_ne h0 with h | h
  · have e : Rat.divInt t b = Rat.divInt (-1 * t) (b.natAbs : Int) := by
      rw [Rat.divInt_eq_divInt_iff h0 (by omega)]
      have : (b.natAbs : Int) = - b := by omega
      rw [this, Int.mul_neg, Int.neg_mul, Int.one_mul, Int.neg_mul]
    obtain ⟨d1, d2⟩ := divInt_nat (-1 * t) (b := b.natAbs) (by omega)
    have hn : (-1 * b) = (b.natAbs : Int) := by omega
    have ha : (-1 * t).natAbs = t.natAbs := by omega
    rw [ha] at d1 d2
    simp only [G.e_vr, G.e_vrS, G.e_con, G.e_bin, G.e_binR, G.e_binR2, G.e_un, G.e_unR, G.e_B, G.e_bool, G.e_ch, G.e_chR, G.e_chR2, G.e_chR3t, G.e_chR3f, G.e_tru, G.e_truR, G.e_truB, G.e_truI, G.e_truN, G.e_truL, G.e_truT, G.e_not, G.e_notR, G.e_and, G.e_andT, G.e_andF, G.e_or, G.e_orT, G.e_orF, G.e_andV, G.e_andVT, G.e_andVF, G.e_orV, G.e_orVT, G.e_orVF, G.e_notV, G.e_notVR, G.e_if, G.e_ifT, G.e_ifF, G.e_nil, G.e_cons, G.e_consR, G.e_consR2, G.e_tup, G.e_tupR, G.e_lst, G.e_lstR, G.e_new, G.e_newR, G.e_args, G.e_argR, G.e_call, G.e_callR, G.o_add, G.o_addB, G.o_sub, G.o_neg, G.o_cmp, G.o_lt, G.o_mod, G.o_mul, G.o_div, G.o_pow, G.o_ixT, G.o_ixL, G.o_lenT, G.o_lenL, G.o_abs, G.o_int1, G.o_intB, G.o_max, G.o_min, G.o_eqS, G.o_neS, G.o_eqI, G.o_neI, G.o_isI, G.o_isB, G.o_isT, G.o_isL, G.o_isN, G.o_isS, G.o_tupL, G.o_tupT, G.o_rev, G.s_seq, G.s_thn, G.s_thnR, G.s_thnB, G.s_thnC, G.s_thnX, G.s_nil, G.s_brk, G.s_cnt, G.s_ret, G.s_retR, G.s_retN, G.s_exp, G.s_expR, G.s_if, G.s_ifT, G.s_ifF, G.s_set, G.s_setR, G.s_par, G.s_parR, G.s_par3, G.s_par3R, G.s_asg, G.s_asgQ, G.s_asg2, G.s_sub, G.s_subR, G.s_subR2, G.s_subR3, G.s_putR, G.s_fin, G.s_finN, G.s_finX, G.f_fn, G.e_seqI, G.e_seqL, G.e_seqT, G.e_rng1, G.e_rng1R, G.e_rng2, G.e_rng2R, G.e_zip, G.e_zipL, G.e_zipT, G.s_for, G.s_forR, G.for_nil, G.for_nx, G.for_ct, G.for_bk, G.for_rt, G.g_N, G.w_F, G.w_T, G.w_nx, G.e_lc, G.e_lcR, G.e_lcR2, List.map_cons, List.map_nil, List.length_cons, List.length_nil, List.replicate, List.cons_append, List.nil_append, List.append_nil, List.getElem?_cons_zero, List.getElem?_cons_succ, List.set_cons_zero, List.set_cons_succ, Nat.reduceAdd, Nat.reduceSub, if_true, if_false, Bool.not_true, Bool.not_false, decide_true, decide_false, Nat.zero_add, h, o_mul (m := -1) (n := t) (by omega), o_mul (m := -1) (n := b) (by omega), o_div g1 (show _ ≤ 8999 by omega)]
    rw [e]
    unfold dq
    rw [d1, d2, Int.natCast_ediv, hn]
    rfl
  · have hn : b = (b.natAbs : Int) := by omega
    have hc : ¬ b < 0 := by omega
    obtain ⟨d1, d2⟩ := divInt_nat t (b := b.natAbs) (by omega)
    simp only [G.e_vr, G.e_vrS, G.e_con, G.e_bin, G.e_binR, G.e_binR2, G.e_un, G.e_unR, G.e_B, G.e_bool, G.e_ch, G.e_chR, G.e_chR2, G.e_chR3t, G.e_chR3f, G.e_tru, G.e_truR, G.e_truB, G.e_truI, G.e_truN, G.e_truL, G.e_truT, G.e_not, G.e_notR, G.e_and, G.e_andT, G.e_andF, G.e_or, G.e_orT, G.e_orF, G.e_andV, G.e_andVT, G.e_andVF, G.e_orV, G.e_orVT, G.e_orVF, G.e_notV, G.e_notVR, G.e_if, G.e_ifT, G.e_ifF, G.e_nil, G.e_cons, G.e_consR, G.e_consR2, G.e_tup, G.e_tupR, G.e_lst, G.e_lstR, G.e_new, G.e_newR, G.e_args, G.e_argR, G.e_call, G.e_callR, G.o_add, G.o_addB, G.o_sub, G.o_neg, G.o_cmp, G.o_lt, G.o_mod, G.o_mul, G.o_div, G.o_pow, G.o_ixT, G.o_ixL, G.o_lenT, G.o_lenL, G.o_abs, G.o_int1, G.o_intB, G.o_max, G.o_min, G.o_eqS, G.o_neS, G.o_eqI, G.o_neI, G.o_isI, G.o_isB, G.o_isT, G.o_isL, G.o_isN, G.o_isS, G.o_tupL, G.o_tupT, G.o_rev, G.s_seq, G.s_thn, G.s_thnR, G.s_thnB, G.s_thnC, G.s_thnX, G.s_nil, G.s_brk, G.s_cnt, G.s_ret, G.s_retR, G.s_retN, G.s_exp, G.s_expR, G.s_if, G.s_ifT, G.s_ifF, G.s_set, G.s_setR, G.s_par, G.s_parR, G.s_par3, G.s_par3R, G.s_asg, G.s_asgQ, G.s_asg2, G.s_sub, G.s_subR, G.s_subR2, G.s_subR3, G.s_putR, G.s_fin, G.s_finN, G.s_finX, G.f_fn, G.e_seqI, G.e_seqL, G.e_seqT, G.e_rng1, G.e_rng1R, G.e_rng2, G.e_rng2R, G.e_zip, G.e_zipL, G.e_zipT, G.s_for, G.s_forR, G.for_nil, G.for_nx, G.for_ct, G.for_bk, G.for_rt, G.g_N, G.w_F, G.w_T, G.w_nx, G.e_lc, G.e_lcR, G.e_lcR2, List.map_cons, List.map_nil, List.length_cons, List.length_nil, List.replicate, List.cons_append, List.nil_append, List.append_nil, List.getElem?_cons_zero, List.getElem?_cons_succ, List.set_cons_zero, List.set_cons_succ, Nat.reduceAdd, Nat.reduceSub, if_true, if_false, Bool.not_true, Bool.not_false, decide_true, decide_false, Nat.zero_add, hc, o_mul (m := 1) (n := t) (by omega), o_mul (m := 1) (n := b) (by omega), o_div g1 (show _ ≤ 8999 by omega)]
    rw [show Rat.divInt t b = Rat.divInt t (b.natAbs : Int) from by rw [← hn]]
    unfold dq
    rw [d1, d2, Int.natCast_ediv, ← hn, Int.one_mul, Int.one_mul]
    rfl

theorem divInt_one' (n : Int) : Rat.divInt n 1 = (n : Rat) := Rat.num_divInt_den (n : Rat)
theorem added_ok {x y : Rat} {a b : Nat} {st : Sto} (hx : Sm a x) (hy : Sm b y) (hk : a + b ≤ 8999) : m_added [dq x, dq y] st = .ok (dq (x + y)) st := by
  unfold m_added
  have dx := x.den_nz
  have dy := y.den_nz
  have hz : (x.den : Int) * y.den ≠ 0 := Int.mul_ne_zero (by omega) (by omega)
  have l1 := small_log hx.num
  have l2 := small_log hy.num
  have l3 : (x.den : Int).natAbs.log2 ≤ a := log_le' hx.den
  have l4 : (y.den : Int).natAbs.log2 ≤ b := log_le' hy.den
  have hb : ((x.den : Int) * y.den).natAbs < 2 ^ (a + b) := by
    rw [Int.natAbs_mul]
    exact mul_lt hx.den hy.den
  have red : m_reduced [.int (x.num * y.den + y.num * x.den), .int ((x.den : Int) * y.den)] st = .ok (dq (x + y)) st := by
    rw [reduced_ok hz hb hk, ← add_eq]
  have gen : (callR m_reduced [] (.ok [.int (x.num * y.den + y.num * x.den), .int ((x.den : Int) * y.den)] st)) = .ok (dq (x + y)) st := red
  by_cases h1 : (x.den : Int) == (y.den : Int)
  · by_cases h2 : (y.den : Int) == 1
    · have e1 : (x.den : Int) = y.den := eq_of_beq h1
      have e2 : (y.den : Int) = 1 := eq_of_beq h2
      have e3 : y.den = 1 := by omega
      have e4 : x.den = 1 := by omega
      have e : x + y = (x.num + y.num : Int) := by
        rw [add_eq, e3, e4, show ((1 : Nat) : Int) = 1 from rfl, Int.mul_one, Int.mul_one, Int.mul_one]
        exact divInt_one' _
      simp only [G.e_vr, G.e_vrS, G.e_con, G.e_bin, G.e_binR, G.e_binR2, G.e_un, G.e_unR, G.e_B, G.e_bool, G.e_ch, G.e_chR, G.e_chR2, G.e_chR3t, G.e_chR3f, G.e_tru, G.e_truR, G.e_truB, G.e_truI, G.e_truN, G.e_truL, G.e_truT, G.e_not, G.e_notR, G.e_and, G.e_andT, G.e_andF, G.e_or, G.e_orT, G.e_orF, G.e_andV, G.e_andVT, G.e_andVF, G.e_orV, G.e_orVT, G.e_orVF, G.e_notV, G.e_notVR, G.e_if, G.e_ifT, G.e_ifF, G.e_nil, G.e_cons, G.e_consR, G.e_consR2, G.e_tup, G.e_tupR, G.e_lst, G.e_lstR, G.e_new, G.e_newR, G.e_args, G.e_argR, G.e_call, G.e_callR, G.o_add, G.o_addB, G.o_sub, G.o_neg, G.o_cmp, G.o_lt, G.o_mod, G.o_mul, G.o_div, G.o_pow, G.o_ixT, G.o_ixL, G.o_lenT, G.o_lenL, G.o_abs, G.o_int1, G.o_intB, G.o_max, G.o_min, G.o_eqS, G.o_neS, G.o_eqI, G.o_neI, G.o_isI, G.o_isB, G.o_isT, G.o_isL, G.o_isN, G.o_isS, G.o_tupL, G.o_tupT, G.o_rev, G.s_seq, G.s_thn, G.s_thnR, G.s_thnB, G.s_thnC, G.s_thnX, G.s_nil, G.s_brk, G.s_cnt, G.s_ret, G.s_retR, G.s_retN, G.s_exp, G.s_expR, G.s_if, G.s_ifT, G.s_ifF, G.s_set, G.s_setR, G.s_par, G.s_parR, G.s_par3, G.s_par3R, G.s_asg, G.s_asgQ, G.s_asg2, G.s_sub, G.s_subR, G.s_subR2, G.s_subR3, G.s_putR, G.s_fin, G.s_finN, G.s_finX, G.f_fn, G.e_seqI, G.e_seqL, G.e_seqT, G.e_rng1, G.e_rng1R, G.e_rng2, G.e_rng2R, G.e_zip, G.e_zipL, G.e_zipT, G.s_for, G.s_forR, G.for_nil, G.for_nx, G.for_ct, G.for_bk, G.for_rt, G.g_N, G.w_F, G.w_T, G.w_nx, G.e_lc, G.e_lcR, G.e_lcR2, List.map_cons, List.map_nil, List.length_cons, List.length_nil, List.replicate, List.cons_append, List.nil_append, List.append_nil, List.getElem?_cons_zero, List.getElem?_cons_succ, List.set_cons_zero, List.set_cons_succ, Nat.reduceAdd, Nat.reduceSub, if_true, if_false, Bool.not_true, Bool.not_false, decide_true, decide_false, Nat.zero_add, dq_0, dq_1, h1, h2]
      rw [e]
      rfl
    · have h2 : ((y.den : Int) == 1) = false := by simpa using h2
      simp only [G.e_vr, G.e_vrS, G.e_con, G.e_bin, G.e_binR, G.e_binR2, G.e_un, G.e_unR, G.e_B, G.e_bool, G.e_ch, G.e_chR, G.e_chR2, G.e_chR3t, G.e_chR3f, G.e_tru, G.e_truR, G.e_truB, G.e_truI, G.e_truN, G.e_truL, G.e_truT, G.e_not, G.e_notR, G.e_and, G.e_andT, G.e_andF, G.e_or, G.e_orT, G.e_orF, G.e_andV, G.e_andVT, G.e_andVF, G.e_orV, G.e_orVT, G.e_orVF, G.e_notV, G.e_notVR, G.e_if, G.e_ifT, G.e_ifF, G.e_nil, G.e_cons, G.e_consR, G.e_consR2, G.e_tup, G.e_tupR, G.e_lst, G.e_lstR, G.e_new, G.e_newR, G.e_args, G.e_argR, G.e_call, G.e_callR, G.o_add, G.o_addB, G.o_sub, G.o_neg, G.o_cmp, G.o_lt, G.o_mod, G.o_mul, G.o_div, G.o_pow, G.o_ixT, G.o_ixL, G.o_lenT, G.o_lenL, G.o_abs, G.o_int1, G.o_intB, G.o_max, G.o_min, G.o_eqS, G.o_neS, G.o_eqI, G.o_neI, G.o_isI, G.o_isB, G.o_isT, G.o_isL, G.o_isN, G.o_isS, G.o_tupL, G.o_tupT, G.o_rev, G.s_seq, G.s_thn, G.s_thnR, G.s_thnB, G.s_thnC, G.s_thnX, G.s_nil, G.s_brk, G.s_cnt, G.s_ret, G.s_retR, G.s_retN, G.s_exp, G.s_expR, G.s_if, G.s_ifT, G.s_ifF, G.s_set, G.s_setR, G.s_par, G.s_parR, G.s_par3, G.s_par3R, G.s_asg, G.s_asgQ, G.s_asg2, G.s_sub, G.s_subR, G.s_subR2, G.s_subR3, G.s_putR, G.s_fin, G.s_finN, G.s_finX, G.f_fn, G.e_seqI, G.e_seqL, G.e_seqT, G.e_rng1, G.e_rng1R, G.e_rng2, G.e_rng2R, G.e_zip, G.e_zipL, G.e_zipT, G.s_for, G.s_forR, G.for_nil, G.for_nx, G.for_ct, G.for_bk, G.for_rt, G.g_N, G.w_F, G.w_T, G.w_nx, G.e_lc, G.e_lcR, G.e_lcR2, List.map_cons, List.map_nil, List.length_cons, List.length_nil, List.replicate, List.cons_append, List.nil_append, List.append_nil, List.getElem?_cons_zero, List.getElem?_cons_succ, List.set_cons_zero, List.set_cons_succ, Nat.reduceAdd, Nat.reduceSub, if_true, if_false, Bool.not_true, Bool.not_false, decide_true, decide_false, Nat.zero_add, dq_0, dq_1, h1, h2, o_mul (m := x.num) (n := (y.den : Int)) (by omega), o_mul (m := y.num) (n := (x.den : Int)) (by omega), o_mul (m := (x.den : Int)) (n := (y.den : Int)) (by omega), red]
  · have h1 : ((x.den : Int) == (y.den : Int)) = false := by simpa using h1
    simp only [G.e_vr, G.e_vrS, G.e_con, G.e_bin, G.e_binR, G.e_binR2, G.e_un, G.e_unR, G.e_B, G.e_bool, G.e_ch, G.e_chR, G.e_chR2, G.e_chR3t, G.e_chR3f, G.e_tru, G.e_truR, G.e_truB, G.e_truI, G.e_truN, G.e_truL, G.e_truT, G.e_not, G.e_notR, G.e_and, G.e_andT, G.e_andF, G.e_or, G.e_orT, G.e_orF, G.e_andV, G.e_andVT, G.e_andVF, G.e_orV, G.e_orVT, G.e_orVF, G.e_notV, G.e_notVR, G.e_if, G.e_ifT, G.e_ifF, G.e_nil, G.e_cons, G.e_consR, G.e_consR2, G.e_tup, G.e_tupR, G.e_lst, G.e_lstR, G.e_new, G.e_newR, G.e_args, G.e_argR, G.e_call, G.e_callR, G.o_add, G.o_addB, G.o_sub, G.o_neg, G.o_cmp, G.o_lt, G.o_mod, G.o_mul, G.o_div, G.o_pow, G.o_ixT, G.o_ixL, G.o_lenT, G.o_lenL, G.o_abs, G.o_int1, G.o_intB, G.o_max, G.o_min, G.o_eqS, G.o_neS, G.o_eqI, G.o_neI, G.o_isI, G.o_isB, G.o_isT, G.o_isL, G.o_isN, G.o_isS, G.o_tupL, G.o_tupT, G.o_rev, G.s_seq, G.s_thn, G.s_thnR, G.s_thnB, G.s_thnC, G.s_thnX, G.s_nil, G.s_brk, G.s_cnt, G.s_ret, G.s_retR, G.s_retN, G.s_exp, G.s_expR, G.s_if, G.s_ifT, G.s_ifF, G.s_set, G.s_setR, G.s_par, G.s_parR, G.s_par3, G.s_par3R, G.s_asg, G.s_asgQ, G.s_asg2, G.s_sub, G.s_subR, G.s_subR2, G.s_subR3, G.s_putR, G.s_fin, G.s_finN, G.s_finX, G.f_fn, G.e_seqI, G.e_seqL, G.e_seqT, G.e_rng1, G.e_rng1R, G.e_rng2, G.e_rng2R, G.e_zip, G.e_zipL, G.e_zipT, G.s_for, G.s_forR, G.for_nil, G.for_nx, G.for_ct, G.for_bk, G.for_rt, G.g_N, G.w_F, G.w_T, G.w_nx, G.e_lc, G.e_lcR, G.e_lcR2, List.map_cons, List.map_nil, List.length_cons, List.length_nil, List.replicate, List.cons_append, List.nil_append, List.append_nil, List.getElem?_cons_zero, List.getElem?_cons_succ, List.set_cons_zero, List.set_cons_succ, Nat.reduceAdd, Nat.reduceSub, if_true, if_false, Bool.not_true, Bool.not_false, decide_true, decide_false, Nat.zero_add, dq_0, dq_1, h1, o_mul (m := x.num) (n := (y.den : Int)) (by omega), o_mul (m := y.num) (n := (x.den : Int)) (by omega), o_mul (m := (x.den : Int)) (n := (y.den : Int)) (by omega), red]
theorem multiplied_ok {x y : Rat} {a b : Nat} {st : Sto} (hx : Sm a x) (hy : Sm b y) (hk : a + b ≤ 8999) : m_multiplied [dq x, dq y] st = .ok (dq (x * y)) st := by
  unfold m_multiplied
  have dx := x.den_nz
  have dy := y.den_nz
  have hz : (x.den : Int) * y.den ≠ 0 := Int.mul_ne_zero (by omega) (by omega)
  have l1 := small_log hx.num
  have l2 := small_log hy.num
  have l3 : (x.den : Int).natAbs.log2 ≤ a := log_le' hx.den
  have l4 : (y.den : Int).natAbs.log2 ≤ b := log_le' hy.den
  have hb : ((x.den : Int) * y.den).natAbs < 2 ^ (a + b) := by
    rw [Int.natAbs_mul]
    exact mul_lt hx.den hy.den
  have red : m_reduced [.int (x.num * y.num), .int ((x.den : Int) * y.den)] st = .ok (dq (x * y)) st := by
    rw [reduced_ok hz hb hk, ← mul_eq]
  by_cases h1 : (x.den : Int) == (y.den : Int)
  · by_cases h2 : (y.den : Int) == 1
    · have e1 : (x.den : Int) = y.den := eq_of_beq h1
      have e2 : (y.den : Int) = 1 := eq_of_beq h2
      have e3 : y.den = 1 := by omega
      have e4 : x.den = 1 := by omega
      have e : x * y = (x.num * y.num : Int) := by
        rw [mul_eq, e3, e4, show ((1 : Nat) : Int) = 1 from rfl, Int.mul_one]
        exact divInt_one' _
      simp only [G.e_vr, G.e_vrS, G.e_con, G.e_bin, G.e_binR, G.e_binR2, G.e_un, G.e_unR, G.e_B, G.e_bool, G.e_ch, G.e_chR, G.e_chR2, G.e_chR3t, G.e_chR3f, G.e_tru, G.e_truR, G.e_truB, G.e_truI, G.e_truN, G.e_truL, G.e_truT, G.e_not, G.e_notR, G.e_and, G.e_andT, G.e_andF, G.e_or, G.e_orT, G.e_orF, G.e_andV, G.e_andVT, G.e_andVF, G.e_orV, G.e_orVT, G.e_orVF, G.e_notV, G.e_notVR, G.e_if, G.e_ifT, G.e_ifF, G.e_nil, G.e_cons, G.e_consR, G.e_consR2, G.e_tup, G.e_tupR, G.e_lst, G.e_lstR, G.e_new, G.e_newR, G.e_args, G.e_argR, G.e_call, G.e_callR, G.o_add, G.o_addB, G.o_sub, G.o_neg, G.o_cmp, G.o_lt, G.o_mod, G.o_mul, G.o_div, G.o_pow, G.o_ixT, G.o_ixL, G.o_lenT, G.o_lenL, G.o_abs, G.o_int1, G.o_intB, G.o_max, G.o_min, G.o_eqS, G.o_neS, G.o_eqI, G.o_neI, G.o_isI, G.o_isB, G.o_isT, G.o_isL, G.o_isN, G.o_isS, G.o_tupL, G.o_tupT, G.o_rev, G.s_seq, G.s_thn, G.s_thnR, G.s_thnB, G.s_thnC, G.s_thnX, G.s_nil, G.s_brk, G.s_cnt, G.s_ret, G.s_retR, G.s_retN, G.s_exp, G.s_expR, G.s_if, G.s_ifT, G.s_ifF, G.s_set, G.s_setR, G.s_par, G.s_parR, G.s_par3, G.s_par3R, G.s_asg, G.s_asgQ, G.s_asg2, G.s_sub, G.s_subR, G.s_subR2, G.s_subR3, G.s_putR, G.s_fin, G.s_finN, G.s_finX, G.f_fn, G.e_seqI, G.e_seqL, G.e_seqT, G.e_rng1, G.e_rng1R, G.e_rng2, G.e_rng2R, G.e_zip, G.e_zipL, G.e_zipT, G.s_for, G.s_forR, G.for_nil, G.for_nx, G.for_ct, G.for_bk, G.for_rt, G.g_N, G.w_F, G.w_T, G.w_nx, G.e_lc, G.e_lcR, G.e_lcR2, List.map_cons, List.map_nil, List.length_cons, List.length_nil, List.replicate, List.cons_append, List.nil_append, List.append_nil, List.getElem?_cons_zero, List.getElem?_cons_succ, List.set_cons_zero, List.set_cons_succ, Nat.reduceAdd, Nat.reduceSub, if_true, if_false, Bool.not_true, Bool.not_false, decide_true, decide_false, Nat.zero_add, dq_0, dq_1, h1, h2, o_mul (m := x.num) (n := y.num) (by omega)]
      rw [e]
      rfl
    · have h2 : ((y.den : Int) == 1) = false := by simpa using h2
      simp only [G.e_vr, G.e_vrS, G.e_con, G.e_bin, G.e_binR, G.e_binR2, G.e_un, G.e_unR, G.e_B, G.e_bool, G.e_ch, G.e_chR, G.e_chR2, G.e_chR3t, G.e_chR3f, G.e_tru, G.e_truR, G.e_truB, G.e_truI, G.e_truN, G.e_truL, G.e_truT, G.e_not, G.e_notR, G.e_and, G.e_andT, G.e_andF, G.e_or, G.e_orT, G.e_orF, G.e_andV, G.e_andVT, G.e_andVF, G.e_orV, G.e_orVT, G.e_orVF, G.e_notV, G.e_notVR, G.e_if, G.e_ifT, G.e_ifF, G.e_nil, G.e_cons, G.e_consR, G.e_consR2, G.e_tup, G.e_tupR, G.e_lst, G.e_lstR, G.e_new, G.e_newR, G.e_args, G.e_argR, G.e_call, G.e_callR, G.o_add, G.o_addB, G.o_sub, G.o_neg, G.o_cmp, G.o_lt, G.o_mod, G.o_mul, G.o_div, G.o_pow, G.o_ixT, G.o_ixL, G.o_lenT, G.o_lenL, G.o_abs, G.o_int1, G.o_intB, G.o_max, G.o_min, G.o_eqS, G.o_neS, G.o_eqI, G.o_neI, G.o_isI, G.o_isB, G.o_isT, G.o_isL, G.o_isN, G.o_isS, G.o_tupL, G.o_tupT, G.o_rev, G.s_seq, G.s_thn, G.s_thnR, G.s_thnB, G.s_thnC, G.s_thnX, G.s_nil, G.s_brk, G.s_cnt, G.s_ret, G.s_retR, G.s_retN, G.s_exp, G.s_expR, G.s_if, G.s_ifT, G.s_ifF, G.s_set, G.s_setR, G.s_par, G.s_parR, G.s_par3, G.s_par3R, G.s_asg, G.s_asgQ, G.s_asg2, G.s_sub, G.s_subR, G.s_subR2, G.s_subR3, G.s_putR, G.s_fin, G.s_finN, G.s_finX, G.f_fn, G.e_seqI, G.e_seqL, G.e_seqT, G.e_rng1, G.e_rng1R, G.e_rng2, G.e_rng2R, G.e_zip, G.e_zipL, G.e_zipT, G.s_for, G.s_forR, G.for_nil, G.for_nx, G.for_ct, G.for_bk, G.for_rt, G.g_N, G.w_F, G.w_T, G.w_nx, G.e_lc, G.e_lcR, G.e_lcR2, List.map_cons, List.map_nil, List.length_cons, List.length_nil, List.replicate, List.cons_append, List.nil_append, List.append_nil, List.getElem?_cons_zero, List.getElem?_cons_succ, List.set_cons_zero, List.set_cons_succ, Nat.reduceAdd, Nat.reduceSub, if_true, if_false, Bool.not_true, Bool.not_false, decide_true, decide_false, Nat.zero_add, dq_0, dq_1, h1, h2, o_mul (m := x.num) (n := y.num) (by omega), o_mul (m := (x.den : Int)) (n := (y.den : Int)) (by omega), red]
  · have h1 : ((x.den : Int) == (y.den : Int)) = false := by simpa using h1
    simp only [G.e_vr, G.e_vrS, G.e_con, G.e_bin, G.e_binR, G.e_binR2, G.e_un, G.e_unR, G.e_B, G.e_bool, G.e_ch, G.e_chR, G.e_chR2, G.e_chR3t, G.e_chR3f, G.e_tru, G.e_truR, G.e_truB, G.e_truI, G.e_truN, G.e_truL, G.e_truT, G.e_not, G.e_notR, G.e_and, G.e_andT, G.e_andF, G.e_or, G.e_orT, G.e_orF, G.e_andV, G.e_andVT, G.e_andVF, G.e_orV, G.e_orVT, G.e_orVF, G.e_notV, G.e_notVR, G.e_if, G.e_ifT, G.e_ifF, G.e_nil, G.e_cons, G.e_consR, G.e_consR2, G.e_tup, G.e_tupR, G.e_lst, G.e_lstR, G.e_new, G.e_newR, G.e_args, G.e_argR, G.e_call, G.e_callR, G.o_add, G.o_addB, G.o_sub, G.o_neg, G.o_cmp, G.o_lt, G.o_mod, G.o_mul, G.o_div, G.o_pow, G.o_ixT, G.o_ixL, G.o_lenT, G.o_lenL, G.o_abs, G.o_int1, G.o_intB, G.o_max, G.o_min, G.o_eqS, G.o_neS, G.o_eqI, G.o_neI, G.o_isI, G.o_isB, G.o_isT, G.o_isL, G.o_isN, G.o_isS, G.o_tupL, G.o_tupT, G.o_rev, G.s_seq, G.s_thn, G.s_thnR, G.s_thnB, G.s_thnC, G.s_thnX, G.s_nil, G.s_brk, G.s_cnt, G.s_ret, G.s_retR, G.s_retN, G.s_exp, G.s_expR, G.s_if, G.s_ifT, G.s_ifF, G.s_set, G.s_setR, G.s_par, G.s_parR, G.s_par3, G.s_par3R, G.s_asg, G.s_asgQ, G.s_asg2, G.s_sub, G.s_subR, G.s_subR2, G.s_subR3, G.s_putR, G.s_fin, G.s_finN, G.s_finX, G.f_fn, G.e_seqI, G.e_seqL, G.e_seqT, G.e_rng1, G.e_rng1R, G.e_rng2, G.e_rng2R, G.e_zip, G.e_zipL, G.e_zipT, G.s_for, G.s_forR, G.for_nil, G.for_nx, G.for_ct, G.for_bk, G.for_rt, G.g_N, G.w_F, G.w_T, G.w_nx, G.e_lc, G.e_lcR, G.e_lcR2, List.map_cons, List.map_nil, List.length_cons, List.length_nil, List.replicate, List.cons_append, List.nil_append, List.append_nil, List.getElem?_cons_zero, List.getElem?_cons_succ, List.set_cons_zero, List.set_cons_succ, Nat.reduceAdd, Nat.reduceSub, if_true, if_false, Bool.not_true, Bool.not_false, decide_true, decide_false, Nat.zero_add, dq_0, dq_1, h1, o_mul (m := x.num) (n := y.num) (by omega), o_mul (m := (x.den : Int)) (n := (y.den : Int)) (by omega), red]
theorem opposite_ok {x : Rat} {st : Sto} : m_opposite [dq x] st = .ok (dq (-x)) st := by
  unfold m_opposite
  simp only [G.e_vr, G.e_vrS, G.e_con, G.e_bin, G.e_binR, G.e_binR2, G.e_un, G.e_unR, G.e_B, G.e_bool, G.e_ch, G.e_chR, G.e_chR2, G.e_chR3t, G.e_chR3f, G.e_tru, G.e_truR, G.e_truB, G.e_truI, G.e_truN, G.e_truL, G.e_truT, G.e_not, G.e_notR, G.e_and, G.e_andT, G.e_andF, G.e_or, G.e_orT, G.e_orF, G.e_andV, G.e_andVT, G.e_andVF, G.e_orV, G.e_orVT, G.e_orVF, G.e_notV, G.e_notVR, G.e_if, G.e_ifT, G.e_ifF, G.e_nil, G.e_cons, G.e_consR, G.e_consR2, G.e_tup, G.e_tupR, G.e_lst, G.e_lstR, G.e_new, G.e_newR, G.e_args, G.e_argR, G.e_call, G.e_callR, G.o_add, G.o_addB, G.o_sub, G.o_neg, G.o_cmp, G.o_lt, G.o_mod, G.o_mul, G.o_div, G.o_pow, G.o_ixT, G.o_ixL, G.o_lenT, G.o_lenL, G.o_abs, G.o_int1, G.o_intB, G.o_max, G.o_min, G.o_eqS, G.o_neS, G.o_eqI, G.o_neI, G.o_isI, G.o_isB, G.o_isT, G.o_isL, G.o_isN, G.o_isS, G.o_tupL, G.o_tupT, G.o_rev, G.s_seq, G.s_thn, G.s_thnR, G.s_thnB, G.s_thnC, G.s_thnX, G.s_nil, G.s_brk, G.s_cnt, G.s_ret, G.s_retR, G.s_retN, G.s_exp, G.s_expR, G.s_if, G.s_ifT, G.s_ifF, G.s_set, G.s_setR, G.s_par, G.s_parR, G.s_par3, G.s_par3R, G.s_asg, G.s_asgQ, G.s_asg2, G.s_sub, G.s_subR, G.s_subR2, G.s_subR3, G.s_putR, G.s_fin, G.s_finN, G.s_finX, G.f_fn, G.e_seqI, G.e_seqL, G.e_seqT, G.e_rng1, G.e_rng1R, G.e_rng2, G.e_rng2R, G.e_zip, G.e_zipL, G.e_zipT, G.s_for, G.s_forR, G.for_nil, G.for_nx, G.for_ct, G.for_bk, G.for_rt, G.g_N, G.w_F, G.w_T, G.w_nx, G.e_lc, G.e_lcR, G.e_lcR2, List.map_cons, List.map_nil, List.length_cons, List.length_nil, List.replicate, List.cons_append, List.nil_append, List.append_nil, List.getElem?_cons_zero, List.getElem?_cons_succ, List.set_cons_zero, List.set_cons_succ, Nat.reduceAdd, Nat.reduceSub, if_true, if_false, Bool.not_true, Bool.not_false, decide_true, decide_false, Nat.zero_add, dq_0, dq_1]
  unfold dq
  rw [(neg_num x).1, (neg_num x).2, Int.zero_sub]
  rfl
theorem divided_ok {x y : Rat} {a b : Nat} {st : Sto} (hx : Sm a x) (hy : Sm b y) (hk : a + b ≤ 8999) (h0 : y ≠ 0) : m_divided [dq x, dq y] st = .ok (dq (x / y)) st := by
  unfold m_divided
  have dx := x.den_nz
  have hz : (x.den : Int) * y.num ≠ 0 := Int.mul_ne_zero (by omega) (num_ne h0)
  have l1 := small_log hx.num
  have l2 := small_log hy.num
  have l3 : (x.den : Int).natAbs.log2 ≤ a := log_le' hx.den
  have l4 : (y.den : Int).natAbs.log2 ≤ b := log_le' hy.den
  have hb : ((x.den : Int) * y.num).natAbs < 2 ^ (a + b) := by
    rw [Int.natAbs_mul]
    exact mul_lt hx.den hy.num
  have red : m_reduced [.int (x.num * y.den), .int ((x.den : Int) * y.num)] st = .ok (dq (x / y)) st := by
    rw [reduced_ok hz hb hk, ← div_eq x y h0]
  simp only [G.e_vr, G.e_vrS, G.e_con, G.e_bin, G.e_binR, G.e_binR2, G.e_un, G.e_unR, G.e_B, G.e_bool, G.e_ch, G.e_chR, G.e_chR2, G.e_chR3t, G.e_chR3f, G.e_tru, G.e_truR, G.e_truB, G.e_truI, G.e_truN, G.e_truL, G.e_truT, G.e_not, G.e_notR, G.e_and, G.e_andT, G.e_andF, G.e_or, G.e_orT, G.e_orF, G.e_andV, G.e_andVT, G.e_andVF, G.e_orV, G.e_orVT, G.e_orVF, G.e_notV, G.e_notVR, G.e_if, G.e_ifT, G.e_ifF, G.e_nil, G.e_cons, G.e_consR, G.e_consR2, G.e_tup, G.e_tupR, G.e_lst, G.e_lstR, G.e_new, G.e_newR, G.e_args, G.e_argR, G.e_call, G.e_callR, G.o_add, G.o_addB, G.o_sub, G.o_neg, G.o_cmp, G.o_lt, G.o_mod, G.o_mul, G.o_div, G.o_pow, G.o_ixT, G.o_ixL, G.o_lenT, G.o_lenL, G.o_abs, G.o_int1, G.o_intB, G.o_max, G.o_min, G.o_eqS, G.o_neS, G.o_eqI, G.o_neI, G.o_isI, G.o_isB, G.o_isT, G.o_isL, G.o_isN, G.o_isS, G.o_tupL, G.o_tupT, G.o_rev, G.s_seq, G.s_thn, G.s_thnR, G.s_thnB, G.s_thnC, G.s_thnX, G.s_nil, G.s_brk, G.s_cnt, G.s_ret, G.s_retR, G.s_retN, G.s_exp, G.s_expR, G.s_if, G.s_ifT, G.s_ifF, G.s_set, G.s_setR, G.s_par, G.s_parR, G.s_par3, G.s_par3R, G.s_asg, G.s_asgQ, G.s_asg2, G.s_sub, G.s_subR, G.s_subR2, G.s_subR3, G.s_putR, G.s_fin, G.s_finN, G.s_finX, G.f_fn, G.e_seqI, G.e_seqL, G.e_seqT, G.e_rng1, G.e_rng1R, G.e_rng2, G.e_rng2R, G.e_zip, G.e_zipL, G.e_zipT, G.s_for, G.s_forR, G.for_nil, G.for_nx, G.for_ct, G.for_bk, G.for_rt, G.g_N, G.w_F, G.w_T, G.w_nx, G.e_lc, G.e_lcR, G.e_lcR2, List.map_cons, List.map_nil, List.length_cons, List.length_nil, List.replicate, List.cons_append, List.nil_append, List.append_nil, List.getElem?_cons_zero, List.getElem?_cons_succ, List.set_cons_zero, List.set_cons_succ, Nat.reduceAdd, Nat.reduceSub, if_true, if_false, Bool.not_true, Bool.not_false, decide_true, decide_false, Nat.zero_add, dq_0, dq_1, o_mul (m := x.num) (n := (y.den : Int)) (by omega), o_mul (m := (x.den : Int)) (n := y.num) (by omega), red]
theorem plus_ok {x y : Rat} {a b : Nat} {st : Sto} (hx : Sm a x) (hy : Sm b y) (hk : a + b ≤ 8999) : m_plus [dq x, dq y] st = .ok (dq (x + y)) st := by
  unfold m_plus
  simp only [G.e_vr, G.e_vrS, G.e_con, G.e_bin, G.e_binR, G.e_binR2, G.e_un, G.e_unR, G.e_B, G.e_bool, G.e_ch, G.e_chR, G.e_chR2, G.e_chR3t, G.e_chR3f, G.e_tru, G.e_truR, G.e_truB, G.e_truI, G.e_truN, G.e_truL, G.e_truT, G.e_not, G.e_notR, G.e_and, G.e_andT, G.e_andF, G.e_or, G.e_orT, G.e_orF, G.e_andV, G.e_andVT, G.e_andVF, G.e_orV, G.e_orVT, G.e_orVF, G.e_notV, G.e_notVR, G.e_if, G.e_ifT, G.e_ifF, G.e_nil, G.e_cons, G.e_consR, G.e_consR2, G.e_tup, G.e_tupR, G.e_lst, G.e_lstR, G.e_new, G.e_newR, G.e_args, G.e_argR, G.e_call, G.e_callR, G.o_add, G.o_addB, G.o_sub, G.o_neg, G.o_cmp, G.o_lt, G.o_mod, G.o_mul, G.o_div, G.o_pow, G.o_ixT, G.o_ixL, G.o_lenT, G.o_lenL, G.o_abs, G.o_int1, G.o_intB, G.o_max, G.o_min, G.o_eqS, G.o_neS, G.o_eqI, G.o_neI, G.o_isI, G.o_isB, G.o_isT, G.o_isL, G.o_isN, G.o_isS, G.o_tupL, G.o_tupT, G.o_rev, G.s_seq, G.s_thn, G.s_thnR, G.s_thnB, G.s_thnC, G.s_thnX, G.s_nil, G.s_brk, G.s_cnt, G.s_ret, G.s_retR, G.s_retN, G.s_exp, G.s_expR, G.s_if, G.s_ifT, G.s_ifF, G.s_set, G.s_setR, G.s_par, G.s_parR, G.s_par3, G.s_par3R, G.s_asg, G.s_asgQ, G.s_asg2, G.s_sub, G.s_subR, G.s_subR2, G.s_subR3, G.s_putR, G.s_fin, G.s_finN, G.s_finX, G.f_fn, G.e_seqI, G.e_seqL, G.e_seqT, G.e_rng1, G.e_rng1R, G.e_rng2, G.e_rng2R, G.e_zip, G.e_zipL, G.e_zipT, G.s_for, G.s_forR, G.for_nil, G.for_nx, G.for_ct, G.for_bk, G.for_rt, G.g_N, G.w_F, G.w_T, G.w_nx, G.e_lc, G.e_lcR, G.e_lcR2, List.map_cons, List.map_nil, List.length_cons, List.length_nil, List.replicate, List.cons_append, List.nil_append, List.append_nil, List.getElem?_cons_zero, List.getElem?_cons_succ, List.set_cons_zero, List.set_cons_succ, Nat.reduceAdd, Nat.reduceSub, if_true, if_false, Bool.not_true, Bool.not_false, decide_true, decide_false, Nat.zero_add, require_ok hx (show a ≤ 40000 by omega), require_ok hy (show b ≤ 40000 by omega), added_ok hx hy hk]
theorem minus_ok {x y : Rat} {a b : Nat} {st : Sto} (hx : Sm a x) (hy : Sm b y) (hk : a + b ≤ 8999) : m_minus [dq x, dq y] st = .ok (dq (x - y)) st := by
  unfold m_minus
  simp only [G.e_vr, G.e_vrS, G.e_con, G.e_bin, G.e_binR, G.e_binR2, G.e_un, G.e_unR, G.e_B, G.e_bool, G.e_ch, G.e_chR, G.e_chR2, G.e_chR3t, G.e_chR3f, G.e_tru, G.e_truR, G.e_truB, G.e_truI, G.e_truN, G.e_truL, G.e_truT, G.e_not, G.e_notR, G.e_and, G.e_andT, G.e_andF, G.e_or, G.e_orT, G.e_orF, G.e_andV, G.e_andVT, G.e_andVF, G.e_orV, G.e_orVT, G.e_orVF, G.e_notV, G.e_notVR, G.e_if, G.e_ifT, G.e_ifF, G.e_nil, G.e_cons, G.e_consR, G.e_consR2, G.e_tup, G.e_tupR, G.e_lst, G.e_lstR, G.e_new, G.e_newR, G.e_args, G.e_argR, G.e_call, G.e_callR, G.o_add, G.o_addB, G.o_sub, G.o_neg, G.o_cmp, G.o_lt, G.o_mod, G.o_mul, G.o_div, G.o_pow, G.o_ixT, G.o_ixL, G.o_lenT, G.o_lenL, G.o_abs, G.o_int1, G.o_intB, G.o_max, G.o_min, G.o_eqS, G.o_neS, G.o_eqI, G.o_neI, G.o_isI, G.o_isB, G.o_isT, G.o_isL, G.o_isN, G.o_isS, G.o_tupL, G.o_tupT, G.o_rev, G.s_seq, G.s_thn, G.s_thnR, G.s_thnB, G.s_thnC, G.s_thnX, G.s_nil, G.s_brk, G.s_cnt, G.s_ret, G.s_retR, G.s_retN, G.s_exp, G.s_expR, G.s_if, G.s_ifT, G.s_ifF, G.s_set, G.s_setR, G.s_par, G.s_parR, G.s_par3, G.s_par3R, G.s_asg, G.s_asgQ, G.s_asg2, G.s_sub, G.s_subR, G.s_subR2, G.s_subR3, G.s_putR, G.s_fin, G.s_finN, G.s_finX, G.f_fn, G.e_seqI, G.e_seqL, G.e_seqT, G.e_rng1, G.e_rng1R, G.e_rng2, G.e_rng2R, G.e_zip, G.e_zipL, G.e_zipT, G.s_for, G.s_forR, G.for_nil, G.for_nx, G.for_ct, G.for_bk, G.for_rt, G.g_N, G.w_F, G.w_T, G.w_nx, G.e_lc, G.e_lcR, G.e_lcR2, List.map_cons, List.map_nil, List.length_cons, List.length_nil, List.replicate, List.cons_append, List.nil_append, List.append_nil, List.getElem?_cons_zero, List.getElem?_cons_succ, List.set_cons_zero, List.set_cons_succ, Nat.reduceAdd, Nat.reduceSub, if_true, if_false, Bool.not_true, Bool.not_false, decide_true, decide_false, Nat.zero_add, require_ok hx (show a ≤ 40000 by omega), require_ok hy (show b ≤ 40000 by omega), opposite_ok, added_ok hx hy.neg hk, Rat.sub_eq_add_neg]
theorem times_ok {x y : Rat} {a b : Nat} {st : Sto} (hx : Sm a x) (hy : Sm b y) (hk : a + b ≤ 8999) : m_times [dq x, dq y] st = .ok (dq (x * y)) st := by
  unfold m_times
  simp only [G.e_vr, G.e_vrS, G.e_con, G.e_bin, G.e_binR, G.e_binR2, G.e_un, G.e_unR, G.e_B, G.e_bool, G.e_ch, G.e_chR, G.e_chR2, G.e_chR3t, G.e_chR3f, G.e_tru, G.e_truR, G.e_truB, G.e_truI, G.e_truN, G.e_truL, G.e_truT, G.e_not, G.e_notR, G.e_and, G.e_andT, G.e_andF, G.e_or, G.e_orT, G.e_orF, G.e_andV, G.e_andVT, G.e_andVF, G.e_orV, G.e_orVT, G.e_orVF, G.e_notV, G.e_notVR, G.e_if, G.e_ifT, G.e_ifF, G.e_nil, G.e_cons, G.e_consR, G.e_consR2, G.e_tup, G.e_tupR, G.e_lst, G.e_lstR, G.e_new, G.e_newR, G.e_args, G.e_argR, G.e_call, G.e_callR, G.o_add, G.o_addB, G.o_sub, G.o_neg, G.o_cmp, G.o_lt, G.o_mod, G.o_mul, G.o_div, G.o_pow, G.o_ixT, G.o_ixL, G.o_lenT, G.o_lenL, G.o_abs, G.o_int1, G.o_intB, G.o_max, G.o_min, G.o_eqS, G.o_neS, G.o_eqI, G.o_neI, G.o_isI, G.o_isB, G.o_isT, G.o_isL, G.o_isN, G.o_isS, G.o_tupL, G.o_tupT, G.o_rev, G.s_seq, G.s_thn, G.s_thnR, G.s_thnB, G.s_thnC, G.s_thnX, G.s_nil, G.s_brk, G.s_cnt, G.s_ret, G.s_retR, G.s_retN, G.s_exp, G.s_expR, G.s_if, G.s_ifT, G.s_ifF, G.s_set, G.s_setR, G.s_par, G.s_parR, G.s_par3, G.s_par3R, G.s_asg, G.s_asgQ, G.s_asg2, G.s_sub, G.s_subR, G.s_subR2, G.s_subR3, G.s_putR, G.s_fin, G.s_finN, G.s_finX, G.f_fn, G.e_seqI, G.e_seqL, G.e_seqT, G.e_rng1, G.e_rng1R, G.e_rng2, G.e_rng2R, G.e_zip, G.e_zipL, G.e_zipT, G.s_for, G.s_forR, G.for_nil, G.for_nx, G.for_ct, G.for_bk, G.for_rt, G.g_N, G.w_F, G.w_T, G.w_nx, G.e_lc, G.e_lcR, G.e_lcR2, List.map_cons, List.map_nil, List.length_cons, List.length_nil, List.replicate, List.cons_append, List.nil_append, List.append_nil, List.getElem?_cons_zero, List.getElem?_cons_succ, List.set_cons_zero, List.set_cons_succ, Nat.reduceAdd, Nat.reduceSub, if_true, if_false, Bool.not_true, Bool.not_false, decide_true, decide_false, Nat.zero_add, require_ok hx (show a ≤ 40000 by omega), require_ok hy (show b ≤ 40000 by omega), multiplied_ok hx hy hk]
theorem over_ok {x y : Rat} {a b : Nat} {st : Sto} (hx : Sm a x) (hy : Sm b y) (hk : a + b ≤ 8999) (h0 : y ≠ 0) : m_over [dq x, dq y] st = .ok (dq (x / y)) st := by
  have e : dEqV (dq y) c_NOUGHT st = .ok (.bl false) st := by
    show dEqV (dq y) (dq 0) st = _
    rw [o_eq (dq_dat _ _) (dq_dat _ _)]
    show Res.ok (D.bl (dEq (dq y) (dq 0))) st = _
    rw [dq_eq, decide_eq_false h0]
  unfold m_over
  simp only [G.e_vr, G.e_vrS, G.e_con, G.e_bin, G.e_binR, G.e_binR2, G.e_un, G.e_unR, G.e_B, G.e_bool, G.e_ch, G.e_chR, G.e_chR2, G.e_chR3t, G.e_chR3f, G.e_tru, G.e_truR, G.e_truB, G.e_truI, G.e_truN, G.e_truL, G.e_truT, G.e_not, G.e_notR, G.e_and, G.e_andT, G.e_andF, G.e_or, G.e_orT, G.e_orF, G.e_andV, G.e_andVT, G.e_andVF, G.e_orV, G.e_orVT, G.e_orVF, G.e_notV, G.e_notVR, G.e_if, G.e_ifT, G.e_ifF, G.e_nil, G.e_cons, G.e_consR, G.e_consR2, G.e_tup, G.e_tupR, G.e_lst, G.e_lstR, G.e_new, G.e_newR, G.e_args, G.e_argR, G.e_call, G.e_callR, G.o_add, G.o_addB, G.o_sub, G.o_neg, G.o_cmp, G.o_lt, G.o_mod, G.o_mul, G.o_div, G.o_pow, G.o_ixT, G.o_ixL, G.o_lenT, G.o_lenL, G.o_abs, G.o_int1, G.o_intB, G.o_max, G.o_min, G.o_eqS, G.o_neS, G.o_eqI, G.o_neI, G.o_isI, G.o_isB, G.o_isT, G.o_isL, G.o_isN, G.o_isS, G.o_tupL, G.o_tupT, G.o_rev, G.s_seq, G.s_thn, G.s_thnR, G.s_thnB, G.s_thnC, G.s_thnX, G.s_nil, G.s_brk, G.s_cnt, G.s_ret, G.s_retR, G.s_retN, G.s_exp, G.s_expR, G.s_if, G.s_ifT, G.s_ifF, G.s_set, G.s_setR, G.s_par, G.s_parR, G.s_par3, G.s_par3R, G.s_asg, G.s_asgQ, G.s_asg2, G.s_sub, G.s_subR, G.s_subR2, G.s_subR3, G.s_putR, G.s_fin, G.s_finN, G.s_finX, G.f_fn, G.e_seqI, G.e_seqL, G.e_seqT, G.e_rng1, G.e_rng1R, G.e_rng2, G.e_rng2R, G.e_zip, G.e_zipL, G.e_zipT, G.s_for, G.s_forR, G.for_nil, G.for_nx, G.for_ct, G.for_bk, G.for_rt, G.g_N, G.w_F, G.w_T, G.w_nx, G.e_lc, G.e_lcR, G.e_lcR2, List.map_cons, List.map_nil, List.length_cons, List.length_nil, List.replicate, List.cons_append, List.nil_append, List.append_nil, List.getElem?_cons_zero, List.getElem?_cons_succ, List.set_cons_zero, List.set_cons_succ, Nat.reduceAdd, Nat.reduceSub, if_true, if_false, Bool.not_true, Bool.not_false, decide_true, decide_false, Nat.zero_add, require_ok hx (show a ≤ 40000 by omega), require_ok hy (show b ≤ 40000 by omega), divided_ok hx hy hk h0, e]
theorem b2i_ite (c : Bool) : (if c = true then (1 : Int) else 0) = b2i c := by cases c <;> rfl
theorem compared_ok {x y : Rat} {a b : Nat} {st : Sto} (hx : Sm a x) (hy : Sm b y) (hk : a + b ≤ 8999) : m_compared [dq x, dq y] st = .ok (.int ((if decide (y.num * x.den < x.num * y.den) = true then 1 else 0) - (if decide (x.num * y.den < y.num * x.den) = true then 1 else 0))) st := by
  have l1 := small_log hx.num
  have l2 := small_log hy.num
  have l3 : (x.den : Int).natAbs.log2 ≤ a := log_le' hx.den
  have l4 : (y.den : Int).natAbs.log2 ≤ b := log_le' hy.den
  unfold m_compared
  simp only [G.e_vr, G.e_vrS, G.e_con, G.e_bin, G.e_binR, G.e_binR2, G.e_un, G.e_unR, G.e_B, G.e_bool, G.e_ch, G.e_chR, G.e_chR2, G.e_chR3t, G.e_chR3f, G.e_tru, G.e_truR, G.e_truB, G.e_truI, G.e_truN, G.e_truL, G.e_truT, G.e_not, G.e_notR, G.e_and, G.e_andT, G.e_andF, G.e_or, G.e_orT, G.e_orF, G.e_andV, G.e_andVT, G.e_andVF, G.e_orV, G.e_orVT, G.e_orVF, G.e_notV, G.e_notVR, G.e_if, G.e_ifT, G.e_ifF, G.e_nil, G.e_cons, G.e_consR, G.e_consR2, G.e_tup, G.e_tupR, G.e_lst, G.e_lstR, G.e_new, G.e_newR, G.e_args, G.e_argR, G.e_call, G.e_callR, G.o_add, G.o_addB, G.o_sub, G.o_neg, G.o_cmp, G.o_lt, G.o_mod, G.o_mul, G.o_div, G.o_pow, G.o_ixT, G.o_ixL, G.o_lenT, G.o_lenL, G.o_abs, G.o_int1, G.o_intB, G.o_max, G.o_min, G.o_eqS, G.o_neS, G.o_eqI, G.o_neI, G.o_isI, G.o_isB, G.o_isT, G.o_isL, G.o_isN, G.o_isS, G.o_tupL, G.o_tupT, G.o_rev, G.s_seq, G.s_thn, G.s_thnR, G.s_thnB, G.s_thnC, G.s_thnX, G.s_nil, G.s_brk, G.s_cnt, G.s_ret, G.s_retR, G.s_retN, G.s_exp, G.s_expR, G.s_if, G.s_ifT, G.s_ifF, G.s_set, G.s_setR, G.s_par, G.s_parR, G.s_par3, G.s_par3R, G.s_asg, G.s_asgQ, G.s_asg2, G.s_sub, G.s_subR, G.s_subR2, G.s_subR3, G.s_putR, G.s_fin, G.s_finN, G.s_finX, G.f_fn, G.e_seqI, G.e_seqL, G.e_seqT, G.e_rng1, G.e_rng1R, G.e_rng2, G.e_rng2R, G.e_zip, G.e_zipL, G.e_zipT, G.s_for, G.s_forR, G.for_nil, G.for_nx, G.for_ct, G.for_bk, G.for_rt, G.g_N, G.w_F, G.w_T, G.w_nx, G.e_lc, G.e_lcR, G.e_lcR2, List.map_cons, List.map_nil, List.length_cons, List.length_nil, List.replicate, List.cons_append, List.nil_append, List.append_nil, List.getElem?_cons_zero, List.getElem?_cons_succ, List.set_cons_zero, List.set_cons_succ, Nat.reduceAdd, Nat.reduceSub, if_true, if_false, Bool.not_true, Bool.not_false, decide_true, decide_false, Nat.zero_add, require_ok hx (show a ≤ 40000 by omega), require_ok hy (show b ≤ 40000 by omega), dq_0, dq_1, o_mul (m := x.num) (n := (y.den : Int)) (by omega), o_mul (m := y.num) (n := (x.den : Int)) (by omega)]
theorem lplus_ok {x y : Rat} {a b : Nat} {st : Sto} (hx : Sm a x) (hy : Sm b y) (hk : a + b ≤ 8999) : m__law_plus [dq x, dq y] st = .ok (dq (x + y)) st := by
  unfold m__law_plus
  have dx := x.den_nz
  have dy := y.den_nz
  have hz : (x.den : Int) * y.den ≠ 0 := Int.mul_ne_zero (by omega) (by omega)
  have l1 := small_log hx.num
  have l2 := small_log hy.num
  have l3 : (x.den : Int).natAbs.log2 ≤ a := log_le' hx.den
  have l4 : (y.den : Int).natAbs.log2 ≤ b := log_le' hy.den
  have hb : ((x.den : Int) * y.den).natAbs < 2 ^ (a + b) := by
    rw [Int.natAbs_mul]
    exact mul_lt hx.den hy.den
  have ht : (x.num * y.den + y.num * x.den).natAbs < 2 ^ (a + b + 1) := by
    have h1 := mul_lt hx.num hy.den
    have h2 := mul_lt hy.num hx.den
    rw [Nat.add_comm b a] at h2
    have pw : 2 ^ (a + b + 1) = 2 * 2 ^ (a + b) := by rw [Nat.pow_succ, Nat.mul_comm]
    have e1 : (x.num * y.den).natAbs = x.num.natAbs * y.den := by rw [Int.natAbs_mul]; rfl
    have e2 : (y.num * x.den).natAbs = y.num.natAbs * x.den := by rw [Int.natAbs_mul]; rfl
    have := Int.natAbs_add_le (x.num * y.den) (y.num * x.den)
    omega
  have red : m__law_fr [.int (x.num * y.den + y.num * x.den), .int ((x.den : Int) * y.den)] st = .ok (dq (x + y)) st := by
    rw [fr_ok hz hb hk ht (by omega), ← add_eq]
  simp only [G.e_vr, G.e_vrS, G.e_con, G.e_bin, G.e_binR, G.e_binR2, G.e_un, G.e_unR, G.e_B, G.e_bool, G.e_ch, G.e_chR, G.e_chR2, G.e_chR3t, G.e_chR3f, G.e_tru, G.e_truR, G.e_truB, G.e_truI, G.e_truN, G.e_truL, G.e_truT, G.e_not, G.e_notR, G.e_and, G.e_andT, G.e_andF, G.e_or, G.e_orT, G.e_orF, G.e_andV, G.e_andVT, G.e_andVF, G.e_orV, G.e_orVT, G.e_orVF, G.e_notV, G.e_notVR, G.e_if, G.e_ifT, G.e_ifF, G.e_nil, G.e_cons, G.e_consR, G.e_consR2, G.e_tup, G.e_tupR, G.e_lst, G.e_lstR, G.e_new, G.e_newR, G.e_args, G.e_argR, G.e_call, G.e_callR, G.o_add, G.o_addB, G.o_sub, G.o_neg, G.o_cmp, G.o_lt, G.o_mod, G.o_mul, G.o_div, G.o_pow, G.o_ixT, G.o_ixL, G.o_lenT, G.o_lenL, G.o_abs, G.o_int1, G.o_intB, G.o_max, G.o_min, G.o_eqS, G.o_neS, G.o_eqI, G.o_neI, G.o_isI, G.o_isB, G.o_isT, G.o_isL, G.o_isN, G.o_isS, G.o_tupL, G.o_tupT, G.o_rev, G.s_seq, G.s_thn, G.s_thnR, G.s_thnB, G.s_thnC, G.s_thnX, G.s_nil, G.s_brk, G.s_cnt, G.s_ret, G.s_retR, G.s_retN, G.s_exp, G.s_expR, G.s_if, G.s_ifT, G.s_ifF, G.s_set, G.s_setR, G.s_par, G.s_parR, G.s_par3, G.s_par3R, G.s_asg, G.s_asgQ, G.s_asg2, G.s_sub, G.s_subR, G.s_subR2, G.s_subR3, G.s_putR, G.s_fin, G.s_finN, G.s_finX, G.f_fn, G.e_seqI, G.e_seqL, G.e_seqT, G.e_rng1, G.e_rng1R, G.e_rng2, G.e_rng2R, G.e_zip, G.e_zipL, G.e_zipT, G.s_for, G.s_forR, G.for_nil, G.for_nx, G.for_ct, G.for_bk, G.for_rt, G.g_N, G.w_F, G.w_T, G.w_nx, G.e_lc, G.e_lcR, G.e_lcR2, List.map_cons, List.map_nil, List.length_cons, List.length_nil, List.replicate, List.cons_append, List.nil_append, List.append_nil, List.getElem?_cons_zero, List.getElem?_cons_succ, List.set_cons_zero, List.set_cons_succ, Nat.reduceAdd, Nat.reduceSub, if_true, if_false, Bool.not_true, Bool.not_false, decide_true, decide_false, Nat.zero_add, dq_0, dq_1, o_mul (m := x.num) (n := (y.den : Int)) (by omega), o_mul (m := y.num) (n := (x.den : Int)) (by omega), o_mul (m := (x.den : Int)) (n := (y.den : Int)) (by omega), red]
theorem lminus_ok {x y : Rat} {a b : Nat} {st : Sto} (hx : Sm a x) (hy : Sm b y) (hk : a + b ≤ 8999) : m__law_minus [dq x, dq y] st = .ok (dq (x - y)) st := by
  unfold m__law_minus
  have dx := x.den_nz
  have dy := y.den_nz
  have hz : (x.den : Int) * y.den ≠ 0 := Int.mul_ne_zero (by omega) (by omega)
  have l1 := small_log hx.num
  have l2 := small_log hy.num
  have l3 : (x.den : Int).natAbs.log2 ≤ a := log_le' hx.den
  have l4 : (y.den : Int).natAbs.log2 ≤ b := log_le' hy.den
  have hb : ((x.den : Int) * y.den).natAbs < 2 ^ (a + b) := by
    rw [Int.natAbs_mul]
    exact mul_lt hx.den hy.den
  have ht : (x.num * y.den - y.num * x.den).natAbs < 2 ^ (a + b + 1) := by
    have h1 := mul_lt hx.num hy.den
    have h2 := mul_lt hy.num hx.den
    rw [Nat.add_comm b a] at h2
    have pw : 2 ^ (a + b + 1) = 2 * 2 ^ (a + b) := by rw [Nat.pow_succ, Nat.mul_comm]
    have e1 : (x.num * y.den).natAbs = x.num.natAbs * y.den := by rw [Int.natAbs_mul]; rfl
    have e2 : (y.num * x.den).natAbs = y.num.natAbs * x.den := by rw [Int.natAbs_mul]; rfl
    have := Int.natAbs_sub_le (x.num * y.den) (y.num * x.den)
    omega
  have red : m__law_fr [.int (x.num * y.den - y.num * x.den), .int ((x.den : Int) * y.den)] st = .ok (dq (x - y)) st := by
    rw [fr_ok hz hb hk ht (by omega), ← sub_eq]
  simp only [G.e_vr, G.e_vrS, G.e_con, G.e_bin, G.e_binR, G.e_binR2, G.e_un, G.e_unR, G.e_B, G.e_bool, G.e_ch, G.e_chR, G.e_chR2, G.e_chR3t, G.e_chR3f, G.e_tru, G.e_truR, G.e_truB, G.e_truI, G.e_truN, G.e_truL, G.e_truT, G.e_not, G.e_notR, G.e_and, G.e_andT, G.e_andF, G.e_or, G.e_orT, G.e_orF, G.e_andV, G.e_andVT, G.e_andVF, G.e_orV, G.e_orVT, G.e_orVF, G.e_notV, G.e_notVR, G.e_if, G.e_ifT, G.e_ifF, G.e_nil, G.e_cons, G.e_consR, G.e_consR2, G.e_tup, G.e_tupR, G.e_lst, G.e_lstR, G.e_new, G.e_newR, G.e_args, G.e_argR, G.e_call, G.e_callR, G.o_add, G.o_addB, G.o_sub, G.o_neg, G.o_cmp, G.o_lt, G.o_mod, G.o_mul, G.o_div, G.o_pow, G.o_ixT, G.o_ixL, G.o_lenT, G.o_lenL, G.o_abs, G.o_int1, G.o_intB, G.o_max, G.o_min, G.o_eqS, G.o_neS, G.o_eqI, G.o_neI, G.o_isI, G.o_isB, G.o_isT, G.o_isL, G.o_isN, G.o_isS, G.o_tupL, G.o_tupT, G.o_rev, G.s_seq, G.s_thn, G.s_thnR, G.s_thnB, G.s_thnC, G.s_thnX, G.s_nil, G.s_brk, G.s_cnt, G.s_ret, G.s_retR, G.s_retN, G.s_exp, G.s_expR, G.s_if, G.s_ifT, G.s_ifF, G.s_set, G.s_setR, G.s_par, G.s_parR, G.s_par3, G.s_par3R, G.s_asg, G.s_asgQ, G.s_asg2, G.s_sub, G.s_subR, G.s_subR2, G.s_subR3, G.s_putR, G.s_fin, G.s_finN, G.s_finX, G.f_fn, G.e_seqI, G.e_seqL, G.e_seqT, G.e_rng1, G.e_rng1R, G.e_rng2, G.e_rng2R, G.e_zip, G.e_zipL, G.e_zipT, G.s_for, G.s_forR, G.for_nil, G.for_nx, G.for_ct, G.for_bk, G.for_rt, G.g_N, G.w_F, G.w_T, G.w_nx, G.e_lc, G.e_lcR, G.e_lcR2, List.map_cons, List.map_nil, List.length_cons, List.length_nil, List.replicate, List.cons_append, List.nil_append, List.append_nil, List.getElem?_cons_zero, List.getElem?_cons_succ, List.set_cons_zero, List.set_cons_succ, Nat.reduceAdd, Nat.reduceSub, if_true, if_false, Bool.not_true, Bool.not_false, decide_true, decide_false, Nat.zero_add, dq_0, dq_1, o_mul (m := x.num) (n := (y.den : Int)) (by omega), o_mul (m := y.num) (n := (x.den : Int)) (by omega), o_mul (m := (x.den : Int)) (n := (y.den : Int)) (by omega), red]
theorem ltimes_ok {x y : Rat} {a b : Nat} {st : Sto} (hx : Sm a x) (hy : Sm b y) (hk : a + b ≤ 8999) : m__law_times [dq x, dq y] st = .ok (dq (x * y)) st := by
  unfold m__law_times
  have dx := x.den_nz
  have dy := y.den_nz
  have hz : (x.den : Int) * y.den ≠ 0 := Int.mul_ne_zero (by omega) (by omega)
  have l1 := small_log hx.num
  have l2 := small_log hy.num
  have l3 : (x.den : Int).natAbs.log2 ≤ a := log_le' hx.den
  have l4 : (y.den : Int).natAbs.log2 ≤ b := log_le' hy.den
  have hb : ((x.den : Int) * y.den).natAbs < 2 ^ (a + b) := by
    rw [Int.natAbs_mul]
    exact mul_lt hx.den hy.den
  have ht : (x.num * y.num).natAbs < 2 ^ (a + b) := by
    rw [Int.natAbs_mul]
    exact mul_lt hx.num hy.num
  have red : m__law_fr [.int (x.num * y.num), .int ((x.den : Int) * y.den)] st = .ok (dq (x * y)) st := by
    rw [fr_ok hz hb hk ht (by omega), ← mul_eq]
  simp only [G.e_vr, G.e_vrS, G.e_con, G.e_bin, G.e_binR, G.e_binR2, G.e_un, G.e_unR, G.e_B, G.e_bool, G.e_ch, G.e_chR, G.e_chR2, G.e_chR3t, G.e_chR3f, G.e_tru, G.e_truR, G.e_truB, G.e_truI, G.e_truN, G.e_truL, G.e_truT, G.e_not, G.e_notR, G.e_and, G.e_andT, G.e_andF, G.e_or, G.e_orT, G.e_orF, G.e_andV, G.e_andVT, G.e_andVF, G.e_orV, G.e_orVT, G.e_orVF, G.e_notV, G.e_notVR, G.e_if, G.e_ifT, G.e_ifF, G.e_nil, G.e_cons, G.e_consR, G.e_consR2, G.e_tup, G.e_tupR, G.e_lst, G.e_lstR, G.e_new, G.e_newR, G.e_args, G.e_argR, G.e_call, G.e_callR, G.o_add, G.o_addB, G.o_sub, G.o_neg, G.o_cmp, G.o_lt, G.o_mod, G.o_mul, G.o_div, G.o_pow, G.o_ixT, G.o_ixL, G.o_lenT, G.o_lenL, G.o_abs, G.o_int1, G.o_intB, G.o_max, G.o_min, G.o_eqS, G.o_neS, G.o_eqI, G.o_neI, G.o_isI, G.o_isB, G.o_isT, G.o_isL, G.o_isN, G.o_isS, G.o_tupL, G.o_tupT, G.o_rev, G.s_seq, G.s_thn, G.s_thnR, G.s_thnB, G.s_thnC, G.s_thnX, G.s_nil, G.s_brk, G.s_cnt, G.s_ret, G.s_retR, G.s_retN, G.s_exp, G.s_expR, G.s_if, G.s_ifT, G.s_ifF, G.s_set, G.s_setR, G.s_par, G.s_parR, G.s_par3, G.s_par3R, G.s_asg, G.s_asgQ, G.s_asg2, G.s_sub, G.s_subR, G.s_subR2, G.s_subR3, G.s_putR, G.s_fin, G.s_finN, G.s_finX, G.f_fn, G.e_seqI, G.e_seqL, G.e_seqT, G.e_rng1, G.e_rng1R, G.e_rng2, G.e_rng2R, G.e_zip, G.e_zipL, G.e_zipT, G.s_for, G.s_forR, G.for_nil, G.for_nx, G.for_ct, G.for_bk, G.for_rt, G.g_N, G.w_F, G.w_T, G.w_nx, G.e_lc, G.e_lcR, G.e_lcR2, List.map_cons, List.map_nil, List.length_cons, List.length_nil, List.replicate, List.cons_append, List.nil_append, List.append_nil, List.getElem?_cons_zero, List.getElem?_cons_succ, List.set_cons_zero, List.set_cons_succ, Nat.reduceAdd, Nat.reduceSub, if_true, if_false, Bool.not_true, Bool.not_false, decide_true, decide_false, Nat.zero_add, dq_0, dq_1, o_mul (m := x.num) (n := y.num) (by omega), o_mul (m := (x.den : Int)) (n := (y.den : Int)) (by omega), red]
end Kx

set_option Elab.async false
set_option linter.all false
set_option maxRecDepth 100000
set_option maxHeartbeats 4000000
namespace Kx
open PySem PySem.Spec PyProof.Rows L2 G
theorem lroll_ok {n N : Nat} {st : Sto} {many : Int} (hd : Dice n N st) (hN : N < 1000000) (h0 : 0 < many) (h1 : many.natAbs.log2 ≤ 8999) :
    ∃ (r : Int) (st' : Sto), m__law_roll [.ref n, .int many] st = .ok (.int r) st' ∧ 0 ≤ r ∧ r < many ∧ Rolled n (N + 1) st st' := roll_ok hd hN h0 h1
theorem lpick_ok {n N : Nat} {st : Sto} {xs : List D} (hd : Dice n N st) (hN : N < 1000000) (h0 : 0 < xs.length) (h1 : xs.length ≤ 100) :
    ∃ (d : D) (st' : Sto), m__law_pick [.ref n, .lst xs] st = .ok d st' ∧ d ∈ xs ∧ Rolled n (N + 1) st st' := by
  have hl := small_log (m := (xs.length : Int)) (k := 10) (by omega)
  obtain ⟨r, st1, e, r0, r1, hr⟩ := lroll_ok (many := (xs.length : Int)) hd hN (by omega) (by omega)
  obtain ⟨d, e2, hm⟩ := atI_nat r0 r1
  refine ⟨d, st1, ?_, hm, hr⟩
  unfold m__law_pick
  simp only [G.e_vr, G.e_vrS, G.e_con, G.e_bin, G.e_binR, G.e_binR2, G.e_un, G.e_unR, G.e_B, G.e_bool, G.e_ch, G.e_chR, G.e_chR2, G.e_chR3t, G.e_chR3f, G.e_tru, G.e_truR, G.e_truB, G.e_truI, G.e_truN, G.e_truL, G.e_truT, G.e_not, G.e_notR, G.e_and, G.e_andT, G.e_andF, G.e_or, G.e_orT, G.e_orF, G.e_andV, G.e_andVT, G.e_andVF, G.e_orV, G.e_orVT, G.e_orVF, G.e_notV, G.e_notVR, G.e_if, G.e_ifT, G.e_ifF, G.e_nil, G.e_cons, G.e_consR, G.e_consR2, G.e_tup, G.e_tupR, G.e_lst, G.e_lstR, G.e_new, G.e_newR, G.e_args, G.e_argR, G.e_call, G.e_callR, G.o_add, G.o_addB, G.o_sub, G.o_neg, G.o_cmp, G.o_lt, G.o_mod, G.o_mul, G.o_div, G.o_pow, G.o_ixT, G.o_ixL, G.o_lenT, G.o_lenL, G.o_abs, G.o_int1, G.o_intB, G.o_max, G.o_min, G.o_eqS, G.o_neS, G.o_eqI, G.o_neI, G.o_isI, G.o_isB, G.o_isT, G.o_isL, G.o_isN, G.o_isS, G.o_tupL, G.o_tupT, G.o_rev, G.s_seq, G.s_thn, G.s_thnR, G.s_thnB, G.s_thnC, G.s_thnX, G.s_nil, G.s_brk, G.s_cnt, G.s_ret, G.s_retR, G.s_retN, G.s_exp, G.s_expR, G.s_if, G.s_ifT, G.s_ifF, G.s_set, G.s_setR, G.s_par, G.s_parR, G.s_par3, G.s_par3R, G.s_asg, G.s_asgQ, G.s_asg2, G.s_sub, G.s_subR, G.s_subR2, G.s_subR3, G.s_putR, G.s_fin, G.s_finN, G.s_finX, G.f_fn, G.e_seqI, G.e_seqL, G.e_seqT, G.e_rng1, G.e_rng1R, G.e_rng2, G.e_rng2R, G.e_zip, G.e_zipL, G.e_zipT, G.s_for, G.s_forR, G.for_nil, G.for_nx, G.for_ct, G.for_bk, G.for_rt, G.g_N, G.w_F, G.w_T, G.w_nx, G.e_lc, G.e_lcR, G.e_lcR2, List.map_cons, List.map_nil, List.length_cons, List.length_nil, List.replicate, List.cons_append, List.nil_append, List.append_nil, List.getElem?_cons_zero, List.getElem?_cons_succ, List.set_cons_zero, List.set_cons_succ, Nat.reduceAdd, Nat.reduceSub, if_true, if_false, Bool.not_true, Bool.not_false, decide_true, decide_false, Nat.zero_add, e, o_ixL e2]
theorem linteger_ok {n N : Nat} {st : Sto} (hd : Dice n N st) (hN : N < 900000) :
    ∃ (i : Int) (st' : Sto), m__law_integer [.ref n] st = .ok (.int i) st' ∧ i ≠ 0 ∧ i.natAbs ≤ 10 ^ 19 ∧ Rolled n (N + 3) st st' := by
  obtain ⟨d, st1, e1, hm, h1⟩ := lpick_ok (xs := [.int 10, .int 10, .int 10, .int 100, .int (10 ^ (6 : Int).toNat), .int (10 ^ (19 : Int).toNat)]) hd (by omega) (by decide) (by decide)
  obtain ⟨b, rfl, b0, b1⟩ : ∃ b : Int, d = .int b ∧ 0 < b ∧ b ≤ 10 ^ 19 := by
    simp only [List.mem_cons, List.not_mem_nil, or_false] at hm
    rcases hm with rfl | rfl | rfl | rfl | rfl | rfl <;> exact ⟨_, rfl, by decide, by decide⟩
  obtain ⟨r, st2, e2, r0, r1, h2⟩ := lroll_ok (many := b) h1.dice (by omega) b0 (by have := small_log (m := b) (k := 70) (by omega); omega)
  obtain ⟨d, st3, e3, hm, h3⟩ := lpick_ok (xs := [.int 1, .int (-1)]) h2.dice (by omega) (by decide) (by decide)
  have fin : ∀ s : Int, m__law_pick [.ref n, .lst [.int 1, .int (-1)]] st2 = .ok (.int s) st3 → s.natAbs.log2 ≤ 1 → m__law_integer [.ref n] st = .ok (.int ((1 + r) * s)) st3 := by
    intro s e3 hs
    have hg : (1 + r).natAbs.log2 + s.natAbs.log2 ≤ 999998 := by
      have := small_log (m := 1 + r) (k := 70) (by omega)
      omega
    unfold m__law_integer
    simp only [G.e_vr, G.e_vrS, G.e_con, G.e_bin, G.e_binR, G.e_binR2, G.e_un, G.e_unR, G.e_B, G.e_bool, G.e_ch, G.e_chR, G.e_chR2, G.e_chR3t, G.e_chR3f, G.e_tru, G.e_truR, G.e_truB, G.e_truI, G.e_truN, G.e_truL, G.e_truT, G.e_not, G.e_notR, G.e_and, G.e_andT, G.e_andF, G.e_or, G.e_orT, G.e_orF, G.e_andV, G.e_andVT, G.e_andVF, G.e_orV, G.e_orVT, G.e_orVF, G.e_notV, G.e_notVR, G.e_if, G.e_ifT, G.e_ifF, G.e_nil, G.e_cons, G.e_consR, G.e_consR2, G.e_tup, G.e_tupR, G.e_lst, G.e_lstR, G.e_new, G.e_newR, G.e_args, G.e_argR, G.e_call, G.e_callR, G.o_add, G.o_addB, G.o_sub, G.o_neg, G.o_cmp, G.o_lt, G.o_mod, G.o_mul, G.o_div, G.o_pow, G.o_ixT, G.o_ixL, G.o_lenT, G.o_lenL, G.o_abs, G.o_int1, G.o_intB, G.o_max, G.o_min, G.o_eqS, G.o_neS, G.o_eqI, G.o_neI, G.o_isI, G.o_isB, G.o_isT, G.o_isL, G.o_isN, G.o_isS, G.o_tupL, G.o_tupT, G.o_rev, G.s_seq, G.s_thn, G.s_thnR, G.s_thnB, G.s_thnC, G.s_thnX, G.s_nil, G.s_brk, G.s_cnt, G.s_ret, G.s_retR, G.s_retN, G.s_exp, G.s_expR, G.s_if, G.s_ifT, G.s_ifF, G.s_set, G.s_setR, G.s_par, G.s_parR, G.s_par3, G.s_par3R, G.s_asg, G.s_asgQ, G.s_asg2, G.s_sub, G.s_subR, G.s_subR2, G.s_subR3, G.s_putR, G.s_fin, G.s_finN, G.s_finX, G.f_fn, G.e_seqI, G.e_seqL, G.e_seqT, G.e_rng1, G.e_rng1R, G.e_rng2, G.e_rng2R, G.e_zip, G.e_zipL, G.e_zipT, G.s_for, G.s_forR, G.for_nil, G.for_nx, G.for_ct, G.for_bk, G.for_rt, G.g_N, G.w_F, G.w_T, G.w_nx, G.e_lc, G.e_lcR, G.e_lcR2, List.map_cons, List.map_nil, List.length_cons, List.length_nil, List.replicate, List.cons_append, List.nil_append, List.append_nil, List.getElem?_cons_zero, List.getElem?_cons_succ, List.set_cons_zero, List.set_cons_succ, Nat.reduceAdd, Nat.reduceSub, if_true, if_false, Bool.not_true, Bool.not_false, decide_true, decide_false, Nat.zero_add, o_pow (m := 10) (n := 6) (by decide), o_pow (m := 10) (n := 19) (by decide), e1, e2, e3, o_mul hg, show big 6 = true from rfl, show big 2 = true from rfl]
  have ro : Rolled n (N + 3) st st3 := h1.trans (h2.trans h3)
  simp only [List.mem_cons, List.not_mem_nil, or_false] at hm
  rcases hm with rfl | rfl
  · exact ⟨(1 + r) * 1, st3, fin 1 e3 (by decide), by omega, by omega, ro⟩
  · exact ⟨(1 + r) * -1, st3, fin (-1) e3 (by decide), by omega, by omega, ro⟩
theorem ldrawn_ok {n N : Nat} {st : Sto} (hd : Dice n N st) (hN : N < 800000) :
    ∃ (q : Rat) (st' : Sto), m__law_drawn [.ref n] st = .ok (dq q) st' ∧ Sm 64 q ∧ Rolled n (N + 7) st st' := by
  obtain ⟨r, st1, e1, r0, r1, h1⟩ := lroll_ok (many := 6) hd (by omega) (by decide) (by decide)
  by_cases hz : r = 0
  · refine ⟨0, st1, ?_, ⟨by decide, by decide⟩, h1.mono (by omega)⟩
    unfold m__law_drawn
    rw [dq_zero]
    simp only [G.e_vr, G.e_vrS, G.e_con, G.e_bin, G.e_binR, G.e_binR2, G.e_un, G.e_unR, G.e_B, G.e_bool, G.e_ch, G.e_chR, G.e_chR2, G.e_chR3t, G.e_chR3f, G.e_tru, G.e_truR, G.e_truB, G.e_truI, G.e_truN, G.e_truL, G.e_truT, G.e_not, G.e_notR, G.e_and, G.e_andT, G.e_andF, G.e_or, G.e_orT, G.e_orF, G.e_andV, G.e_andVT, G.e_andVF, G.e_orV, G.e_orVT, G.e_orVF, G.e_notV, G.e_notVR, G.e_if, G.e_ifT, G.e_ifF, G.e_nil, G.e_cons, G.e_consR, G.e_consR2, G.e_tup, G.e_tupR, G.e_lst, G.e_lstR, G.e_new, G.e_newR, G.e_args, G.e_argR, G.e_call, G.e_callR, G.o_add, G.o_addB, G.o_sub, G.o_neg, G.o_cmp, G.o_lt, G.o_mod, G.o_mul, G.o_div, G.o_pow, G.o_ixT, G.o_ixL, G.o_lenT, G.o_lenL, G.o_abs, G.o_int1, G.o_intB, G.o_max, G.o_min, G.o_eqS, G.o_neS, G.o_eqI, G.o_neI, G.o_isI, G.o_isB, G.o_isT, G.o_isL, G.o_isN, G.o_isS, G.o_tupL, G.o_tupT, G.o_rev, G.s_seq, G.s_thn, G.s_thnR, G.s_thnB, G.s_thnC, G.s_thnX, G.s_nil, G.s_brk, G.s_cnt, G.s_ret, G.s_retR, G.s_retN, G.s_exp, G.s_expR, G.s_if, G.s_ifT, G.s_ifF, G.s_set, G.s_setR, G.s_par, G.s_parR, G.s_par3, G.s_par3R, G.s_asg, G.s_asgQ, G.s_asg2, G.s_sub, G.s_subR, G.s_subR2, G.s_subR3, G.s_putR, G.s_fin, G.s_finN, G.s_finX, G.f_fn, G.e_seqI, G.e_seqL, G.e_seqT, G.e_rng1, G.e_rng1R, G.e_rng2, G.e_rng2R, G.e_zip, G.e_zipL, G.e_zipT, G.s_for, G.s_forR, G.for_nil, G.for_nx, G.for_ct, G.for_bk, G.for_rt, G.g_N, G.w_F, G.w_T, G.w_nx, G.e_lc, G.e_lcR, G.e_lcR2, List.map_cons, List.map_nil, List.length_cons, List.length_nil, List.replicate, List.cons_append, List.nil_append, List.append_nil, List.getElem?_cons_zero, List.getElem?_cons_succ, List.set_cons_zero, List.set_cons_succ, Nat.reduceAdd, Nat.reduceSub, if_true, if_false, Bool.not_true, Bool.not_false, decide_true, decide_false, Nat.zero_add, e1, hz, show ((0 : Int) == 0) = true from rfl, show big 2 = true from rfl]
  · obtain ⟨i, st2, e2, i0, i1, h2⟩ := linteger_ok h1.dice (by omega)
    obtain ⟨j, st3, e3, j0, j1, h3⟩ := linteger_ok h2.dice (by omega)
    have hz' : (r == 0) = false := beq_eq_false_iff_ne.2 hz
    have jb : ((j.natAbs : Nat) : Int).natAbs < 2 ^ 64 := by
      rw [Int.natAbs_natCast]
      omega
    have ib : i.natAbs < 2 ^ 64 := by omega
    have j0' : ((j.natAbs : Nat) : Int) ≠ 0 := by omega
    refine ⟨Rat.divInt i j.natAbs, st3, ?_, ?_, (h1.trans (h2.trans h3)).mono (by omega)⟩
    · unfold m__law_drawn
      simp only [G.e_vr, G.e_vrS, G.e_con, G.e_bin, G.e_binR, G.e_binR2, G.e_un, G.e_unR, G.e_B, G.e_bool, G.e_ch, G.e_chR, G.e_chR2, G.e_chR3t, G.e_chR3f, G.e_tru, G.e_truR, G.e_truB, G.e_truI, G.e_truN, G.e_truL, G.e_truT, G.e_not, G.e_notR, G.e_and, G.e_andT, G.e_andF, G.e_or, G.e_orT, G.e_orF, G.e_andV, G.e_andVT, G.e_andVF, G.e_orV, G.e_orVT, G.e_orVF, G.e_notV, G.e_notVR, G.e_if, G.e_ifT, G.e_ifF, G.e_nil, G.e_cons, G.e_consR, G.e_consR2, G.e_tup, G.e_tupR, G.e_lst, G.e_lstR, G.e_new, G.e_newR, G.e_args, G.e_argR, G.e_call, G.e_callR, G.o_add, G.o_addB, G.o_sub, G.o_neg, G.o_cmp, G.o_lt, G.o_mod, G.o_mul, G.o_div, G.o_pow, G.o_ixT, G.o_ixL, G.o_lenT, G.o_lenL, G.o_abs, G.o_int1, G.o_intB, G.o_max, G.o_min, G.o_eqS, G.o_neS, G.o_eqI, G.o_neI, G.o_isI, G.o_isB, G.o_isT, G.o_isL, G.o_isN, G.o_isS, G.o_tupL, G.o_tupT, G.o_rev, G.s_seq, G.s_thn, G.s_thnR, G.s_thnB, G.s_thnC, G.s_thnX, G.s_nil, G.s_brk, G.s_cnt, G.s_ret, G.s_retR, G.s_retN, G.s_exp, G.s_expR, G.s_if, G.s_ifT, G.s_ifF, G.s_set, G.s_setR, G.s_par, G.s_parR, G.s_par3, G.s_par3R, G.s_asg, G.s_asgQ, G.s_asg2, G.s_sub, G.s_subR, G.s_subR2, G.s_subR3, G.s_putR, G.s_fin, G.s_finN, G.s_finX, G.f_fn, G.e_seqI, G.e_seqL, G.e_seqT, G.e_rng1, G.e_rng1R, G.e_rng2, G.e_rng2R, G.e_zip, G.e_zipL, G.e_zipT, G.s_for, G.s_forR, G.for_nil, G.for_nx, G.for_ct, G.for_bk, G.for_rt, G.g_N, G.w_F, G.w_T, G.w_nx, G.e_lc, G.e_lcR, G.e_lcR2, List.map_cons, List.map_nil, List.length_cons, List.length_nil, List.replicate, List.cons_append, List.nil_append, List.append_nil, List.getElem?_cons_zero, List.getElem?_cons_succ, List.set_cons_zero, List.set_cons_succ, Nat.reduceAdd, Nat.reduceSub, if_true, if_false, Bool.not_true, Bool.not_false, decide_true, decide_false, Nat.zero_add, e1, hz', e2, e3, fr_ok (t := i) j0' jb (by decide) ib (by decide)]
    · have := Sm.divI ib jb j0'
      exact ⟨this.1, this.2⟩
/-- rows of numbers summed -/
theorem fold_loop {i a l : Nat} {f : Fn} (hia : i ≠ a) (hf : ∀ (x y : Rat) (a b : Nat) (st : Sto), Sm a x → Sm b y → a + b ≤ 8999 → f [dq x, dq y] st = .ok (dq (x + y)) st) (hl : l ≤ 64) :
    ∀ (qs : List Rat) (ρ : G.Env) (st : Sto), (∀ q ∈ qs, Sm l q) → qs.length ≤ 20 → ρ[a]? = some (some (dq 0)) → (ρ[i]?).isSome = true →
      forD (gN i) (sSet a (cCall f [] (cCons (cVar a) (cCons (cVar i) cNil)))) (qs.map dq) ρ st = .ok (.nx ((ρ.set i (lastO (joinO ρ[i]?) (qs.map dq))).set a (some (dq (qs.foldl (· + ·) 0))))) st := by
  intro qs ρ st hq hn ha hi
  refine acc_loop hia dq dq (· + ·) (fun acc xs => (∃ k, Sm k acc ∧ k + 100 * xs.length ≤ 5000) ∧ ∀ x ∈ xs, Sm l x) ρ (fun acc x xs ρ1 hP h1 h2 _ => ?_) qs 0 ρ ⟨⟨1, ⟨by decide, by decide⟩, by omega⟩, hq⟩ ha (fun _ _ _ => rfl) hi
  obtain ⟨⟨k, hk, hs⟩, hx⟩ := hP
  rw [List.length_cons] at hs
  refine ⟨?_, ⟨k + l + 1, hk.add (hx x (.head _)), by omega⟩, fun y hy => hx y (.tail _ hy)⟩
  simp only [G.e_vr, G.e_vrS, G.e_con, G.e_bin, G.e_binR, G.e_binR2, G.e_un, G.e_unR, G.e_B, G.e_bool, G.e_ch, G.e_chR, G.e_chR2, G.e_chR3t, G.e_chR3f, G.e_tru, G.e_truR, G.e_truB, G.e_truI, G.e_truN, G.e_truL, G.e_truT, G.e_not, G.e_notR, G.e_and, G.e_andT, G.e_andF, G.e_or, G.e_orT, G.e_orF, G.e_andV, G.e_andVT, G.e_andVF, G.e_orV, G.e_orVT, G.e_orVF, G.e_notV, G.e_notVR, G.e_if, G.e_ifT, G.e_ifF, G.e_nil, G.e_cons, G.e_consR, G.e_consR2, G.e_tup, G.e_tupR, G.e_lst, G.e_lstR, G.e_new, G.e_newR, G.e_args, G.e_argR, G.e_call, G.e_callR, G.o_add, G.o_addB, G.o_sub, G.o_neg, G.o_cmp, G.o_lt, G.o_mod, G.o_mul, G.o_div, G.o_pow, G.o_ixT, G.o_ixL, G.o_lenT, G.o_lenL, G.o_abs, G.o_int1, G.o_intB, G.o_max, G.o_min, G.o_eqS, G.o_neS, G.o_eqI, G.o_neI, G.o_isI, G.o_isB, G.o_isT, G.o_isL, G.o_isN, G.o_isS, G.o_tupL, G.o_tupT, G.o_rev, G.s_seq, G.s_thn, G.s_thnR, G.s_thnB, G.s_thnC, G.s_thnX, G.s_nil, G.s_brk, G.s_cnt, G.s_ret, G.s_retR, G.s_retN, G.s_exp, G.s_expR, G.s_if, G.s_ifT, G.s_ifF, G.s_set, G.s_setR, G.s_par, G.s_parR, G.s_par3, G.s_par3R, G.s_asg, G.s_asgQ, G.s_asg2, G.s_sub, G.s_subR, G.s_subR2, G.s_subR3, G.s_putR, G.s_fin, G.s_finN, G.s_finX, G.f_fn, G.e_seqI, G.e_seqL, G.e_seqT, G.e_rng1, G.e_rng1R, G.e_rng2, G.e_rng2R, G.e_zip, G.e_zipL, G.e_zipT, G.s_for, G.s_forR, G.for_nil, G.for_nx, G.for_ct, G.for_bk, G.for_rt, G.g_N, G.w_F, G.w_T, G.w_nx, G.e_lc, G.e_lcR, G.e_lcR2, List.map_cons, List.map_nil, List.length_cons, List.length_nil, List.replicate, List.cons_append, List.nil_append, List.append_nil, List.getElem?_cons_zero, List.getElem?_cons_succ, List.set_cons_zero, List.set_cons_succ, Nat.reduceAdd, Nat.reduceSub, if_true, if_false, Bool.not_true, Bool.not_false, decide_true, decide_false, Nat.zero_add, h1, h2, hf acc x k l st hk (hx x (.head _)) (by omega)]
theorem sum_ok {l : Nat} {qs : List Rat} {st : Sto} (hl : l ≤ 64) (hq : ∀ q ∈ qs, Sm l q) (hn : qs.length ≤ 20) : m_sum_of [.tup (qs.map dq)] st = .ok (dq (qs.foldl (· + ·) 0)) st := by
  have e := fold_loop (i := 2) (a := 1) (f := m_added) (by decide) (fun x y a b st hx hy hk => added_ok hx hy hk) hl qs [some (.tup (qs.map dq)), some (dq 0), none] st hq hn rfl rfl
  unfold m_sum_of
  simp only [G.e_vr, G.e_vrS, G.e_con, G.e_bin, G.e_binR, G.e_binR2, G.e_un, G.e_unR, G.e_B, G.e_bool, G.e_ch, G.e_chR, G.e_chR2, G.e_chR3t, G.e_chR3f, G.e_tru, G.e_truR, G.e_truB, G.e_truI, G.e_truN, G.e_truL, G.e_truT, G.e_not, G.e_notR, G.e_and, G.e_andT, G.e_andF, G.e_or, G.e_orT, G.e_orF, G.e_andV, G.e_andVT, G.e_andVF, G.e_orV, G.e_orVT, G.e_orVF, G.e_notV, G.e_notVR, G.e_if, G.e_ifT, G.e_ifF, G.e_nil, G.e_cons, G.e_consR, G.e_consR2, G.e_tup, G.e_tupR, G.e_lst, G.e_lstR, G.e_new, G.e_newR, G.e_args, G.e_argR, G.e_call, G.e_callR, G.o_add, G.o_addB, G.o_sub, G.o_neg, G.o_cmp, G.o_lt, G.o_mod, G.o_mul, G.o_div, G.o_pow, G.o_ixT, G.o_ixL, G.o_lenT, G.o_lenL, G.o_abs, G.o_int1, G.o_intB, G.o_max, G.o_min, G.o_eqS, G.o_neS, G.o_eqI, G.o_neI, G.o_isI, G.o_isB, G.o_isT, G.o_isL, G.o_isN, G.o_isS, G.o_tupL, G.o_tupT, G.o_rev, G.s_seq, G.s_thn, G.s_thnR, G.s_thnB, G.s_thnC, G.s_thnX, G.s_nil, G.s_brk, G.s_cnt, G.s_ret, G.s_retR, G.s_retN, G.s_exp, G.s_expR, G.s_if, G.s_ifT, G.s_ifF, G.s_set, G.s_setR, G.s_par, G.s_parR, G.s_par3, G.s_par3R, G.s_asg, G.s_asgQ, G.s_asg2, G.s_sub, G.s_subR, G.s_subR2, G.s_subR3, G.s_putR, G.s_fin, G.s_finN, G.s_finX, G.f_fn, G.e_seqI, G.e_seqL, G.e_seqT, G.e_rng1, G.e_rng1R, G.e_rng2, G.e_rng2R, G.e_zip, G.e_zipL, G.e_zipT, G.s_for, G.s_forR, G.for_nil, G.for_nx, G.for_ct, G.for_bk, G.for_rt, G.g_N, G.w_F, G.w_T, G.w_nx, G.e_lc, G.e_lcR, G.e_lcR2, List.map_cons, List.map_nil, List.length_cons, List.length_nil, List.replicate, List.cons_append, List.nil_append, List.append_nil, List.getElem?_cons_zero, List.getElem?_cons_succ, List.set_cons_zero, List.set_cons_succ, Nat.reduceAdd, Nat.reduceSub, if_true, if_false, Bool.not_true, Bool.not_false, decide_true, decide_false, Nat.zero_add, show c_NOUGHT = dq 0 from rfl, e]
theorem total_ok {l : Nat} {qs : List Rat} {st : Sto} (hl : l ≤ 64) (hq : ∀ q ∈ qs, Sm l q) (hn : qs.length ≤ 20) : m_total [.tup (qs.map dq)] st = .ok (dq (qs.foldl (· + ·) 0)) st := by
  have e : lcD (gN 1) tYesD (cCall m_is_number [] (cCons (cVar 1) cNil)) (wipeD [some (D.tup (qs.map dq)), none] [1]) (qs.map dq) [] st = .ok ([] ++ (qs.map dq).map fun _ => D.bl true) st := by
    refine lc_map _ _ _ (fun x hx => ?_) (by rw [List.length_map, List.length_nil]; omega)
    obtain ⟨q, hm, rfl⟩ := List.mem_map.1 hx
    refine ⟨_, rfl, ?_⟩
    simp only [wipeD, G.e_vr, G.e_vrS, G.e_con, G.e_bin, G.e_binR, G.e_binR2, G.e_un, G.e_unR, G.e_B, G.e_bool, G.e_ch, G.e_chR, G.e_chR2, G.e_chR3t, G.e_chR3f, G.e_tru, G.e_truR, G.e_truB, G.e_truI, G.e_truN, G.e_truL, G.e_truT, G.e_not, G.e_notR, G.e_and, G.e_andT, G.e_andF, G.e_or, G.e_orT, G.e_orF, G.e_andV, G.e_andVT, G.e_andVF, G.e_orV, G.e_orVT, G.e_orVF, G.e_notV, G.e_notVR, G.e_if, G.e_ifT, G.e_ifF, G.e_nil, G.e_cons, G.e_consR, G.e_consR2, G.e_tup, G.e_tupR, G.e_lst, G.e_lstR, G.e_new, G.e_newR, G.e_args, G.e_argR, G.e_call, G.e_callR, G.o_add, G.o_addB, G.o_sub, G.o_neg, G.o_cmp, G.o_lt, G.o_mod, G.o_mul, G.o_div, G.o_pow, G.o_ixT, G.o_ixL, G.o_lenT, G.o_lenL, G.o_abs, G.o_int1, G.o_intB, G.o_max, G.o_min, G.o_eqS, G.o_neS, G.o_eqI, G.o_neI, G.o_isI, G.o_isB, G.o_isT, G.o_isL, G.o_isN, G.o_isS, G.o_tupL, G.o_tupT, G.o_rev, G.s_seq, G.s_thn, G.s_thnR, G.s_thnB, G.s_thnC, G.s_thnX, G.s_nil, G.s_brk, G.s_cnt, G.s_ret, G.s_retR, G.s_retN, G.s_exp, G.s_expR, G.s_if, G.s_ifT, G.s_ifF, G.s_set, G.s_setR, G.s_par, G.s_parR, G.s_par3, G.s_par3R, G.s_asg, G.s_asgQ, G.s_asg2, G.s_sub, G.s_subR, G.s_subR2, G.s_subR3, G.s_putR, G.s_fin, G.s_finN, G.s_finX, G.f_fn, G.e_seqI, G.e_seqL, G.e_seqT, G.e_rng1, G.e_rng1R, G.e_rng2, G.e_rng2R, G.e_zip, G.e_zipL, G.e_zipT, G.s_for, G.s_forR, G.for_nil, G.for_nx, G.for_ct, G.for_bk, G.for_rt, G.g_N, G.w_F, G.w_T, G.w_nx, G.e_lc, G.e_lcR, G.e_lcR2, List.map_cons, List.map_nil, List.length_cons, List.length_nil, List.replicate, List.cons_append, List.nil_append, List.append_nil, List.getElem?_cons_zero, List.getElem?_cons_succ, List.set_cons_zero, List.set_cons_succ, Nat.reduceAdd, Nat.reduceSub, if_true, if_false, Bool.not_true, Bool.not_false, decide_true, decide_false, Nat.zero_add, is_number_ok (hq q hm) (show l ≤ 40000 by omega)]
  unfold m_total
  simp only [G.e_vr, G.e_vrS, G.e_con, G.e_bin, G.e_binR, G.e_binR2, G.e_un, G.e_unR, G.e_B, G.e_bool, G.e_ch, G.e_chR, G.e_chR2, G.e_chR3t, G.e_chR3f, G.e_tru, G.e_truR, G.e_truB, G.e_truI, G.e_truN, G.e_truL, G.e_truT, G.e_not, G.e_notR, G.e_and, G.e_andT, G.e_andF, G.e_or, G.e_orT, G.e_orF, G.e_andV, G.e_andVT, G.e_andVF, G.e_orV, G.e_orVT, G.e_orVF, G.e_notV, G.e_notVR, G.e_if, G.e_ifT, G.e_ifF, G.e_nil, G.e_cons, G.e_consR, G.e_consR2, G.e_tup, G.e_tupR, G.e_lst, G.e_lstR, G.e_new, G.e_newR, G.e_args, G.e_argR, G.e_call, G.e_callR, G.o_add, G.o_addB, G.o_sub, G.o_neg, G.o_cmp, G.o_lt, G.o_mod, G.o_mul, G.o_div, G.o_pow, G.o_ixT, G.o_ixL, G.o_lenT, G.o_lenL, G.o_abs, G.o_int1, G.o_intB, G.o_max, G.o_min, G.o_eqS, G.o_neS, G.o_eqI, G.o_neI, G.o_isI, G.o_isB, G.o_isT, G.o_isL, G.o_isN, G.o_isS, G.o_tupL, G.o_tupT, G.o_rev, G.s_seq, G.s_thn, G.s_thnR, G.s_thnB, G.s_thnC, G.s_thnX, G.s_nil, G.s_brk, G.s_cnt, G.s_ret, G.s_retR, G.s_retN, G.s_exp, G.s_expR, G.s_if, G.s_ifT, G.s_ifF, G.s_set, G.s_setR, G.s_par, G.s_parR, G.s_par3, G.s_par3R, G.s_asg, G.s_asgQ, G.s_asg2, G.s_sub, G.s_subR, G.s_subR2, G.s_subR3, G.s_putR, G.s_fin, G.s_finN, G.s_finX, G.f_fn, G.e_seqI, G.e_seqL, G.e_seqT, G.e_rng1, G.e_rng1R, G.e_rng2, G.e_rng2R, G.e_zip, G.e_zipL, G.e_zipT, G.s_for, G.s_forR, G.for_nil, G.for_nx, G.for_ct, G.for_bk, G.for_rt, G.g_N, G.w_F, G.w_T, G.w_nx, G.e_lc, G.e_lcR, G.e_lcR2, List.map_cons, List.map_nil, List.length_cons, List.length_nil, List.replicate, List.cons_append, List.nil_append, List.append_nil, List.getElem?_cons_zero, List.getElem?_cons_succ, List.set_cons_zero, List.set_cons_succ, Nat.reduceAdd, Nat.reduceSub, if_true, if_false, Bool.not_true, Bool.not_false, decide_true, decide_false, Nat.zero_add, e, all_true, sum_ok hl hq hn, show isT .tuple .tuple = true from rfl]
/-- so many times times a number -/
def pw (x : Rat) (n : Nat) : Rat := (List.range n).foldl (fun u _ => u * x) 1
theorem pow_loop {i a v l : Nat} {f : Fn} {x : Rat} (hia : i ≠ a) (hva : v ≠ a) (hvi : v ≠ i) (hf : ∀ (x y : Rat) (a b : Nat) (st : Sto), Sm a x → Sm b y → a + b ≤ 8999 → f [dq x, dq y] st = .ok (dq (x * y)) st) (hx : Sm l x) (hl : l ≤ 64) :
    ∀ (n : Nat) (ρ : G.Env) (st : Sto), n ≤ 60 → ρ[a]? = some (some (dq 1)) → ρ[v]? = some (some (dq x)) → (ρ[i]?).isSome = true →
      forD (gN i) (sSet a (cCall f [] (cCons (cVar a) (cCons (cVar v) cNil)))) (rng 0 n) ρ st = .ok (.nx ((ρ.set i (lastO (joinO ρ[i]?) (rng 0 n))).set a (some (dq (pw x n))))) st := by
  intro n ρ st hn ha hv hi
  refine acc_loop (α := Nat) (β := Rat) hia (fun i => .int (0 + (i : Nat))) dq (fun u _ => u * x) (fun acc xs => ∃ k, Sm k acc ∧ k + 64 * xs.length ≤ 5000) ρ (fun acc y xs ρ1 hP h1 h2 h3 => ?_) (List.range n) 1 ρ ⟨1, ⟨by decide, by decide⟩, by rw [List.length_range]; omega⟩ ha (fun _ _ _ => rfl) hi
  obtain ⟨k, hk, hs⟩ := hP
  rw [List.length_cons] at hs
  refine ⟨?_, ⟨k + l, hk.mul hx, by omega⟩⟩
  have hv1 : ρ1[v]? = some (some (dq x)) := by rw [h3 v hvi hva, hv]
  simp only [G.e_vr, G.e_vrS, G.e_con, G.e_bin, G.e_binR, G.e_binR2, G.e_un, G.e_unR, G.e_B, G.e_bool, G.e_ch, G.e_chR, G.e_chR2, G.e_chR3t, G.e_chR3f, G.e_tru, G.e_truR, G.e_truB, G.e_truI, G.e_truN, G.e_truL, G.e_truT, G.e_not, G.e_notR, G.e_and, G.e_andT, G.e_andF, G.e_or, G.e_orT, G.e_orF, G.e_andV, G.e_andVT, G.e_andVF, G.e_orV, G.e_orVT, G.e_orVF, G.e_notV, G.e_notVR, G.e_if, G.e_ifT, G.e_ifF, G.e_nil, G.e_cons, G.e_consR, G.e_consR2, G.e_tup, G.e_tupR, G.e_lst, G.e_lstR, G.e_new, G.e_newR, G.e_args, G.e_argR, G.e_call, G.e_callR, G.o_add, G.o_addB, G.o_sub, G.o_neg, G.o_cmp, G.o_lt, G.o_mod, G.o_mul, G.o_div, G.o_pow, G.o_ixT, G.o_ixL, G.o_lenT, G.o_lenL, G.o_abs, G.o_int1, G.o_intB, G.o_max, G.o_min, G.o_eqS, G.o_neS, G.o_eqI, G.o_neI, G.o_isI, G.o_isB, G.o_isT, G.o_isL, G.o_isN, G.o_isS, G.o_tupL, G.o_tupT, G.o_rev, G.s_seq, G.s_thn, G.s_thnR, G.s_thnB, G.s_thnC, G.s_thnX, G.s_nil, G.s_brk, G.s_cnt, G.s_ret, G.s_retR, G.s_retN, G.s_exp, G.s_expR, G.s_if, G.s_ifT, G.s_ifF, G.s_set, G.s_setR, G.s_par, G.s_parR, G.s_par3, G.s_par3R, G.s_asg, G.s_asgQ, G.s_asg2, G.s_sub, G.s_subR, G.s_subR2, G.s_subR3, G.s_putR, G.s_fin, G.s_finN, G.s_finX, G.f_fn, G.e_seqI, G.e_seqL, G.e_seqT, G.e_rng1, G.e_rng1R, G.e_rng2, G.e_rng2R, G.e_zip, G.e_zipL, G.e_zipT, G.s_for, G.s_forR, G.for_nil, G.for_nx, G.for_ct, G.for_bk, G.for_rt, G.g_N, G.w_F, G.w_T, G.w_nx, G.e_lc, G.e_lcR, G.e_lcR2, List.map_cons, List.map_nil, List.length_cons, List.length_nil, List.replicate, List.cons_append, List.nil_append, List.append_nil, List.getElem?_cons_zero, List.getElem?_cons_succ, List.set_cons_zero, List.set_cons_succ, Nat.reduceAdd, Nat.reduceSub, if_true, if_false, Bool.not_true, Bool.not_false, decide_true, decide_false, Nat.zero_add, h1, hv1, hf acc x k l st hk hx (by omega)]
theorem count_ok {i : Nat} {st : Sto} (h : i ≤ 60) : m_require_count [.int i, .int 0, .int 60] st = .ok .non st := by
  have h0 : (0 : Int) ≤ (i : Int) := by omega
  have h1 : (i : Int) ≤ 60 := by omega
  unfold m_require_count
  simp only [G.e_vr, G.e_vrS, G.e_con, G.e_bin, G.e_binR, G.e_binR2, G.e_un, G.e_unR, G.e_B, G.e_bool, G.e_ch, G.e_chR, G.e_chR2, G.e_chR3t, G.e_chR3f, G.e_tru, G.e_truR, G.e_truB, G.e_truI, G.e_truN, G.e_truL, G.e_truT, G.e_not, G.e_notR, G.e_and, G.e_andT, G.e_andF, G.e_or, G.e_orT, G.e_orF, G.e_andV, G.e_andVT, G.e_andVF, G.e_orV, G.e_orVT, G.e_orVF, G.e_notV, G.e_notVR, G.e_if, G.e_ifT, G.e_ifF, G.e_nil, G.e_cons, G.e_consR, G.e_consR2, G.e_tup, G.e_tupR, G.e_lst, G.e_lstR, G.e_new, G.e_newR, G.e_args, G.e_argR, G.e_call, G.e_callR, G.o_add, G.o_addB, G.o_sub, G.o_neg, G.o_cmp, G.o_lt, G.o_mod, G.o_mul, G.o_div, G.o_pow, G.o_ixT, G.o_ixL, G.o_lenT, G.o_lenL, G.o_abs, G.o_int1, G.o_intB, G.o_max, G.o_min, G.o_eqS, G.o_neS, G.o_eqI, G.o_neI, G.o_isI, G.o_isB, G.o_isT, G.o_isL, G.o_isN, G.o_isS, G.o_tupL, G.o_tupT, G.o_rev, G.s_seq, G.s_thn, G.s_thnR, G.s_thnB, G.s_thnC, G.s_thnX, G.s_nil, G.s_brk, G.s_cnt, G.s_ret, G.s_retR, G.s_retN, G.s_exp, G.s_expR, G.s_if, G.s_ifT, G.s_ifF, G.s_set, G.s_setR, G.s_par, G.s_parR, G.s_par3, G.s_par3R, G.s_asg, G.s_asgQ, G.s_asg2, G.s_sub, G.s_subR, G.s_subR2, G.s_subR3, G.s_putR, G.s_fin, G.s_finN, G.s_finX, G.f_fn, G.e_seqI, G.e_seqL, G.e_seqT, G.e_rng1, G.e_rng1R, G.e_rng2, G.e_rng2R, G.e_zip, G.e_zipL, G.e_zipT, G.s_for, G.s_forR, G.for_nil, G.for_nx, G.for_ct, G.for_bk, G.for_rt, G.g_N, G.w_F, G.w_T, G.w_nx, G.e_lc, G.e_lcR, G.e_lcR2, List.map_cons, List.map_nil, List.length_cons, List.length_nil, List.replicate, List.cons_append, List.nil_append, List.append_nil, List.getElem?_cons_zero, List.getElem?_cons_succ, List.set_cons_zero, List.set_cons_succ, Nat.reduceAdd, Nat.reduceSub, if_true, if_false, Bool.not_true, Bool.not_false, decide_true, decide_false, Nat.zero_add, is_integer_int, h0, h1]
theorem rng_guard {n : Nat} (h : n ≤ 1000) : (decide ((n : Int) < 4000000) && decide (-4000000 < (n : Int))) = true := by
  have h1 : (n : Int) < 4000000 := by omega
  have h2 : -4000000 < (n : Int) := by omega
  rw [decide_eq_true h1, decide_eq_true h2]
  rfl
theorem power_ok {l n : Nat} {x : Rat} {st : Sto} (hl : l ≤ 64) (hx : Sm l x) (hn : n ≤ 60) : m_power [dq x, .int n] st = .ok (dq (pw x n)) st := by
  have e := pow_loop (i := 3) (a := 2) (v := 0) (f := m_multiplied) (by decide) (by decide) (by decide) (fun x y a b st hx hy hk => multiplied_ok hx hy hk) hx hl n [some (dq x), some (.int n), some (dq 1), none] st hn rfl rfl rfl
  have hb := rng_guard (n := n) (by omega)
  unfold m_power
  simp only [G.e_vr, G.e_vrS, G.e_con, G.e_bin, G.e_binR, G.e_binR2, G.e_un, G.e_unR, G.e_B, G.e_bool, G.e_ch, G.e_chR, G.e_chR2, G.e_chR3t, G.e_chR3f, G.e_tru, G.e_truR, G.e_truB, G.e_truI, G.e_truN, G.e_truL, G.e_truT, G.e_not, G.e_notR, G.e_and, G.e_andT, G.e_andF, G.e_or, G.e_orT, G.e_orF, G.e_andV, G.e_andVT, G.e_andVF, G.e_orV, G.e_orVT, G.e_orVF, G.e_notV, G.e_notVR, G.e_if, G.e_ifT, G.e_ifF, G.e_nil, G.e_cons, G.e_consR, G.e_consR2, G.e_tup, G.e_tupR, G.e_lst, G.e_lstR, G.e_new, G.e_newR, G.e_args, G.e_argR, G.e_call, G.e_callR, G.o_add, G.o_addB, G.o_sub, G.o_neg, G.o_cmp, G.o_lt, G.o_mod, G.o_mul, G.o_div, G.o_pow, G.o_ixT, G.o_ixL, G.o_lenT, G.o_lenL, G.o_abs, G.o_int1, G.o_intB, G.o_max, G.o_min, G.o_eqS, G.o_neS, G.o_eqI, G.o_neI, G.o_isI, G.o_isB, G.o_isT, G.o_isL, G.o_isN, G.o_isS, G.o_tupL, G.o_tupT, G.o_rev, G.s_seq, G.s_thn, G.s_thnR, G.s_thnB, G.s_thnC, G.s_thnX, G.s_nil, G.s_brk, G.s_cnt, G.s_ret, G.s_retR, G.s_retN, G.s_exp, G.s_expR, G.s_if, G.s_ifT, G.s_ifF, G.s_set, G.s_setR, G.s_par, G.s_parR, G.s_par3, G.s_par3R, G.s_asg, G.s_asgQ, G.s_asg2, G.s_sub, G.s_subR, G.s_subR2, G.s_subR3, G.s_putR, G.s_fin, G.s_finN, G.s_finX, G.f_fn, G.e_seqI, G.e_seqL, G.e_seqT, G.e_rng1, G.e_rng1R, G.e_rng2, G.e_rng2R, G.e_zip, G.e_zipL, G.e_zipT, G.s_for, G.s_forR, G.for_nil, G.for_nx, G.for_ct, G.for_bk, G.for_rt, G.g_N, G.w_F, G.w_T, G.w_nx, G.e_lc, G.e_lcR, G.e_lcR2, List.map_cons, List.map_nil, List.length_cons, List.length_nil, List.replicate, List.cons_append, List.nil_append, List.append_nil, List.getElem?_cons_zero, List.getElem?_cons_succ, List.set_cons_zero, List.set_cons_succ, Nat.reduceAdd, Nat.reduceSub, if_true, if_false, Bool.not_true, Bool.not_false, decide_true, decide_false, Nat.zero_add, require_ok hx (show l ≤ 40000 by omega), count_ok hn, show c_ONE = dq 1 from rfl, e_rng1R hb, Int.toNat_natCast, e]
theorem number_ok {t b : Int} {st : Sto} (ht : t.natAbs ≤ 10 ^ 19) (hb : b.natAbs ≤ 10 ^ 19) (h0 : b ≠ 0) : m_number [.int t, .int b] st = .ok (dq (Rat.divInt t b)) st := by
  have h1 : ¬ (10000000000000000000000000000000000000000 : Int) ≤ (t.natAbs : Int) := by omega
  have h2 : ¬ (10000000000000000000000000000000000000000 : Int) ≤ (b.natAbs : Int) := by omega
  have h3 : (b == 0) = false := beq_eq_false_iff_ne.2 h0
  unfold m_number
  simp only [G.e_vr, G.e_vrS, G.e_con, G.e_bin, G.e_binR, G.e_binR2, G.e_un, G.e_unR, G.e_B, G.e_bool, G.e_ch, G.e_chR, G.e_chR2, G.e_chR3t, G.e_chR3f, G.e_tru, G.e_truR, G.e_truB, G.e_truI, G.e_truN, G.e_truL, G.e_truT, G.e_not, G.e_notR, G.e_and, G.e_andT, G.e_andF, G.e_or, G.e_orT, G.e_orF, G.e_andV, G.e_andVT, G.e_andVF, G.e_orV, G.e_orVT, G.e_orVF, G.e_notV, G.e_notVR, G.e_if, G.e_ifT, G.e_ifF, G.e_nil, G.e_cons, G.e_consR, G.e_consR2, G.e_tup, G.e_tupR, G.e_lst, G.e_lstR, G.e_new, G.e_newR, G.e_args, G.e_argR, G.e_call, G.e_callR, G.o_add, G.o_addB, G.o_sub, G.o_neg, G.o_cmp, G.o_lt, G.o_mod, G.o_mul, G.o_div, G.o_pow, G.o_ixT, G.o_ixL, G.o_lenT, G.o_lenL, G.o_abs, G.o_int1, G.o_intB, G.o_max, G.o_min, G.o_eqS, G.o_neS, G.o_eqI, G.o_neI, G.o_isI, G.o_isB, G.o_isT, G.o_isL, G.o_isN, G.o_isS, G.o_tupL, G.o_tupT, G.o_rev, G.s_seq, G.s_thn, G.s_thnR, G.s_thnB, G.s_thnC, G.s_thnX, G.s_nil, G.s_brk, G.s_cnt, G.s_ret, G.s_retR, G.s_retN, G.s_exp, G.s_expR, G.s_if, G.s_ifT, G.s_ifF, G.s_set, G.s_setR, G.s_par, G.s_parR, G.s_par3, G.s_par3R, G.s_asg, G.s_asgQ, G.s_asg2, G.s_sub, G.s_subR, G.s_subR2, G.s_subR3, G.s_putR, G.s_fin, G.s_finN, G.s_finX, G.f_fn, G.e_seqI, G.e_seqL, G.e_seqT, G.e_rng1, G.e_rng1R, G.e_rng2, G.e_rng2R, G.e_zip, G.e_zipL, G.e_zipT, G.s_for, G.s_forR, G.for_nil, G.for_nx, G.for_ct, G.for_bk, G.for_rt, G.g_N, G.w_F, G.w_T, G.w_nx, G.e_lc, G.e_lcR, G.e_lcR2, List.map_cons, List.map_nil, List.length_cons, List.length_nil, List.replicate, List.cons_append, List.nil_append, List.append_nil, List.getElem?_cons_zero, List.getElem?_cons_succ, List.set_cons_zero, List.set_cons_succ, Nat.reduceAdd, Nat.reduceSub, if_true, if_false, Bool.not_true, Bool.not_false, decide_true, decide_false, Nat.zero_add, is_integer_int, c_MOST_PASSED, h1, h2, h3, reduced_ok (t := t) h0 (k := 64) (by omega) (by decide)]
end Kx

set_option Elab.async false
set_option linter.all false
set_option maxRecDepth 100000
set_option maxHeartbeats 4000000
namespace Kx
open PySem PySem.Spec PyProof.Rows L2 G
theorem sub_add (x y : Rat) : x - y + y = x := by grind
theorem div_mul (x y : Rat) (h : y ≠ 0) : x / y * y = x := by grind
theorem add_mul (x y z : Rat) : (x + y) * z = x * z + y * z := by grind
theorem one_dq : (.tup [.int 1, .int 1] : D) = dq 1 := (rfl)
theorem nought_dq : (.tup [.int 0, .int 1] : D) = dq 0 := (rfl)
theorem lover_ok {x y : Rat} {a b : Nat} {st : Sto} (hx : Sm a x) (hy : Sm b y) (hk : a + b ≤ 8999) (h0 : y ≠ 0) : m__law_fr [.int (x.num * y.den), .int ((x.den : Int) * y.num)] st = .ok (dq (x / y)) st := by
  have dx := x.den_nz
  have hz : (x.den : Int) * y.num ≠ 0 := Int.mul_ne_zero (by omega) (num_ne h0)
  rw [fr_ok hz (k := a + b) ?_ hk (l := a + b) ?_ (by omega), ← div_eq x y h0]
  · rw [Int.natAbs_mul]
    exact mul_lt hx.den hy.num
  · rw [Int.natAbs_mul]
    exact mul_lt hx.num hy.den
theorem row_ok {n N m : Nat} {st : Sto} (hd : Dice n N st) (hN : N < 700000) (hm : m ≤ 6) :
    ∃ (qs : List Rat) (st' : Sto), (∀ ρ : G.Env, ρ[0]? = some (some (.ref n)) → lcD (gN 8) tYesD (cCall m__law_drawn [] (cCons (cVar 0) cNil)) ρ (rng 0 m) [] st = .ok (qs.map dq) st') ∧ Rolled n (N + 7 * m) st st' ∧ (∀ q ∈ qs, Sm 64 q) ∧ qs.length = m := by
  have hl : (rng 0 m).length = m := by
    unfold rng
    rw [List.length_map, List.length_range]
  obtain ⟨qs, st', e, ⟨h1, h2⟩, h3⟩ := lc_invU (γ := gN 8) (f := cCall m__law_drawn [] (cCons (cVar 0) cNil)) (fun ρ => ρ[0]? = some (some (.ref n)))
    (fun rest acc st' => Rolled n (N + 7 * acc.length) st st' ∧ (∀ q ∈ acc, Sm 64 q) ∧ acc.length + rest.length = m) dq (fun v rest acc st1 hI => by
      obtain ⟨hr, ha, hn⟩ := hI
      rw [List.length_cons] at hn
      obtain ⟨q, st2, e, hq, h2⟩ := ldrawn_ok hr.dice (by omega)
      refine ⟨q, st2, fun ρ hρ => ⟨_, rfl, ?_⟩, (hr.trans h2).mono (by rw [List.length_append, List.length_singleton]; omega), ?_, by rw [List.length_append, List.length_singleton]; omega⟩
      · have : (ρ.set 8 (some v))[0]? = some (some (.ref n)) := by rw [set_ne (by decide)]; exact hρ
        simp only [G.e_vr, G.e_vrS, G.e_con, G.e_bin, G.e_binR, G.e_binR2, G.e_un, G.e_unR, G.e_B, G.e_bool, G.e_ch, G.e_chR, G.e_chR2, G.e_chR3t, G.e_chR3f, G.e_tru, G.e_truR, G.e_truB, G.e_truI, G.e_truN, G.e_truL, G.e_truT, G.e_not, G.e_notR, G.e_and, G.e_andT, G.e_andF, G.e_or, G.e_orT, G.e_orF, G.e_andV, G.e_andVT, G.e_andVF, G.e_orV, G.e_orVT, G.e_orVF, G.e_notV, G.e_notVR, G.e_if, G.e_ifT, G.e_ifF, G.e_nil, G.e_cons, G.e_consR, G.e_consR2, G.e_tup, G.e_tupR, G.e_lst, G.e_lstR, G.e_new, G.e_newR, G.e_args, G.e_argR, G.e_call, G.e_callR, G.o_add, G.o_addB, G.o_sub, G.o_neg, G.o_cmp, G.o_lt, G.o_mod, G.o_mul, G.o_div, G.o_pow, G.o_ixT, G.o_ixL, G.o_lenT, G.o_lenL, G.o_abs, G.o_int1, G.o_intB, G.o_max, G.o_min, G.o_eqS, G.o_neS, G.o_eqI, G.o_neI, G.o_isI, G.o_isB, G.o_isT, G.o_isL, G.o_isN, G.o_isS, G.o_tupL, G.o_tupT, G.o_rev, G.s_seq, G.s_thn, G.s_thnR, G.s_thnB, G.s_thnC, G.s_thnX, G.s_nil, G.s_brk, G.s_cnt, G.s_ret, G.s_retR, G.s_retN, G.s_exp, G.s_expR, G.s_if, G.s_ifT, G.s_ifF, G.s_set, G.s_setR, G.s_par, G.s_parR, G.s_par3, G.s_par3R, G.s_asg, G.s_asgQ, G.s_asg2, G.s_sub, G.s_subR, G.s_subR2, G.s_subR3, G.s_putR, G.s_fin, G.s_finN, G.s_finX, G.f_fn, G.e_seqI, G.e_seqL, G.e_seqT, G.e_rng1, G.e_rng1R, G.e_rng2, G.e_rng2R, G.e_zip, G.e_zipL, G.e_zipT, G.s_for, G.s_forR, G.for_nil, G.for_nx, G.for_ct, G.for_bk, G.for_rt, G.g_N, G.w_F, G.w_T, G.w_nx, G.e_lc, G.e_lcR, G.e_lcR2, List.map_cons, List.map_nil, List.length_cons, List.length_nil, List.replicate, List.cons_append, List.nil_append, List.append_nil, List.getElem?_cons_zero, List.getElem?_cons_succ, List.set_cons_zero, List.set_cons_succ, Nat.reduceAdd, Nat.reduceSub, if_true, if_false, Bool.not_true, Bool.not_false, decide_true, decide_false, Nat.zero_add, this, e]
      · intro x hx
        rcases List.mem_append.1 hx with h | h
        · exact ha x h
        · rw [List.mem_singleton.1 h]
          exact hq) (rng 0 m) [] st ⟨(Rolled.refl hd).mono (by omega), fun _ h => (List.not_mem_nil h).elim, by rw [hl]; exact Nat.zero_add _⟩ (by rw [hl]; show 0 + m ≤ 100000; omega)
  rw [hl, List.length_nil, Nat.zero_add] at h3
  exact ⟨qs, st', e, h3 ▸ h1, h2.1, h3⟩
theorem right_ok {n N : Nat} {st : Sto} (hd : Dice n N st) (hN : N < 100000) :
    ∃ st', m__law_right [.ref n] st = .ok (.bl true) st' ∧ Rolled n (N + 200) st st' := by
  obtain ⟨x, st1, e1, hx, h1⟩ := ldrawn_ok hd (by omega)
  obtain ⟨y, st2, e2, hy, h2⟩ := ldrawn_ok h1.dice (by omega)
  obtain ⟨z, st3, e3, hz, h3⟩ := ldrawn_ok h2.dice (by omega)
  obtain ⟨r, st4, e4, r0, r1, h4⟩ := lroll_ok (many := 6) h3.dice (by omega) (by decide) (by decide)
  obtain ⟨m, rfl⟩ := Int.eq_ofNat_of_zero_le r0
  obtain ⟨qs, st5, e5, h5, hq, hn⟩ := row_ok (m := m) h4.dice (by omega) (by omega)
  obtain ⟨r, st6, e6, k0, k1, h6⟩ := lroll_ok (many := 7) h5.dice (by omega) (by decide) (by decide)
  obtain ⟨k, rfl⟩ := Int.eq_ofNat_of_zero_le k0
  obtain ⟨i, st7, e7, i0, i1, h7⟩ := linteger_ok h6.dice (by omega)
  obtain ⟨d, st8, e8, hm, h8⟩ := lpick_ok (xs := [.int 0, .int i]) h7.dice (by omega) (by simp only [List.length_cons, List.length_nil]; decide) (by simp only [List.length_cons, List.length_nil]; decide)
  obtain ⟨j, st9, e9, j0, j1, h9⟩ := linteger_ok h8.dice (by omega)
  obtain ⟨t, rfl, ht⟩ : ∃ t : Int, d = .int t ∧ t.natAbs ≤ 10 ^ 19 := by
    simp only [List.mem_cons, List.not_mem_nil, or_false] at hm
    rcases hm with rfl | rfl
    · exact ⟨0, rfl, by decide⟩
    · exact ⟨i, rfl, i1⟩
  refine ⟨st9, ?_, (h1.trans (h2.trans (h3.trans (h4.trans (h5.trans (h6.trans (h7.trans (h8.trans h9)))))))).mono (by omega)⟩
  have l1 := small_log hx.num
  have l2 := small_log hy.num
  have l3 : (x.den : Int).natAbs.log2 ≤ 64 := log_le' hx.den
  have l4 : (y.den : Int).natAbs.log2 ≤ 64 := log_le' hy.den
  obtain ⟨S, hS⟩ : ∃ S, ∀ st, dRepr [.lst [dq (x + y), dq (x - y), dq (x * y), dq x]] st = .ok (.str S) st := ⟨_, fun st => repr_lst (qs := [x + y, x - y, x * y, x]) (by
    simp only [List.mem_cons, List.not_mem_nil, or_false]
    rintro q (rfl | rfl | rfl | rfl)
    · exact (hx.add hy).mono (by decide)
    · exact (hx.sub hy).mono (by decide)
    · exact (hx.mul hy).mono (by decide)
    · exact hx.mono (by decide)) (by simp only [List.length_cons, List.length_nil]; decide)⟩
  have tq : dq (Rat.divInt t 1) = .tup [.int t, .int 1] := by
    rw [divInt_one']
    rfl
  have tb : t.natAbs < 2 ^ 64 := by omega
  have jb : j.natAbs < 2 ^ 64 := by omega
  obtain ⟨S2, hS2⟩ : ∃ S, ∀ st, dRepr [.tup [.int t, .int 1]] st = .ok (.str S) st := ⟨_, fun st => by
    rw [← tq]
    refine repr_dq ?_
    have := Sm.divInt (t := t) (b := 1) (k := 1919) (l := 1919) (Nat.lt_of_lt_of_le tb (Nat.pow_le_pow_right (by decide) (by decide))) (by decide) (by decide)
    exact ⟨this.1, this.2⟩⟩
  have c11 : ∀ st, m_compared [dq x, dq x] st = .ok (.int 0) st := fun st => by
    rw [compared_ok hx hx (by decide)]
    simp only [Int.lt_irrefl, decide_false, Bool.false_eq_true, if_false, Int.sub_self]
  have e5' : ∀ (A B C D0 E F : D) (o g h : Option D) (a b c d : Option D), lcD (gN 8) tYesD (cCall m__law_drawn [] (cCons (cVar 0) cNil)) (wipeD [some (D.ref n), some A, some B, some C, some D0, o, some E, some F, g, h, a, b, c, d] [8]) (rng 0 m) [] st4 = .ok (qs.map dq) st5 := fun _ _ _ _ _ _ _ _ _ _ _ _ _ => e5 _ rfl
  have gm : (decide ((m : Int) < 4000000) && decide (-4000000 < (m : Int))) = true := rng_guard (by omega)
  have gk : (decide ((k : Int) < 4000000) && decide (-4000000 < (k : Int))) = true := rng_guard (by omega)
  have q20 : qs.length ≤ 20 := by omega
  have rq : ∀ q ∈ qs.reverse, Sm 64 q := fun q h => hq q (List.mem_reverse.1 h)
  have rn : qs.reverse.length ≤ 20 := by rw [List.length_reverse]; exact q20
  have p0 : ∀ st, m_power [dq x, .int 0] st = .ok (dq 1) st := fun st => power_ok (n := 0) (by decide) hx (by decide)
  have pk : ∀ st, m_power [dq x, .int k] st = .ok (dq (pw x k)) st := fun st => power_ok (by decide) hx (by omega)
  have nj : ∀ st, m_number [.int t, .int j] st = .ok (dq (Rat.divInt t j)) st := fun st => number_ok ht j1 j0
  have n1 : ∀ st, m_number [.int t, .int 1] st = .ok (.tup [.int t, .int 1]) st := fun st => by rw [number_ok ht (by decide) (by decide), tq]
  have fj : ∀ st, m__law_fr [.int t, .int j] st = .ok (dq (Rat.divInt t j)) st := fun st => fr_ok j0 jb (by decide) tb (by decide)
  have fl := fun (ρ : G.Env) st h1 h2 => fold_loop (i := 10) (a := 5) (f := m__law_plus) (by decide) (fun x y a b st hx hy hk => lplus_ok hx hy hk) (l := 64) (by decide) qs ρ st hq q20 h1 h2
  have pl := fun (ρ : G.Env) st h1 h2 h3 => pow_loop (i := 8) (a := 5) (v := 1) (f := m__law_times) (by decide) (by decide) (by decide) (fun x y a b st hx hy hk => ltimes_ok hx hy hk) hx (by decide) k ρ st (by omega) h1 h2 h3
  unfold m__law_right
  by_cases hy0 : y.num = 0
  · have hb : (y.num == 0) = true := by rw [hy0]; rfl
    simp only [G.e_vr, G.e_vrS, G.e_con, G.e_bin, G.e_binR, G.e_binR2, G.e_un, G.e_unR, G.e_B, G.e_bool, G.e_ch, G.e_chR, G.e_chR2, G.e_chR3t, G.e_chR3f, G.e_tru, G.e_truR, G.e_truB, G.e_truI, G.e_truN, G.e_truL, G.e_truT, G.e_not, G.e_notR, G.e_and, G.e_andT, G.e_andF, G.e_or, G.e_orT, G.e_orF, G.e_andV, G.e_andVT, G.e_andVF, G.e_orV, G.e_orVT, G.e_orVF, G.e_notV, G.e_notVR, G.e_if, G.e_ifT, G.e_ifF, G.e_nil, G.e_cons, G.e_consR, G.e_consR2, G.e_tup, G.e_tupR, G.e_lst, G.e_lstR, G.e_new, G.e_newR, G.e_args, G.e_argR, G.e_call, G.e_callR, G.o_add, G.o_addB, G.o_sub, G.o_neg, G.o_cmp, G.o_lt, G.o_mod, G.o_mul, G.o_div, G.o_pow, G.o_ixT, G.o_ixL, G.o_lenT, G.o_lenL, G.o_abs, G.o_int1, G.o_intB, G.o_max, G.o_min, G.o_eqS, G.o_neS, G.o_eqI, G.o_neI, G.o_isI, G.o_isB, G.o_isT, G.o_isL, G.o_isN, G.o_isS, G.o_tupL, G.o_tupT, G.o_rev, G.s_seq, G.s_thn, G.s_thnR, G.s_thnB, G.s_thnC, G.s_thnX, G.s_nil, G.s_brk, G.s_cnt, G.s_ret, G.s_retR, G.s_retN, G.s_exp, G.s_expR, G.s_if, G.s_ifT, G.s_ifF, G.s_set, G.s_setR, G.s_par, G.s_parR, G.s_par3, G.s_par3R, G.s_asg, G.s_asgQ, G.s_asg2, G.s_sub, G.s_subR, G.s_subR2, G.s_subR3, G.s_putR, G.s_fin, G.s_finN, G.s_finX, G.f_fn, G.e_seqI, G.e_seqL, G.e_seqT, G.e_rng1, G.e_rng1R, G.e_rng2, G.e_rng2R, G.e_zip, G.e_zipL, G.e_zipT, G.s_for, G.s_forR, G.for_nil, G.for_nx, G.for_ct, G.for_bk, G.for_rt, G.g_N, G.w_F, G.w_T, G.w_nx, G.e_lc, G.e_lcR, G.e_lcR2, List.map_cons, List.map_nil, List.length_cons, List.length_nil, List.replicate, List.cons_append, List.nil_append, List.append_nil, List.getElem?_cons_zero, List.getElem?_cons_succ, List.set_cons_zero, List.set_cons_succ, Nat.reduceAdd, Nat.reduceSub, if_true, if_false, Bool.not_true, Bool.not_false, decide_true, decide_false, Nat.zero_add, e1, e2, e3, plus_ok hx hy (show 64 + 64 ≤ 8999 by decide), minus_ok hx hy (show 64 + 64 ≤ 8999 by decide), times_ok hx hy (show 64 + 64 ≤ 8999 by decide), plus_ok (hx.sub hy) hy (show 64 + 64 + 1 + 64 ≤ 8999 by decide), sub_add, big_4, hS, lplus_ok hx hy (show 64 + 64 ≤ 8999 by decide), lminus_ok hx hy (show 64 + 64 ≤ 8999 by decide), ltimes_ok hx hy (show 64 + 64 ≤ 8999 by decide), eqNs_self, dq_0, dq_1, hb,
      o_mul (m := x.num) (n := (y.den : Int)) (by omega), o_mul (m := y.num) (n := (x.den : Int)) (by omega), compared_ok hx hy (show 64 + 64 ≤ 8999 by decide), beq_self_eq_true, c11, times_ok (hx.add hy) hz (show 64 + 64 + 1 + 64 ≤ 8999 by decide), times_ok hx hz (show 64 + 64 ≤ 8999 by decide), times_ok hy hz (show 64 + 64 ≤ 8999 by decide), plus_ok (hx.mul hz) (hy.mul hz) (show 64 + 64 + (64 + 64) ≤ 8999 by decide), add_mul, ne_dq, eq_self,
      e4, e_rng1R gm, Int.toNat_natCast, e5', big_2, nought_dq, fl, Option.isSome_some, tuple_lst, ← List.map_reverse, total_ok (show 64 ≤ 64 by decide) hq q20, total_ok (show 64 ≤ 64 by decide) rq rn, fold_rev, e6, one_dq, e_rng1R gk, pl, pk, p0, e7, e8, e9, nj, n1, fj, eq_dq, hS2, o_eqS]
  · have hb : (y.num == 0) = false := beq_eq_false_iff_ne.2 hy0
    have hy1 : y ≠ 0 := fun z => hy0 (by rw [z]; rfl)
    have ro : ∀ st, dRepr [dq (x / y)] st = .ok (.str (shown (dq (x / y)))) st := fun st => repr_dq ((hx.div hy hy1).mono (by decide))
    simp only [G.e_vr, G.e_vrS, G.e_con, G.e_bin, G.e_binR, G.e_binR2, G.e_un, G.e_unR, G.e_B, G.e_bool, G.e_ch, G.e_chR, G.e_chR2, G.e_chR3t, G.e_chR3f, G.e_tru, G.e_truR, G.e_truB, G.e_truI, G.e_truN, G.e_truL, G.e_truT, G.e_not, G.e_notR, G.e_and, G.e_andT, G.e_andF, G.e_or, G.e_orT, G.e_orF, G.e_andV, G.e_andVT, G.e_andVF, G.e_orV, G.e_orVT, G.e_orVF, G.e_notV, G.e_notVR, G.e_if, G.e_ifT, G.e_ifF, G.e_nil, G.e_cons, G.e_consR, G.e_consR2, G.e_tup, G.e_tupR, G.e_lst, G.e_lstR, G.e_new, G.e_newR, G.e_args, G.e_argR, G.e_call, G.e_callR, G.o_add, G.o_addB, G.o_sub, G.o_neg, G.o_cmp, G.o_lt, G.o_mod, G.o_mul, G.o_div, G.o_pow, G.o_ixT, G.o_ixL, G.o_lenT, G.o_lenL, G.o_abs, G.o_int1, G.o_intB, G.o_max, G.o_min, G.o_eqS, G.o_neS, G.o_eqI, G.o_neI, G.o_isI, G.o_isB, G.o_isT, G.o_isL, G.o_isN, G.o_isS, G.o_tupL, G.o_tupT, G.o_rev, G.s_seq, G.s_thn, G.s_thnR, G.s_thnB, G.s_thnC, G.s_thnX, G.s_nil, G.s_brk, G.s_cnt, G.s_ret, G.s_retR, G.s_retN, G.s_exp, G.s_expR, G.s_if, G.s_ifT, G.s_ifF, G.s_set, G.s_setR, G.s_par, G.s_parR, G.s_par3, G.s_par3R, G.s_asg, G.s_asgQ, G.s_asg2, G.s_sub, G.s_subR, G.s_subR2, G.s_subR3, G.s_putR, G.s_fin, G.s_finN, G.s_finX, G.f_fn, G.e_seqI, G.e_seqL, G.e_seqT, G.e_rng1, G.e_rng1R, G.e_rng2, G.e_rng2R, G.e_zip, G.e_zipL, G.e_zipT, G.s_for, G.s_forR, G.for_nil, G.for_nx, G.for_ct, G.for_bk, G.for_rt, G.g_N, G.w_F, G.w_T, G.w_nx, G.e_lc, G.e_lcR, G.e_lcR2, List.map_cons, List.map_nil, List.length_cons, List.length_nil, List.replicate, List.cons_append, List.nil_append, List.append_nil, List.getElem?_cons_zero, List.getElem?_cons_succ, List.set_cons_zero, List.set_cons_succ, Nat.reduceAdd, Nat.reduceSub, if_true, if_false, Bool.not_true, Bool.not_false, decide_true, decide_false, Nat.zero_add, e1, e2, e3, plus_ok hx hy (show 64 + 64 ≤ 8999 by decide), minus_ok hx hy (show 64 + 64 ≤ 8999 by decide), times_ok hx hy (show 64 + 64 ≤ 8999 by decide), plus_ok (hx.sub hy) hy (show 64 + 64 + 1 + 64 ≤ 8999 by decide), sub_add, big_4, hS, lplus_ok hx hy (show 64 + 64 ≤ 8999 by decide), lminus_ok hx hy (show 64 + 64 ≤ 8999 by decide), ltimes_ok hx hy (show 64 + 64 ≤ 8999 by decide), eqNs_self, dq_0, dq_1, hb, lover_ok hx hy (show 64 + 64 ≤ 8999 by decide) hy1, over_ok hx hy (show 64 + 64 ≤ 8999 by decide) hy1, times_ok (hx.div hy hy1) hy (show 64 + 64 + 64 ≤ 8999 by decide), div_mul x y hy1, ro, o_mul (m := (x.den : Int)) (n := y.num) (by omega),
      o_mul (m := x.num) (n := (y.den : Int)) (by omega), o_mul (m := y.num) (n := (x.den : Int)) (by omega), compared_ok hx hy (show 64 + 64 ≤ 8999 by decide), beq_self_eq_true, c11, times_ok (hx.add hy) hz (show 64 + 64 + 1 + 64 ≤ 8999 by decide), times_ok hx hz (show 64 + 64 ≤ 8999 by decide), times_ok hy hz (show 64 + 64 ≤ 8999 by decide), plus_ok (hx.mul hz) (hy.mul hz) (show 64 + 64 + (64 + 64) ≤ 8999 by decide), add_mul, ne_dq, eq_self,
      e4, e_rng1R gm, Int.toNat_natCast, e5', big_2, nought_dq, fl, Option.isSome_some, tuple_lst, ← List.map_reverse, total_ok (show 64 ≤ 64 by decide) hq q20, total_ok (show 64 ≤ 64 by decide) rq rn, fold_rev, e6, one_dq, e_rng1R gk, pl, pk, p0, e7, e8, e9, nj, n1, fj, eq_dq, hS2, o_eqS]
theorem ldice_ok {ns : List Int} {spot : Nat} {st : Sto} (hs : spot < 1000) :
    ∃ st', m__law_dice [.lst (ns.map D.int), .int spot] st = .ok (.ref st.length) st' ∧ Dice st.length 0 st' := by
  have g2 : (131 : Int).natAbs.log2 + (spot : Int).natAbs.log2 ≤ 999998 := by
    have := small_log (m := (spot : Int)) (k := 10) (by omega)
    have : (131 : Int).natAbs.log2 = 7 := by decide
    omega
  have g3 : (619 : Int).natAbs.log2 + (spot : Int).natAbs.log2 ≤ 999998 := by
    have := small_log (m := (spot : Int)) (k := 10) (by omega)
    have : (619 : Int).natAbs.log2 = 9 := by decide
    omega
  have fin : ∀ cell : Int, (cIf (cB (cBin dLt (cVar 1) (cArgs dLen (cCons (cVar 0) (cNil))))) (cArgs dInt1 (cCons (cBin dIx (cVar 0) (cVar 1)) (cNil))) (cBin dAdd (cBin dMul (cC (.int 131)) (cVar 1)) (cC (.int 37)))) [some (.lst (ns.map D.int)), some (.int spot), none, none, none] st = .ok (.int cell) st →
      ∃ st', m__law_dice [.lst (ns.map D.int), .int spot] st = .ok (.ref st.length) st' ∧ Dice st.length 0 st' := by
    intro cell hc
    obtain ⟨M, hM⟩ : ∃ M : Int, M = ((10 : Int) ^ (53 : Int).toNat) ^ (6 : Int).toNat := ⟨_, rfl⟩
    have hM0 : 0 < M := by rw [hM]; decide +kernel
    obtain ⟨great, hg⟩ : ∃ g : Int, g = (cell.natAbs : Int) % M := ⟨_, rfl⟩
    obtain ⟨a, ha⟩ : ∃ a : Int, a = great % 2305843009213693907 := ⟨_, rfl⟩
    have a1 : a.natAbs < 2 ^ 62 := by
      have := Int.emod_nonneg great (show (2305843009213693907 : Int) ≠ 0 by decide)
      have := Int.emod_lt_of_pos great (show (0 : Int) < 2305843009213693907 by decide)
      omega
    have g1 : a.natAbs.log2 + (73 : Int).natAbs.log2 ≤ 999998 := by
      have := small_log a1
      have : (73 : Int).natAbs.log2 = 6 := by decide
      omega
    have g4 : ∀ c : Bool, (41 : Int).natAbs.log2 + (if c = true then (1 : Int) else 0).natAbs.log2 ≤ 999998 := by decide
    refine ⟨st ++ [.lst [.int (if great - 10 ^ (16 : Int).toNat > 0 then great - 10 ^ (16 : Int).toNat else 0), .int (a * 73 + 619 * spot + 41 * (if decide (cell < 0) = true then 1 else 0) + 17), .int 0]], ?_, ?_⟩
    · unfold m__law_dice
      simp only [f_fn, s_seq, s_set, List.map_cons, List.map_nil, List.length_cons, List.length_nil, List.replicate, List.cons_append, List.nil_append, Nat.reduceAdd, Nat.reduceSub, hc]
      simp only [G.e_vr, G.e_vrS, G.e_con, G.e_bin, G.e_binR, G.e_binR2, G.e_un, G.e_unR, G.e_B, G.e_bool, G.e_ch, G.e_chR, G.e_chR2, G.e_chR3t, G.e_chR3f, G.e_tru, G.e_truR, G.e_truB, G.e_truI, G.e_truN, G.e_truL, G.e_truT, G.e_not, G.e_notR, G.e_and, G.e_andT, G.e_andF, G.e_or, G.e_orT, G.e_orF, G.e_andV, G.e_andVT, G.e_andVF, G.e_orV, G.e_orVT, G.e_orVF, G.e_notV, G.e_notVR, G.e_if, G.e_ifT, G.e_ifF, G.e_nil, G.e_cons, G.e_consR, G.e_consR2, G.e_tup, G.e_tupR, G.e_lst, G.e_lstR, G.e_new, G.e_newR, G.e_args, G.e_argR, G.e_call, G.e_callR, G.o_add, G.o_addB, G.o_sub, G.o_neg, G.o_cmp, G.o_lt, G.o_mod, G.o_mul, G.o_div, G.o_pow, G.o_ixT, G.o_ixL, G.o_lenT, G.o_lenL, G.o_abs, G.o_int1, G.o_intB, G.o_max, G.o_min, G.o_eqS, G.o_neS, G.o_eqI, G.o_neI, G.o_isI, G.o_isB, G.o_isT, G.o_isL, G.o_isN, G.o_isS, G.o_tupL, G.o_tupT, G.o_rev, G.s_seq, G.s_thn, G.s_thnR, G.s_thnB, G.s_thnC, G.s_thnX, G.s_nil, G.s_brk, G.s_cnt, G.s_ret, G.s_retR, G.s_retN, G.s_exp, G.s_expR, G.s_if, G.s_ifT, G.s_ifF, G.s_set, G.s_setR, G.s_par, G.s_parR, G.s_par3, G.s_par3R, G.s_asg, G.s_asgQ, G.s_asg2, G.s_sub, G.s_subR, G.s_subR2, G.s_subR3, G.s_putR, G.s_fin, G.s_finN, G.s_finX, G.f_fn, G.e_seqI, G.e_seqL, G.e_seqT, G.e_rng1, G.e_rng1R, G.e_rng2, G.e_rng2R, G.e_zip, G.e_zipL, G.e_zipT, G.s_for, G.s_forR, G.for_nil, G.for_nx, G.for_ct, G.for_bk, G.for_rt, G.g_N, G.w_F, G.w_T, G.w_nx, G.e_lc, G.e_lcR, G.e_lcR2, List.map_cons, List.map_nil, List.length_cons, List.length_nil, List.replicate, List.cons_append, List.nil_append, List.append_nil, List.getElem?_cons_zero, List.getElem?_cons_succ, List.set_cons_zero, List.set_cons_succ, Nat.reduceAdd, Nat.reduceSub, if_true, if_false, Bool.not_true, Bool.not_false, decide_true, decide_false, Nat.zero_add, o_pow (m := 10) (n := 53) (by decide), o_pow (m := (10 : Int) ^ (53 : Int).toNat) (n := 6) (by decide +kernel), ← hM, o_mod hM0, ← hg, o_mod (n := 2305843009213693907) (by decide), ← ha, o_mul g1, o_mul g3, o_mul (g4 _), o_pow (m := 10) (n := 16) (by decide), big_3]
    · refine ⟨_, _, 0, List.getElem?_concat_length, ?_, Nat.le_refl _⟩
      split <;> omega
  by_cases h : spot < ns.length
  · obtain ⟨d, e, hm⟩ := atI_nat (xs := ns.map D.int) (r := (spot : Int)) (by omega) (by rw [List.length_map]; omega)
    obtain ⟨c, _, rfl⟩ := List.mem_map.1 hm
    refine fin c ?_
    have : ((spot : Int) < ((ns.map D.int).length : Int)) := by rw [List.length_map]; omega
    simp only [G.e_vr, G.e_vrS, G.e_con, G.e_bin, G.e_binR, G.e_binR2, G.e_un, G.e_unR, G.e_B, G.e_bool, G.e_ch, G.e_chR, G.e_chR2, G.e_chR3t, G.e_chR3f, G.e_tru, G.e_truR, G.e_truB, G.e_truI, G.e_truN, G.e_truL, G.e_truT, G.e_not, G.e_notR, G.e_and, G.e_andT, G.e_andF, G.e_or, G.e_orT, G.e_orF, G.e_andV, G.e_andVT, G.e_andVF, G.e_orV, G.e_orVT, G.e_orVF, G.e_notV, G.e_notVR, G.e_if, G.e_ifT, G.e_ifF, G.e_nil, G.e_cons, G.e_consR, G.e_consR2, G.e_tup, G.e_tupR, G.e_lst, G.e_lstR, G.e_new, G.e_newR, G.e_args, G.e_argR, G.e_call, G.e_callR, G.o_add, G.o_addB, G.o_sub, G.o_neg, G.o_cmp, G.o_lt, G.o_mod, G.o_mul, G.o_div, G.o_pow, G.o_ixT, G.o_ixL, G.o_lenT, G.o_lenL, G.o_abs, G.o_int1, G.o_intB, G.o_max, G.o_min, G.o_eqS, G.o_neS, G.o_eqI, G.o_neI, G.o_isI, G.o_isB, G.o_isT, G.o_isL, G.o_isN, G.o_isS, G.o_tupL, G.o_tupT, G.o_rev, G.s_seq, G.s_thn, G.s_thnR, G.s_thnB, G.s_thnC, G.s_thnX, G.s_nil, G.s_brk, G.s_cnt, G.s_ret, G.s_retR, G.s_retN, G.s_exp, G.s_expR, G.s_if, G.s_ifT, G.s_ifF, G.s_set, G.s_setR, G.s_par, G.s_parR, G.s_par3, G.s_par3R, G.s_asg, G.s_asgQ, G.s_asg2, G.s_sub, G.s_subR, G.s_subR2, G.s_subR3, G.s_putR, G.s_fin, G.s_finN, G.s_finX, G.f_fn, G.e_seqI, G.e_seqL, G.e_seqT, G.e_rng1, G.e_rng1R, G.e_rng2, G.e_rng2R, G.e_zip, G.e_zipL, G.e_zipT, G.s_for, G.s_forR, G.for_nil, G.for_nx, G.for_ct, G.for_bk, G.for_rt, G.g_N, G.w_F, G.w_T, G.w_nx, G.e_lc, G.e_lcR, G.e_lcR2, List.map_cons, List.map_nil, List.length_cons, List.length_nil, List.replicate, List.cons_append, List.nil_append, List.append_nil, List.getElem?_cons_zero, List.getElem?_cons_succ, List.set_cons_zero, List.set_cons_succ, Nat.reduceAdd, Nat.reduceSub, if_true, if_false, Bool.not_true, Bool.not_false, decide_true, decide_false, Nat.zero_add, this, o_ixL e]
  · refine fin (131 * spot + 37) ?_
    have : ¬ ((spot : Int) < ((ns.map D.int).length : Int)) := by rw [List.length_map]; omega
    simp only [G.e_vr, G.e_vrS, G.e_con, G.e_bin, G.e_binR, G.e_binR2, G.e_un, G.e_unR, G.e_B, G.e_bool, G.e_ch, G.e_chR, G.e_chR2, G.e_chR3t, G.e_chR3f, G.e_tru, G.e_truR, G.e_truB, G.e_truI, G.e_truN, G.e_truL, G.e_truT, G.e_not, G.e_notR, G.e_and, G.e_andT, G.e_andF, G.e_or, G.e_orT, G.e_orF, G.e_andV, G.e_andVT, G.e_andVF, G.e_orV, G.e_orVT, G.e_orVF, G.e_notV, G.e_notVR, G.e_if, G.e_ifT, G.e_ifF, G.e_nil, G.e_cons, G.e_consR, G.e_consR2, G.e_tup, G.e_tupR, G.e_lst, G.e_lstR, G.e_new, G.e_newR, G.e_args, G.e_argR, G.e_call, G.e_callR, G.o_add, G.o_addB, G.o_sub, G.o_neg, G.o_cmp, G.o_lt, G.o_mod, G.o_mul, G.o_div, G.o_pow, G.o_ixT, G.o_ixL, G.o_lenT, G.o_lenL, G.o_abs, G.o_int1, G.o_intB, G.o_max, G.o_min, G.o_eqS, G.o_neS, G.o_eqI, G.o_neI, G.o_isI, G.o_isB, G.o_isT, G.o_isL, G.o_isN, G.o_isS, G.o_tupL, G.o_tupT, G.o_rev, G.s_seq, G.s_thn, G.s_thnR, G.s_thnB, G.s_thnC, G.s_thnX, G.s_nil, G.s_brk, G.s_cnt, G.s_ret, G.s_retR, G.s_retN, G.s_exp, G.s_expR, G.s_if, G.s_ifT, G.s_ifF, G.s_set, G.s_setR, G.s_par, G.s_parR, G.s_par3, G.s_par3R, G.s_asg, G.s_asgQ, G.s_asg2, G.s_sub, G.s_subR, G.s_subR2, G.s_subR3, G.s_putR, G.s_fin, G.s_finN, G.s_finX, G.f_fn, G.e_seqI, G.e_seqL, G.e_seqT, G.e_rng1, G.e_rng1R, G.e_rng2, G.e_rng2R, G.e_zip, G.e_zipL, G.e_zipT, G.s_for, G.s_forR, G.for_nil, G.for_nx, G.for_ct, G.for_bk, G.for_rt, G.g_N, G.w_F, G.w_T, G.w_nx, G.e_lc, G.e_lcR, G.e_lcR2, List.map_cons, List.map_nil, List.length_cons, List.length_nil, List.replicate, List.cons_append, List.nil_append, List.append_nil, List.getElem?_cons_zero, List.getElem?_cons_succ, List.set_cons_zero, List.set_cons_succ, Nat.reduceAdd, Nat.reduceSub, if_true, if_false, Bool.not_true, Bool.not_false, decide_true, decide_false, Nat.zero_add, this, o_mul g2]
end Kx

set_option Elab.async false
set_option linter.all false
set_option maxRecDepth 100000
set_option maxHeartbeats 4000000
namespace Kx
open PySem PySem.Spec PyProof.Rows L2 G
theorem inner_ok {n N : Nat} {xs : List D} {ρ : G.Env} {st : Sto} (hd : Dice n N st) (hN : N < 90000) (hx : xs.length ≤ 3) (h2 : ρ[2]? = some (some (.ref n))) (h6 : ρ.length = 6) :
    ∃ ρ' st', forD (gN 3) (sIf (cNot (cTru (cCall m__law_right [] (cCons (cVar 2) (cNil))))) (sRet (cC (.bl false))) (sNil)) xs ρ st = .ok (.nx ρ') st' ∧ ρ'[0]? = ρ[0]? ∧ ρ'.length = 6 := by
  obtain ⟨ρ', st', e, ⟨N', h, h1, h2, h3, h4, h5⟩⟩ := for_inv (γ := gN 3) (G := sIf (cNot (cTru (cCall m__law_right [] (cCons (cVar 2) (cNil))))) (sRet (cC (.bl false))) (sNil)) (fun xs ρ1 st1 => ∃ N', Dice n N' st1 ∧ N' + 200 * xs.length ≤ 92000 ∧ ρ1[2]? = some (some (.ref n)) ∧ ρ1[0]? = ρ[0]? ∧ ρ1.length = 6 ∧ xs.length ≤ 3) (fun x xs ρ1 st1 hI => by
    obtain ⟨N', h, h1, h2, h3, h4, h5⟩ := hI
    rw [List.length_cons] at h1 h5
    obtain ⟨st2, e, hr⟩ := right_ok h (by omega)
    have q : (ρ1.set 3 (some x))[2]? = some (some (.ref n)) := by rw [set_ne (by decide)]; exact h2
    refine ⟨_, rfl, ρ1.set 3 (some x), st2, ?_, N' + 200, hr.dice, by omega, q, by rw [set_ne (by decide)]; exact h3, by rw [List.length_set]; exact h4, by omega⟩
    simp only [G.e_vr, G.e_vrS, G.e_con, G.e_bin, G.e_binR, G.e_binR2, G.e_un, G.e_unR, G.e_B, G.e_bool, G.e_ch, G.e_chR, G.e_chR2, G.e_chR3t, G.e_chR3f, G.e_tru, G.e_truR, G.e_truB, G.e_truI, G.e_truN, G.e_truL, G.e_truT, G.e_not, G.e_notR, G.e_and, G.e_andT, G.e_andF, G.e_or, G.e_orT, G.e_orF, G.e_andV, G.e_andVT, G.e_andVF, G.e_orV, G.e_orVT, G.e_orVF, G.e_notV, G.e_notVR, G.e_if, G.e_ifT, G.e_ifF, G.e_nil, G.e_cons, G.e_consR, G.e_consR2, G.e_tup, G.e_tupR, G.e_lst, G.e_lstR, G.e_new, G.e_newR, G.e_args, G.e_argR, G.e_call, G.e_callR, G.o_add, G.o_addB, G.o_sub, G.o_neg, G.o_cmp, G.o_lt, G.o_mod, G.o_mul, G.o_div, G.o_pow, G.o_ixT, G.o_ixL, G.o_lenT, G.o_lenL, G.o_abs, G.o_int1, G.o_intB, G.o_max, G.o_min, G.o_eqS, G.o_neS, G.o_eqI, G.o_neI, G.o_isI, G.o_isB, G.o_isT, G.o_isL, G.o_isN, G.o_isS, G.o_tupL, G.o_tupT, G.o_rev, G.s_seq, G.s_thn, G.s_thnR, G.s_thnB, G.s_thnC, G.s_thnX, G.s_nil, G.s_brk, G.s_cnt, G.s_ret, G.s_retR, G.s_retN, G.s_exp, G.s_expR, G.s_if, G.s_ifT, G.s_ifF, G.s_set, G.s_setR, G.s_par, G.s_parR, G.s_par3, G.s_par3R, G.s_asg, G.s_asgQ, G.s_asg2, G.s_sub, G.s_subR, G.s_subR2, G.s_subR3, G.s_putR, G.s_fin, G.s_finN, G.s_finX, G.f_fn, G.e_seqI, G.e_seqL, G.e_seqT, G.e_rng1, G.e_rng1R, G.e_rng2, G.e_rng2R, G.e_zip, G.e_zipL, G.e_zipT, G.s_for, G.s_forR, G.for_nil, G.for_nx, G.for_ct, G.for_bk, G.for_rt, G.g_N, G.w_F, G.w_T, G.w_nx, G.e_lc, G.e_lcR, G.e_lcR2, List.map_cons, List.map_nil, List.length_cons, List.length_nil, List.replicate, List.cons_append, List.nil_append, List.append_nil, List.getElem?_cons_zero, List.getElem?_cons_succ, List.set_cons_zero, List.set_cons_succ, Nat.reduceAdd, Nat.reduceSub, if_true, if_false, Bool.not_true, Bool.not_false, decide_true, decide_false, Nat.zero_add, q, e]) xs ρ st ⟨N, hd, by omega, h2, rfl, h6, hx⟩
  exact ⟨ρ', st', e, h3, h4⟩
theorem law_ok (ns : List Int) : ∃ st, m_law [.lst (ns.map D.int)] [] = .ok (.bl true) st := by
  obtain ⟨m, hm0, hm⟩ : ∃ m : Nat, m ≤ 6 ∧ (if (if ((ns.length : Nat) : Int) < 6 then ((ns.length : Nat) : Int) else 6) > 1 then (if ((ns.length : Nat) : Int) < 6 then ((ns.length : Nat) : Int) else 6) else 1) = (m : Int) := by
    refine ⟨(if (if ((ns.length : Nat) : Int) < 6 then ((ns.length : Nat) : Int) else 6) > 1 then (if ((ns.length : Nat) : Int) < 6 then ((ns.length : Nat) : Int) else 6) else 1).toNat, ?_, ?_⟩ <;> split <;> split <;> omega
  have gm : (decide ((m : Int) < 4000000) && decide (-4000000 < (m : Int))) = true := rng_guard (by omega)
  obtain ⟨ρ', st', e, ⟨h1, h2, _⟩⟩ := for_inv (γ := gN 1) (G := sSeq (sSet 2 (cCall m__law_dice [] (cCons (cVar 0) (cCons (cVar 1) (cNil))))) (sFor (cRng1 (cCons (cC (.int 3)) (cNil))) (gN 3) (sIf (cNot (cTru (cCall m__law_right [] (cCons (cVar 2) (cNil))))) (sRet (cC (.bl false))) (sNil)))) (fun xs ρ st => ρ[0]? = some (some (.lst (ns.map D.int))) ∧ ρ.length = 6 ∧ ∀ x ∈ xs, ∃ k : Nat, k < 1000 ∧ x = .int k) (fun x xs ρ st hI => by
    obtain ⟨h0, h6, hx⟩ := hI
    obtain ⟨k, hk, rfl⟩ := hx x (.head _)
    obtain ⟨st1, e1, hd⟩ := ldice_ok (ns := ns) (spot := k) (st := st) hk
    obtain ⟨a, b, c, d, e, f, rfl⟩ := env6 h6
    rw [List.getElem?_cons_zero] at h0
    cases h0
    obtain ⟨ρ2, st2, e2, q0, q6⟩ := inner_ok (xs := rng 0 3) (ρ := [some (.lst (ns.map D.int)), some (.int k), some (.ref st.length), d, e, f]) hd (by decide) (by decide) rfl rfl
    refine ⟨_, rfl, ρ2, st2, ?_, by rw [q0]; rfl, q6, fun y hy => hx y (.tail _ hy)⟩
    simp only [G.e_vr, G.e_vrS, G.e_con, G.e_bin, G.e_binR, G.e_binR2, G.e_un, G.e_unR, G.e_B, G.e_bool, G.e_ch, G.e_chR, G.e_chR2, G.e_chR3t, G.e_chR3f, G.e_tru, G.e_truR, G.e_truB, G.e_truI, G.e_truN, G.e_truL, G.e_truT, G.e_not, G.e_notR, G.e_and, G.e_andT, G.e_andF, G.e_or, G.e_orT, G.e_orF, G.e_andV, G.e_andVT, G.e_andVF, G.e_orV, G.e_orVT, G.e_orVF, G.e_notV, G.e_notVR, G.e_if, G.e_ifT, G.e_ifF, G.e_nil, G.e_cons, G.e_consR, G.e_consR2, G.e_tup, G.e_tupR, G.e_lst, G.e_lstR, G.e_new, G.e_newR, G.e_args, G.e_argR, G.e_call, G.e_callR, G.o_add, G.o_addB, G.o_sub, G.o_neg, G.o_cmp, G.o_lt, G.o_mod, G.o_mul, G.o_div, G.o_pow, G.o_ixT, G.o_ixL, G.o_lenT, G.o_lenL, G.o_abs, G.o_int1, G.o_intB, G.o_max, G.o_min, G.o_eqS, G.o_neS, G.o_eqI, G.o_neI, G.o_isI, G.o_isB, G.o_isT, G.o_isL, G.o_isN, G.o_isS, G.o_tupL, G.o_tupT, G.o_rev, G.s_seq, G.s_thn, G.s_thnR, G.s_thnB, G.s_thnC, G.s_thnX, G.s_nil, G.s_brk, G.s_cnt, G.s_ret, G.s_retR, G.s_retN, G.s_exp, G.s_expR, G.s_if, G.s_ifT, G.s_ifF, G.s_set, G.s_setR, G.s_par, G.s_parR, G.s_par3, G.s_par3R, G.s_asg, G.s_asgQ, G.s_asg2, G.s_sub, G.s_subR, G.s_subR2, G.s_subR3, G.s_putR, G.s_fin, G.s_finN, G.s_finX, G.f_fn, G.e_seqI, G.e_seqL, G.e_seqT, G.e_rng1, G.e_rng1R, G.e_rng2, G.e_rng2R, G.e_zip, G.e_zipL, G.e_zipT, G.s_for, G.s_forR, G.for_nil, G.for_nx, G.for_ct, G.for_bk, G.for_rt, G.g_N, G.w_F, G.w_T, G.w_nx, G.e_lc, G.e_lcR, G.e_lcR2, List.map_cons, List.map_nil, List.length_cons, List.length_nil, List.replicate, List.cons_append, List.nil_append, List.append_nil, List.getElem?_cons_zero, List.getElem?_cons_succ, List.set_cons_zero, List.set_cons_succ, Nat.reduceAdd, Nat.reduceSub, if_true, if_false, Bool.not_true, Bool.not_false, decide_true, decide_false, Nat.zero_add, e1, e_rng1R (n := 3) (by decide), show (3 : Int).toNat = 3 from rfl, e2]) (rng 0 m) [some (.lst (ns.map D.int)), none, none, none, none, none] [] ⟨rfl, rfl, fun x hx => by
      obtain ⟨k, hk, rfl⟩ := rng_get hx
      exact ⟨k, by omega, by rw [Int.zero_add]⟩⟩
  refine ⟨st', ?_⟩
  obtain ⟨a, b, c, d, e', f, rfl⟩ := env6 h2
  have hl : (ns.map D.int).length = ns.length := List.length_map _
  unfold m_law
  rw [f_fn, s_seq, s_for, e_rng1]
  have r : rng1R ((cCons (cArgs dMax2 (cCons (cC (.int 1)) (cCons (cArgs dMin2 (cCons (cC (.int 6)) (cCons (cArgs dLen (cCons (cVar 0) (cNil))) (cNil)))) (cNil)))) (cNil)) ([D.lst (ns.map D.int)].map some ++ List.replicate (6 - [D.lst (ns.map D.int)].length) none) []) = .ok (rng 0 m) [] := by
    simp only [G.e_vr, G.e_vrS, G.e_con, G.e_bin, G.e_binR, G.e_binR2, G.e_un, G.e_unR, G.e_B, G.e_bool, G.e_ch, G.e_chR, G.e_chR2, G.e_chR3t, G.e_chR3f, G.e_tru, G.e_truR, G.e_truB, G.e_truI, G.e_truN, G.e_truL, G.e_truT, G.e_not, G.e_notR, G.e_and, G.e_andT, G.e_andF, G.e_or, G.e_orT, G.e_orF, G.e_andV, G.e_andVT, G.e_andVF, G.e_orV, G.e_orVT, G.e_orVF, G.e_notV, G.e_notVR, G.e_if, G.e_ifT, G.e_ifF, G.e_nil, G.e_cons, G.e_consR, G.e_consR2, G.e_tup, G.e_tupR, G.e_lst, G.e_lstR, G.e_new, G.e_newR, G.e_args, G.e_argR, G.e_call, G.e_callR, G.o_add, G.o_addB, G.o_sub, G.o_neg, G.o_cmp, G.o_lt, G.o_mod, G.o_mul, G.o_div, G.o_pow, G.o_ixT, G.o_ixL, G.o_lenT, G.o_lenL, G.o_abs, G.o_int1, G.o_intB, G.o_max, G.o_min, G.o_eqS, G.o_neS, G.o_eqI, G.o_neI, G.o_isI, G.o_isB, G.o_isT, G.o_isL, G.o_isN, G.o_isS, G.o_tupL, G.o_tupT, G.o_rev, G.s_seq, G.s_thn, G.s_thnR, G.s_thnB, G.s_thnC, G.s_thnX, G.s_nil, G.s_brk, G.s_cnt, G.s_ret, G.s_retR, G.s_retN, G.s_exp, G.s_expR, G.s_if, G.s_ifT, G.s_ifF, G.s_set, G.s_setR, G.s_par, G.s_parR, G.s_par3, G.s_par3R, G.s_asg, G.s_asgQ, G.s_asg2, G.s_sub, G.s_subR, G.s_subR2, G.s_subR3, G.s_putR, G.s_fin, G.s_finN, G.s_finX, G.f_fn, G.e_seqI, G.e_seqL, G.e_seqT, G.e_rng1, G.e_rng1R, G.e_rng2, G.e_rng2R, G.e_zip, G.e_zipL, G.e_zipT, G.s_for, G.s_forR, G.for_nil, G.for_nx, G.for_ct, G.for_bk, G.for_rt, G.g_N, G.w_F, G.w_T, G.w_nx, G.e_lc, G.e_lcR, G.e_lcR2, List.map_cons, List.map_nil, List.length_cons, List.length_nil, List.replicate, List.cons_append, List.nil_append, List.append_nil, List.getElem?_cons_zero, List.getElem?_cons_succ, List.set_cons_zero, List.set_cons_succ, Nat.reduceAdd, Nat.reduceSub, if_true, if_false, Bool.not_true, Bool.not_false, decide_true, decide_false, Nat.zero_add, hl, hm, e_rng1R gm, Int.toNat_natCast]
  rw [r, s_forR, show ([D.lst (ns.map D.int)].map some ++ List.replicate (6 - [D.lst (ns.map D.int)].length) none) = [some (.lst (ns.map D.int)), none, none, none, none, none] from rfl, e, s_thn]
  kernel_rfl
end Kx

set_option Elab.async false
set_option linter.all false
set_option maxRecDepth 100000
set_option maxHeartbeats 0
open PySem PySem.W PySem.Calls PyProof.Rows
theorem PySem.Challenge.cw_amongliars_k21_whole_numbers_holds : PySem.Challenge.rw_amongliars_k21_whole_numbers.Holds := by
  w_on; o_law
  refine HandSHeadRun.head_any (r := OpenLaw.row PySem.Challenge.rw_amongliars_k21_whole_numbers) (q := view (OpenLaw.row PySem.Challenge.rw_amongliars_k21_whole_numbers).prog [40]) (H := Kx.hk) (ob := Kx.ob) (M := 2000) (loose := Kx.names) (d := HandSHeadRun.topDef (OpenLaw.row PySem.Challenge.rw_amongliars_k21_whole_numbers).prog 40) (kwd := []) Kx.ob_eq
    (by kernel_rfl) (fun s => by kernel_rfl) Kx.run (by kernel_rfl) (by kernel_rfl) (by kernel_rfl) (by rfl) (by first | assumption | decide +kernel) (by decide +kernel) ⟨rfl, rfl, rfl, rfl, rfl, by decide +kernel⟩ ?hw ?hc
  case hw => w_witness2
  case hc =>
    refine G.walkG (l := PySem.Challenge.rw_amongliars_k21_whole_numbers) (n := 63) (k := 7) (x := PySem.Str.ofString "script") rfl (by decide) (by kernel_rfl) ⟨rfl, by decide, by decide⟩ ?F
    intro w mg fa h Y G hmg0
    obtain ⟨K, KX, c⟩ := Y
    obtain ⟨T, _⟩ := Kx.facts KX G c (fun _ => none)
    have e : (HandSHeadRun.topDef (OpenLaw.row PySem.Challenge.rw_amongliars_k21_whole_numbers).prog 40).name = (PySem.Str.ofString "law" : PySem.Str) := by kernel_rfl
    rw [e] at hmg0
    have e2 : T.a_law = fa := by
      have z := T.t_law.g.symm.trans hmg0
      injection z with z
      injection z with z
    have b := L2.FunD.bindsA (ps := [PySem.Str.ofString "script"]) T.t_law.fn fun _ _ _ _ _ _ us hl => match us, hl with | [_], _ => rfl
    exact ⟨K, T.d_law, fun _ => none, Kx.m_law, KX, fun s v => b s [v] rfl, fun ns _ => Kx.law_ok ns, fun base _ _ => e2 ▸ Kx.o_law T⟩
