import PyProof.Rows.All
import Wide.All
import OpenK.AllK
import Wide.FinOn
import HandS.ForMost
import HandS.ForExc
import HandS.CallSlots
import HandS.ExcInit
import HandS.Defaults
import HandS.TupAny
import HandS.Deep
import KE.GoesMore
import KE.GoesEnum
import KE.GoesZip
import HandS.Style
import HandS.IsInst
import HandS.Star
import HandS.EndBits
import KE.KStateDown
import Lean
import HandS.Head0
import HandS.Head1
import HandS.Head2
import HandS.HeadEnd
import HandS.HeadHook1
import HandS.HeadHook2
import HandS.More
import PySem.Challenge.RW_againwords_k85_whole_where_parts_come_fr
set_option Elab.async false
set_option linter.all false
set_option maxRecDepth 100000
set_option maxHeartbeats 4000000
/-! A deterministic reading of the hand layer: values D, a store, computations M; what relates them to the layer's values and heaps. -/
namespace MM
open PySem PySem.Spec PyProof.Rows L2

/-! ### values, objects, computations -/
inductive D where
  | non | bl (b : Bool) | int (i : Int) | str (s : List Nat) | tup (ds : List D) | ref (i : Nat) | ty (n : String) | fn (k : Nat) (caps : List D) | scr (is : List Int)
inductive O where
  | lst (ds : List D)
  | dicK (kvs : List (Key × D))
  | dicT (kvs : List (List Key × D))
  | dead
abbrev Sto := List O
inductive Res (α : Type) where
  | ok (a : α) (st : Sto)
  | ex (c : Nat) (d : D) (st : Sto)
  | bad
abbrev M (α : Type) := Sto → Res α
def M.ret {α : Type} (a : α) : M α := fun st => .ok a st
def M.bad {α : Type} : M α := fun _ => .bad
def Res.bind {α β : Type} (r : Res α) (f : α → M β) : Res β := match r with
  | .ok a st => f a st
  | .ex c d st => .ex c d st
  | .bad => .bad
def M.bind {α β : Type} (m : M α) (f : α → M β) : M β := fun st => (m st).bind f
@[simp] theorem bind_ok {α β : Type} {a : α} {st : Sto} {f : α → M β} : (Res.ok a st).bind f = f a st := rfl
@[simp] theorem bind_ex {α β : Type} {c : Nat} {d : D} {st : Sto} {f : α → M β} : (Res.ex c d st : Res α).bind f = .ex c d st := rfl
@[simp] theorem bind_bad {α β : Type} {f : α → M β} : (Res.bad : Res α).bind f = .bad := rfl
abbrev Env := List (Option D)

/-! ### the relation to the layer -/
/-- what the text's defs and classes are: where they stand -/
structure Wd where
  K : PySem.W.Frag
  fa : Nat → Addr
  ca : Nat → Addr
  cf : Nat → Str
/-- a list of the text's own part (it stands in every heap) -/
def KLst (K : PySem.W.Frag) (a : Addr) (xs : List V) : Prop := ∀ H : Hp, SqL K H a xs
mutual
def RelD (G : Wd) (ρ : List Addr) (H : Hp) : D → V → Prop
  | .non, v => v = .non
  | .bl b, v => v = .bl b
  | .int i, v => v = .int i
  | .str s, v => v = .str ⟨s.toArray⟩
  | .ty n, v => v = .ty n
  | .ref i, v => ∃ a, ρ[i]? = some a ∧ v = .ref a
  | .fn k _, v => v = .ref (G.fa k) ∧ False
  | .scr is, v => ∃ a, v = .ref a ∧ ((∃ o, H a = some (.frz o (.lst (is.map V.int)))) ∨ KLst G.K a (is.map V.int))
  | .tup ds, v => ∃ a vs, v = .ref a ∧ H a = some (.tup vs) ∧ RelDs G ρ H ds vs
def RelDs (G : Wd) (ρ : List Addr) (H : Hp) : List D → List V → Prop
  | [], vs => vs = []
  | d :: ds, vs => ∃ v r, vs = v :: r ∧ RelD G ρ H d v ∧ RelDs G ρ H ds r
end
def RelK (G : Wd) (ρ : List Addr) (H : Hp) {κ : Type} : List (κ × D) → List (κ × V) → Prop
  | [], vs => vs = []
  | (k, d) :: ds, vs => ∃ v r, vs = (k, v) :: r ∧ RelD G ρ H d v ∧ RelK G ρ H ds r
/-- what never changes -/
def Fix : HO → Prop
  | .tup _ => True
  | .frz _ _ => True
  | _ => False
def RelO (G : Wd) (ρ : List Addr) (H : Hp) : O → HO → Prop
  | .lst ds, ho => ∃ vs, ho = .lst vs ∧ RelDs G ρ H ds vs
  | .dicK kvs, ho => ∃ vs, ho = .dK vs ∧ RelK G ρ H kvs vs
  | .dicT kvs, ho => ∃ vs, ho = .dT vs ∧ RelK G ρ H kvs vs
  | .dead, ho => ¬ Fix ho
structure Sim (G : Wd) (ρ : List Addr) (st : Sto) (H : Hp) : Prop where
  len : ρ.length = st.length
  nd : ρ.Nodup
  ok : ∀ (i : Nat) (a : Addr) (o : O), ρ[i]? = some a → st[i]? = some o → ∃ ho, H a = some ho ∧ RelO G ρ H o ho
/-- the store has grown, what is not of the store stands -/
structure Ext (ρ : List Addr) (H : Hp) (ρ' : List Addr) (H' : Hp) : Prop where
  pre : ρ <+: ρ'
  new : ∀ p ∈ ρ', p ∉ ρ → H p = none
  keep : ∀ b o, H b = some o → b ∉ ρ → H' b = some o
  dom : ∀ b, H' b = none → H b = none
def RelEnv (G : Wd) (ρ : List Addr) (H : Hp) (env : Env) (σ : L2.St) : Prop :=
  env.length = σ.length ∧ ∀ (i : Nat) (d : D), env[i]? = some (some d) → ∃ v, σ[i]? = some (some v) ∧ RelD G ρ H d v

section
variable {G : Wd} {ρ ρ' ρ1 ρ2 : List Addr} {H H' H1 H2 : Hp} {st st' : Sto}
theorem Ext.refl (ρ : List Addr) (H : Hp) : Ext ρ H ρ H := ⟨List.prefix_refl _, fun _ h n => absurd h n, fun _ _ h _ => h, fun _ h => h⟩
theorem Ext.trans (a : Ext ρ H ρ1 H1) (b : Ext ρ1 H1 ρ2 H2) : Ext ρ H ρ2 H2 := by
  refine ⟨a.pre.trans b.pre, fun p hp hn => ?_, fun c o hc hn => ?_, fun c hc => a.dom c (b.dom c hc)⟩
  · by_cases h1 : p ∈ ρ1
    · exact a.new p h1 hn
    · exact a.dom p (b.new p hp h1)
  · refine b.keep c o (a.keep c o hc hn) fun h1 => ?_
    have := a.new c h1 hn
    rw [hc] at this; cases this
theorem getElem?_pre {α : Type} {l l' : List α} {i : Nat} {x : α} (h : l <+: l') (e : l[i]? = some x) : l'[i]? = some x := by
  obtain ⟨t, rfl⟩ := h
  have hi : i < l.length := (List.getElem?_eq_some_iff.mp e).1
  rw [List.getElem?_append_left hi]; exact e
/-- what never changes is not of the store -/
theorem Sim.notFix (s : Sim G ρ st H) {a : Addr} {u : HO} (h : H a = some u) (f : Fix u) : a ∉ ρ := fun hm => by
  obtain ⟨i, hi, e⟩ := List.getElem_of_mem hm
  have hi' : i < st.length := by rw [← s.len]; exact hi
  obtain ⟨ho, e1, r⟩ := s.ok i a st[i] (by rw [List.getElem?_eq_getElem hi, e]) (List.getElem?_eq_getElem hi')
  rw [h] at e1
  have e1 := (Option.some.inj e1).symm
  subst e1
  revert r
  cases st[i] with
  | lst ds => rintro ⟨_, e, _⟩; subst e; exact f
  | dicK ds => rintro ⟨_, e, _⟩; subst e; exact f
  | dicT ds => rintro ⟨_, e, _⟩; subst e; exact f
  | dead => intro z; exact z f
mutual
theorem RelD.mono (x : ρ <+: ρ') (nt : ∀ a u, Fix u → H a = some u → H' a = some u) : ∀ (d : D) (v : V), RelD G ρ H d v → RelD G ρ' H' d v
  | .non, _, h => h
  | .bl _, _, h => h
  | .int _, _, h => h
  | .str _, _, h => h
  | .ty _, _, h => h
  | .fn _ _, _, h => h
  | .scr is, v, h => by
    obtain ⟨a, e, q⟩ := h
    exact ⟨a, e, q.imp (fun ⟨o, q⟩ => ⟨o, nt a _ trivial q⟩) fun q => q⟩
  | .ref i, v, h => by
    obtain ⟨a, e, q⟩ := h
    exact ⟨a, getElem?_pre x e, q⟩
  | .tup ds, v, h => by
    obtain ⟨a, vs, e, q, r⟩ := h
    exact ⟨a, vs, e, nt a _ trivial q, RelDs.mono x nt ds vs r⟩
theorem RelDs.mono (x : ρ <+: ρ') (nt : ∀ a u, Fix u → H a = some u → H' a = some u) : ∀ (ds : List D) (vs : List V), RelDs G ρ H ds vs → RelDs G ρ' H' ds vs
  | [], _, h => h
  | d :: ds, vs, h => by
    obtain ⟨v, r, e, h1, h2⟩ := h
    exact ⟨v, r, e, RelD.mono x nt d v h1, RelDs.mono x nt ds r h2⟩
end
theorem RelK.mono {κ : Type} (x : ρ <+: ρ') (nt : ∀ a u, Fix u → H a = some u → H' a = some u) : ∀ (ds : List (κ × D)) (vs : List (κ × V)), RelK G ρ H ds vs → RelK G ρ' H' ds vs
  | [], _, h => h
  | (k, d) :: ds, vs, h => by
    obtain ⟨v, r, e, h1, h2⟩ := h
    exact ⟨v, r, e, RelD.mono x nt d v h1, RelK.mono x nt ds r h2⟩
theorem RelO.mono (x : ρ <+: ρ') (nt : ∀ a u, Fix u → H a = some u → H' a = some u) : ∀ (o : O) (ho : HO), RelO G ρ H o ho → RelO G ρ' H' o ho
  | .lst ds, _, ⟨vs, e, r⟩ => ⟨vs, e, RelDs.mono x nt ds vs r⟩
  | .dicK ds, _, ⟨vs, e, r⟩ => ⟨vs, e, RelK.mono x nt ds vs r⟩
  | .dicT ds, _, ⟨vs, e, r⟩ => ⟨vs, e, RelK.mono x nt ds vs r⟩
  | .dead, _, h => h
theorem Sim.tups (s : Sim G ρ st H) (x : Ext ρ H ρ' H') : ∀ a u, Fix u → H a = some u → H' a = some u := fun a u f e => x.keep a _ e (s.notFix e f)
theorem Sim.relD (s : Sim G ρ st H) (x : Ext ρ H ρ' H') {d : D} {v : V} (h : RelD G ρ H d v) : RelD G ρ' H' d v := RelD.mono x.pre (s.tups x) d v h
theorem Sim.relDs (s : Sim G ρ st H) (x : Ext ρ H ρ' H') {d : List D} {v : List V} (h : RelDs G ρ H d v) : RelDs G ρ' H' d v := RelDs.mono x.pre (s.tups x) d v h
theorem Sim.relEnv (s : Sim G ρ st H) (x : Ext ρ H ρ' H') {env : Env} {σ : L2.St} (h : RelEnv G ρ H env σ) : RelEnv G ρ' H' env σ :=
  ⟨h.1, fun i d e => let ⟨v, e1, r⟩ := h.2 i d e; ⟨v, e1, s.relD x r⟩⟩
theorem RelDs.length : ∀ {ds : List D} {vs : List V}, RelDs G ρ H ds vs → ds.length = vs.length
  | [], vs, h => by
    have e : vs = [] := h
    rw [e]; rfl
  | d :: ds, vs, h => by
    obtain ⟨v, r, e, h1, h2⟩ := h
    rw [e, List.length_cons, List.length_cons, RelDs.length h2]
theorem RelDs.get : ∀ {ds : List D} {vs : List V} {i : Nat} {d : D}, RelDs G ρ H ds vs → ds[i]? = some d → ∃ v, vs[i]? = some v ∧ RelD G ρ H d v
  | [], _, i, d, _, e => by simp at e
  | d :: ds, vs, 0, d', h, e => by
    obtain ⟨v, r, rfl, h1, h2⟩ := h
    simp at e; subst e
    exact ⟨v, rfl, h1⟩
  | d :: ds, vs, i + 1, d', h, e => by
    obtain ⟨v, r, rfl, h1, h2⟩ := h
    obtain ⟨v', e1, r1⟩ := RelDs.get (i := i) h2 (by simpa using e)
    exact ⟨v', by simpa using e1, r1⟩
theorem RelDs.append : ∀ {ds es : List D} {vs us : List V}, RelDs G ρ H ds vs → RelDs G ρ H es us → RelDs G ρ H (ds ++ es) (vs ++ us)
  | [], _, _, _, h, h' => by rw [show _ = [] from h]; exact h'
  | d :: ds, es, vs, us, h, h' => by
    obtain ⟨v, r, rfl, h1, h2⟩ := h
    exact ⟨v, r ++ us, rfl, h1, RelDs.append h2 h'⟩
theorem RelDs.of_get : ∀ {ds : List D} {vs : List V}, ds.length = vs.length → (∀ (i : Nat) d v, ds[i]? = some d → vs[i]? = some v → RelD G ρ H d v) → RelDs G ρ H ds vs
  | [], [], _, _ => rfl
  | [], _ :: _, h, _ => by simp at h
  | _ :: _, [], h, _ => by simp at h
  | d :: ds, v :: vs, h, q => ⟨v, vs, rfl, q 0 d v rfl rfl, RelDs.of_get (by simpa using h) fun i d' v' e1 e2 => q (i + 1) d' v' (by simpa using e1) (by simpa using e2)⟩
theorem RelDs.one {d : D} {v : V} (h : RelD G ρ H d v) : RelDs G ρ H [d] [v] := ⟨v, [], rfl, h, rfl⟩
theorem RelDs.two {d e : D} {v u : V} (h : RelD G ρ H d v) (h' : RelD G ρ H e u) : RelDs G ρ H [d, e] [v, u] := ⟨v, [u], rfl, h, .one h'⟩
end

/-! ### the store's steps -/
section
variable {G : Wd} {ρ ρ' : List Addr} {H H' : Hp} {st st' : Sto}
theorem Sim.dom (s : Sim G ρ st H) {a : Addr} (h : a ∈ ρ) : ∃ o, H a = some o := by
  obtain ⟨i, hi, e⟩ := List.getElem_of_mem h
  have hi' : i < st.length := by rw [← s.len]; exact hi
  obtain ⟨ho, e1, _⟩ := s.ok i a st[i] (by rw [List.getElem?_eq_getElem hi, e]) (List.getElem?_eq_getElem hi')
  exact ⟨ho, e1⟩
theorem Sim.at (s : Sim G ρ st H) {i : Nat} {o : O} (h : st[i]? = some o) : ∃ a ho, ρ[i]? = some a ∧ H a = some ho ∧ RelO G ρ H o ho := by
  have hi : i < ρ.length := by rw [s.len]; exact (List.getElem?_eq_some_iff.mp h).1
  obtain ⟨ho, e, r⟩ := s.ok i ρ[i] o (List.getElem?_eq_getElem hi) h
  exact ⟨ρ[i], ho, List.getElem?_eq_getElem hi, e, r⟩
/-- an object that is not of the store is laid -/
theorem Ext.laid {p : Addr} {ho : HO} (h : H p = none) : Ext ρ H ρ (upd H p ho) :=
  ⟨List.prefix_refl _, fun _ h n => absurd h n, fun b o e _ => by rw [upd_ne (ne_of_none e h)]; exact e, fun b e => by
    unfold upd at e
    split at e
    · cases e
    · exact e⟩
theorem Sim.laid (s : Sim G ρ st H) {p : Addr} {ho : HO} (h : H p = none) : Sim G ρ st (upd H p ho) :=
  ⟨s.len, s.nd, fun i a o e1 e2 => by
    obtain ⟨ho', e, r⟩ := s.ok i a o e1 e2
    exact ⟨ho', by rw [upd_ne (ne_of_none e h)]; exact e, RelO.mono (Ext.laid (ho := ho) h).pre (s.tups (Ext.laid h)) _ _ r⟩⟩
/-- a new object of the store -/
theorem Ext.alloc {p : Addr} {ho : HO} (h : H p = none) : Ext ρ H (ρ ++ [p]) (upd H p ho) :=
  ⟨List.prefix_append _ _, fun q hq hn => by
    rcases List.mem_append.mp hq with z | z
    · exact absurd z hn
    · rw [List.mem_singleton.mp z]; exact h, fun b o e _ => by rw [upd_ne (ne_of_none e h)]; exact e, fun b e => by
    unfold upd at e
    split at e
    · cases e
    · exact e⟩
theorem Sim.alloc (s : Sim G ρ st H) {p : Addr} {o : O} {ho : HO} (h : H p = none) (r : RelO G ρ H o ho) : Sim G (ρ ++ [p]) (st ++ [o]) (upd H p ho) := by
  have np : p ∉ ρ := fun z => by obtain ⟨o, e⟩ := s.dom z; rw [h] at e; cases e
  refine ⟨by simp [s.len], ?_, fun i a o' e1 e2 => ?_⟩
  · rw [List.nodup_append]
    exact ⟨s.nd, by simp, fun a ha b hb e => np (by rw [← List.mem_singleton.mp hb, ← e]; exact ha)⟩
  · by_cases hi : i < st.length
    · have hi' : i < ρ.length := by rw [s.len]; exact hi
      rw [List.getElem?_append_left hi] at e2
      rw [List.getElem?_append_left hi'] at e1
      obtain ⟨ho', e, r'⟩ := s.ok i a o' e1 e2
      exact ⟨ho', by rw [upd_ne (ne_of_none e h)]; exact e, RelO.mono (Ext.alloc (ho := ho) h).pre (s.tups (Ext.alloc h)) _ _ r'⟩
    · have hi2 : i = st.length := by
        have := (List.getElem?_eq_some_iff.mp e2).1
        simp at this; omega
      subst hi2
      rw [List.getElem?_append_right (Nat.le_refl _)] at e2
      rw [← s.len, List.getElem?_append_right (Nat.le_refl _)] at e1
      simp at e1 e2
      subst e1; subst e2
      exact ⟨ho, upd_same, RelO.mono (Ext.alloc (ho := ho) h).pre (s.tups (Ext.alloc h)) _ _ r⟩
theorem alloc_get {p : Addr} {n : Nat} (h : ρ.length = n) : (ρ ++ [p])[n]? = some p := by
  subst h
  rw [List.getElem?_append_right (Nat.le_refl _)]; simp
/-- an object of the store is written -/
theorem Ext.write {a : Addr} {ho : HO} (ha : a ∈ ρ) (s : Sim G ρ st H) : Ext ρ H ρ (upd H a ho) :=
  ⟨List.prefix_refl _, fun _ h n => absurd h n, fun b o e n => by rw [upd_ne (fun z => n (by rw [z]; exact ha))]; exact e, fun b e => by
    unfold upd at e
    split at e
    · cases e
    · exact e⟩
theorem Sim.write (s : Sim G ρ st H) {i : Nat} {a : Addr} {o : O} {ho : HO} (e : ρ[i]? = some a) (r : RelO G ρ H o ho) : Sim G ρ (st.set i o) (upd H a ho) := by
  have ha : a ∈ ρ := List.mem_of_getElem? e
  refine ⟨by simp [s.len], s.nd, fun j b o' e1 e2 => ?_⟩
  by_cases hj : j = i
  · subst hj
    rw [e] at e1; cases e1
    have hl : j < st.length := by rw [← s.len]; exact (List.getElem?_eq_some_iff.mp e).1
    rw [List.getElem?_set_self hl] at e2
    cases e2
    exact ⟨ho, upd_same, RelO.mono (Ext.write (ho := ho) ha s).pre (s.tups (Ext.write ha s)) _ _ r⟩
  · rw [List.getElem?_set_ne (Ne.symm hj)] at e2
    obtain ⟨ho', e3, r'⟩ := s.ok j b o' e1 e2
    have nb : b ≠ a := fun z => by
      subst z
      obtain ⟨h1, q1⟩ := List.getElem?_eq_some_iff.mp e1
      obtain ⟨h2, q2⟩ := List.getElem?_eq_some_iff.mp e
      exact hj ((List.getElem_inj s.nd).mp (q1.trans q2.symm))
    exact ⟨ho', by rw [upd_ne nb]; exact e3, RelO.mono (Ext.write (ho := ho) ha s).pre (s.tups (Ext.write ha s)) _ _ r'⟩
end

/-! an object that is not of the store (and no tuple) is changed -/
section
variable {G : Wd} {ρ ρ1 : List Addr} {H H1 : Hp} {st : Sto}
theorem Sim.other (s : Sim G ρ st H) {a : Addr} {o ho : HO} (e : H a = some o) (nt : ¬ Fix o) (n : a ∉ ρ) : Sim G ρ st (upd H a ho) :=
  ⟨s.len, s.nd, fun i b o' e1 e2 => by
    obtain ⟨ho', e3, r⟩ := s.ok i b o' e1 e2
    have nb : b ≠ a := fun z => n (by rw [← z]; exact List.mem_of_getElem? e1)
    exact ⟨ho', by rw [upd_ne nb]; exact e3, RelO.mono (List.prefix_refl _) (fun c u f q => by rw [upd_ne (fun z => nt (by rw [z, e] at q; rw [Option.some.inj q]; exact f))]; exact q) _ _ r⟩⟩
theorem Ext.other (x : Ext ρ H ρ1 H1) {a : Addr} {ho : HO} (n : H a = none) : Ext ρ H ρ1 (upd H1 a ho) :=
  ⟨x.pre, x.new, fun b o e hn => by rw [upd_ne (ne_of_none e n)]; exact x.keep b o e hn, fun b e => by
    unfold upd at e
    split at e
    · cases e
    · exact x.dom b e⟩
/-- an object that was not of the store becomes one -/
theorem Sim.adopt (s : Sim G ρ st H) {a : Addr} {o : O} {ho : HO} (e : H a = some ho) (n : a ∉ ρ) (r : RelO G ρ H o ho) : Sim G (ρ ++ [a]) (st ++ [o]) H := by
  refine ⟨by simp [s.len], ?_, fun i b o' e1 e2 => ?_⟩
  · rw [List.nodup_append]
    exact ⟨s.nd, by simp, fun c hc b hb q => n (by rw [← List.mem_singleton.mp hb, ← q]; exact hc)⟩
  · by_cases hi : i < st.length
    · have hi' : i < ρ.length := by rw [s.len]; exact hi
      rw [List.getElem?_append_left hi] at e2
      rw [List.getElem?_append_left hi'] at e1
      obtain ⟨ho', e3, r'⟩ := s.ok i b o' e1 e2
      exact ⟨ho', e3, RelO.mono (List.prefix_append _ _) (fun _ _ _ q => q) _ _ r'⟩
    · have hi2 : i = st.length := by
        have := (List.getElem?_eq_some_iff.mp e2).1
        simp at this; omega
      subst hi2
      rw [List.getElem?_append_right (Nat.le_refl _)] at e2
      rw [← s.len, List.getElem?_append_right (Nat.le_refl _)] at e1
      simp at e1 e2
      subst e1; subst e2
      exact ⟨ho, e, RelO.mono (List.prefix_append _ _) (fun _ _ _ q => q) _ _ r⟩
theorem Ext.adopt (x : Ext ρ H ρ1 H1) {a : Addr} (n : H a = none) : Ext ρ H (ρ1 ++ [a]) H1 :=
  ⟨x.pre.trans (List.prefix_append _ _), fun p hp hn => by
    rcases List.mem_append.mp hp with z | z
    · exact x.new p z hn
    · rw [List.mem_singleton.mp z]; exact n, x.keep, x.dom⟩
end

/-! ### readings by computations -/
section
variable (G : Wd)
def PostV (ρ : List Addr) (H : Hp) (st' : Sto) (d : D) (Q : VK) : Prop := ∀ ρ' v H', Ext ρ H ρ' H' → Sim G ρ' st' H' → RelD G ρ' H' d v → Q v H'
def PostX (ρ : List Addr) (H : Hp) (st' : Sto) (c : Nat) (d : D) (E : XK) : Prop :=
  ∀ ρ' v dd H', Ext ρ H ρ' H' → Sim G ρ' st' H' → RelD G ρ' H' d v → H' dd = some (.xd [(G.cf c, v)]) → E (.ref (G.ca c)) (some dd) H'
/-- a result: what holds of its ends -/
def Post {α : Type} (E : XK) (ρ : List Addr) (H : Hp) (P : α → Sto → Prop) : Res α → Prop
  | .ok a st' => P a st'
  | .ex c d st' => PostX G ρ H st' c d E
  | .bad => False
def dE (E : XK) (m : Env → M D) : TE := fun σ H Q => ∃ ρ st env, Sim G ρ st H ∧ RelEnv G ρ H env σ ∧ Post G E ρ H (fun d st' => PostV G ρ H st' d Q) (m env st)
def dT (E : XK) (m : Env → M Bool) : TT := fun σ H Q => ∃ ρ st env, Sim G ρ st H ∧ RelEnv G ρ H env σ ∧
  Post G E ρ H (fun b st' => ∀ ρ' H', Ext ρ H ρ' H' → Sim G ρ' st' H' → Q b H') (m env st)
def dA (E : XK) (m : Env → M (List D)) : TA := fun σ H Q => ∃ ρ st env, Sim G ρ st H ∧ RelEnv G ρ H env σ ∧
  Post G E ρ H (fun ds st' => ∀ ρ' vs H', Ext ρ H ρ' H' → Sim G ρ' st' H' → RelDs G ρ' H' ds vs → Q vs H') (m env st)
/-- a statement's ends -/
inductive Fl where
  | nx (env : Env) | ret (d : D) | brk (env : Env) | ct (env : Env)
def PostF (ρ : List Addr) (H : Hp) (Dn : Ends) (fl : Fl) (st' : Sto) : Prop := match fl with
  | .nx env => ∀ ρ' σ' H', Ext ρ H ρ' H' → Sim G ρ' st' H' → RelEnv G ρ' H' env σ' → Dn.nx σ' H'
  | .brk env => ∀ ρ' σ' H', Ext ρ H ρ' H' → Sim G ρ' st' H' → RelEnv G ρ' H' env σ' → Dn.bk σ' H'
  | .ct env => ∀ ρ' σ' H', Ext ρ H ρ' H' → Sim G ρ' st' H' → RelEnv G ρ' H' env σ' → Dn.ct σ' H'
  | .ret d => PostV G ρ H st' d Dn.rt
def dS (E : XK) (m : Env → M Fl) : TS := fun Dn σ H => ∃ ρ st env, Sim G ρ st H ∧ RelEnv G ρ H env σ ∧ Post G E ρ H (fun fl st' => PostF G ρ H Dn fl st') (m env st)
/-- a def's promise -/
def dF (n : Nat) (f : List D → M D) : Sp := fun vs H Q E => vs.length = n ∧ ∃ ρ st ds, Sim G ρ st H ∧ RelDs G ρ H ds vs ∧ Post G E ρ H (fun d st' => PostV G ρ H st' d Q) (f ds st)
end

section
variable {G : Wd} {E : XK} {ρ ρ' : List Addr} {H H' : Hp} {st st' : Sto}
theorem PostX.of (x : Ext ρ H ρ' H') {c : Nat} {d : D} (h : PostX G ρ H st' c d E) : PostX G ρ' H' st' c d E := fun ρ2 v dd H2 x2 s2 r hd => h ρ2 v dd H2 (x.trans x2) s2 r hd
theorem PostV.of (x : Ext ρ H ρ' H') {d : D} {Q : VK} (h : PostV G ρ H st' d Q) : PostV G ρ' H' st' d Q := fun ρ2 v H2 x2 s2 r => h ρ2 v H2 (x.trans x2) s2 r
theorem PostF.of (x : Ext ρ H ρ' H') {Dn : Ends} {fl : Fl} (h : PostF G ρ H Dn fl st') : PostF G ρ' H' Dn fl st' := by
  cases fl with
  | nx env => exact fun ρ2 σ2 H2 x2 => h ρ2 σ2 H2 (x.trans x2)
  | brk env => exact fun ρ2 σ2 H2 x2 => h ρ2 σ2 H2 (x.trans x2)
  | ct env => exact fun ρ2 σ2 H2 x2 => h ρ2 σ2 H2 (x.trans x2)
  | ret d => exact PostV.of x h
theorem Post.bind {α β : Type} {P : β → Sto → Prop} {r : Res α} {f : α → M β} (h : Post G E ρ H P (r.bind f)) : Post G E ρ H (fun a st' => Post G E ρ H P (f a st')) r := by
  cases r with
  | ok a st' => exact h
  | ex c d st' => exact h
  | bad => exact h
theorem Post.imp {α : Type} {P P' : α → Sto → Prop} {r : Res α} (h : Post G E ρ H P r) (i : ∀ a st', P a st' → P' a st') : Post G E ρ H P' r := by
  cases r with
  | ok a st' => exact i a st' h
  | ex c d st' => exact h
  | bad => exact h
/-- the same result, further on -/
theorem Post.on {α : Type} {P P' : α → Sto → Prop} {r : Res α} (x : Ext ρ H ρ' H') (h : Post G E ρ H P r) (i : ∀ a st', P a st' → P' a st') : Post G E ρ' H' P' r := by
  cases r with
  | ok a st' => exact i a st' h
  | ex c d st' => exact PostX.of x h
  | bad => exact h
end
end MM

/-! The rules: an expression's, a statement's computation. -/
namespace MM
open PySem PySem.Spec PyProof.Rows L2

def lim : Nat := 16777216
theorem lim_eq : sizeLine = lim := sizeLine_eq

/-! ### computations over the slots -/
def eC (d : D) : Env → M D := fun _ => M.ret d
def eVar (i : Nat) : Env → M D := fun env st => match env[i]? with
  | some (some d) => .ok d st
  | _ => .bad
def eUn (f : D → M D) (a : Env → M D) : Env → M D := fun env st => (a env st).bind f
def eBin (f : D → D → M D) (a b : Env → M D) : Env → M D := fun env st => (a env st).bind fun x st => (b env st).bind fun y => f x y
def aNil : Env → M (List D) := fun _ => M.ret []
def aCons (a : Env → M D) (r : Env → M (List D)) : Env → M (List D) := fun env st => (a env st).bind fun x st => (r env st).bind fun xs => M.ret (x :: xs)
def eArgs (f : List D → M D) (a : Env → M (List D)) : Env → M D := fun env st => (a env st).bind f
/-- a test of a value that is True or False -/
def tVal (a : Env → M D) : Env → M Bool := fun env st => (a env st).bind fun x => match x with
  | .bl b => M.ret b
  | _ => M.bad
def tNot (t : Env → M Bool) : Env → M Bool := fun env st => (t env st).bind fun b => M.ret (!b)
def tAnd (t u : Env → M Bool) : Env → M Bool := fun env st => (t env st).bind fun b st => if b then u env st else .ok false st
def tOr (t u : Env → M Bool) : Env → M Bool := fun env st => (t env st).bind fun b st => if b then .ok true st else u env st
def eIf (t : Env → M Bool) (a b : Env → M D) : Env → M D := fun env st => (t env st).bind fun c st => if c then a env st else b env st
/-- and, or, not as values: all but the last are True or False -/
def eAnd (a b : Env → M D) : Env → M D := fun env st => (a env st).bind fun x st => match x with
  | .bl true => b env st
  | .bl false => .ok (.bl false) st
  | _ => .bad
def eOr (a b : Env → M D) : Env → M D := fun env st => (a env st).bind fun x st => match x with
  | .bl false => b env st
  | .bl true => .ok (.bl true) st
  | _ => .bad
def eNot (a : Env → M D) : Env → M D := fun env st => (a env st).bind fun x => match x with
  | .bl b => M.ret (.bl (!b))
  | _ => M.bad
/-- a < b < c -/
def eChain (f g : D → D → M D) (a b c : Env → M D) : Env → M D := fun env st => (a env st).bind fun x st => (b env st).bind fun y st => (f x y st).bind fun k st => match k with
  | .bl true => (c env st).bind fun z => g y z
  | .bl false => .ok (.bl false) st
  | _ => .bad
/-- new objects -/
def mkTup (ds : List D) : M D := fun st => if ds.length ≤ lim then .ok (.tup ds) st else .bad
def mkLst (ds : List D) : M D := fun st => if ds.length ≤ lim then .ok (.ref st.length) (st ++ [.lst ds]) else .bad

/-! ### readings by values -/
section
variable (G : Wd) (E : XK)
def dU (f : D → M D) : V → Hp → VK → Prop := fun x H Q => ∃ ρ st d, Sim G ρ st H ∧ RelD G ρ H d x ∧ Post G E ρ H (fun d st' => PostV G ρ H st' d Q) (f d st)
def dO (f : D → D → M D) : R2 := fun x y H Q => ∃ ρ st d e, Sim G ρ st H ∧ RelD G ρ H d x ∧ RelD G ρ H e y ∧ Post G E ρ H (fun d st' => PostV G ρ H st' d Q) (f d e st)
def dC (f : List D → M D) : List V → Hp → VK → Prop := fun vs H Q => ∃ ρ st ds, Sim G ρ st H ∧ RelDs G ρ H ds vs ∧ Post G E ρ H (fun d st' => PostV G ρ H st' d Q) (f ds st)
end
section
variable {G : Wd} {E : XK} {ρ ρ' : List Addr} {H H' : Hp} {st st' : Sto} {Q : VK} {σ : L2.St} {env : Env}
theorem PostV.here {d : D} {v : V} (h : PostV G ρ H st d Q) (s : Sim G ρ st H) (r : RelD G ρ H d v) : Q v H := h ρ v H (Ext.refl _ _) s r
theorem PostV.alloc {o : O} {ho : HO} {p : Addr} (h : PostV G ρ H (st ++ [o]) (.ref st.length) Q) (s : Sim G ρ st H) (r : RelO G ρ H o ho) (hp : H p = none) : Q (.ref p) (upd H p ho) :=
  h (ρ ++ [p]) (.ref p) _ (Ext.alloc hp) (s.alloc hp r) ⟨p, alloc_get s.len, rfl⟩
theorem PostV.tup {ds : List D} {vs : List V} {p : Addr} (h : PostV G ρ H st (.tup ds) Q) (s : Sim G ρ st H) (r : RelDs G ρ H ds vs) (hp : H p = none) : Q (.ref p) (upd H p (.tup vs)) :=
  h ρ (.ref p) _ (Ext.laid hp) (s.laid hp) ⟨p, vs, rfl, upd_same, s.relDs (Ext.laid hp) r⟩
theorem PostV.write {i : Nat} {a : Addr} {o : O} {ho : HO} {d : D} {v : V} (h : PostV G ρ H (st.set i o) d Q) (s : Sim G ρ st H) (e : ρ[i]? = some a) (r : RelO G ρ H o ho) (rd : RelD G ρ H d v) : Q v (upd H a ho) :=
  h ρ v _ (Ext.write (List.mem_of_getElem? e) s) (s.write e r) (s.relD (Ext.write (List.mem_of_getElem? e) s) rd)

theorem Post.onV {r : Res D} (x : Ext ρ H ρ' H') (h : Post G E ρ H (fun d st' => PostV G ρ H st' d Q) r) : Post G E ρ' H' (fun d st' => PostV G ρ' H' st' d Q) r := h.on x fun _ _ z => z.of x
/-! #### one after another -/
theorem dE_bind {m : Env → M D} {k : Env → D → M D} (h : dE G E (fun env st => (m env st).bind (k env)) σ H Q) :
    dE G E m σ H fun x H1 => ∃ ρ st env d, Sim G ρ st H1 ∧ RelEnv G ρ H1 env σ ∧ RelD G ρ H1 d x ∧ Post G E ρ H1 (fun d st' => PostV G ρ H1 st' d Q) (k env d st) := by
  obtain ⟨ρ, st, env, s, re, p⟩ := h
  refine ⟨ρ, st, env, s, re, p.bind.imp fun d st' q ρ' v H' x s' r => ⟨ρ', st', env, d, s', s.relEnv x re, r, q.on x fun a st2 z => z.of x⟩⟩
theorem dE_of {m : Env → M D} {Q' : VK} (h : dE G E m σ H Q) (i : ∀ v H, Q v H → Q' v H) : dE G E m σ H Q' := by
  obtain ⟨ρ, st, env, s, re, p⟩ := h
  exact ⟨ρ, st, env, s, re, p.imp fun d st' q ρ' v H' x s' r => i _ _ (q ρ' v H' x s' r)⟩
theorem dE_at (s : Sim G ρ st H) (re : RelEnv G ρ H env σ) {m : Env → M D} (p : Post G E ρ H (fun d st' => PostV G ρ H st' d Q) (m env st)) : dE G E m σ H Q := ⟨ρ, st, env, s, re, p⟩
theorem dE_bin {f : D → D → M D} {a b : Env → M D} (h : dE G E (eBin f a b) σ H Q) : dE G E a σ H fun x H1 => dE G E b σ H1 fun y H2 => dO G E f x y H2 Q := by
  refine dE_of (dE_bind h) fun x H1 ⟨ρ, st, env, d, s, re, r, p⟩ => ?_
  refine dE_at s re (p.bind.imp fun e st' q ρ' v H' x' s' r' => ?_)
  exact ⟨ρ', st', d, e, s', s.relD x' r, r', q.on x' fun _ _ z => z.of x'⟩
theorem dE_un {f : D → M D} {a : Env → M D} (h : dE G E (eUn f a) σ H Q) : dE G E a σ H fun x H1 => dU G E f x H1 Q :=
  dE_of (dE_bind (k := fun _ => f) h) fun x H1 ⟨ρ, st, env, d, s, re, r, p⟩ => ⟨ρ, st, d, s, r, p⟩
theorem dE_args {f : List D → M D} {a : Env → M (List D)} (h : dE G E (eArgs f a) σ H Q) : dA G E a σ H fun vs H1 => dC G E f vs H1 Q := by
  obtain ⟨ρ, st, env, s, re, p⟩ := h
  refine ⟨ρ, st, env, s, re, p.bind.imp fun ds st' q ρ' vs H' x s' r => ⟨ρ', st', ds, s', r, q.on x fun _ _ z => z.of x⟩⟩
end

/-! ### the rules of expressions -/
section
variable {X : Cx} {G : Wd} {E : XK} {a b c e : Expr} {ma mb mc : Env → M D} {pos : Pos}
theorem _root_.L2.PE.imp {e : Expr} {t t' : TE} (h : PE X e t) (i : ∀ σ H Q, t' σ H Q → t σ H Q) : PE X e t' := ⟨fun pins s σ H Q I q => h.run pins s σ H Q I (i _ _ _ q)⟩
theorem _root_.L2.PT.imp {e : Expr} {t t' : TT} (h : PT X e t) (i : ∀ σ H Q, t' σ H Q → t σ H Q) : PT X e t' := ⟨fun pins s σ H Q I q => h.run pins s σ H Q I (i _ _ _ q)⟩
theorem _root_.L2.PW.imp {e : Expr} {t t' : TT} (h : PW X e t) (i : ∀ σ H Q, t' σ H Q → t σ H Q) : PW X e t' := ⟨fun w pins s σ H Q I q => h.run w pins s σ H Q I (i _ _ _ q)⟩
theorem _root_.L2.PA.imp {e : List Expr} {t t' : TA} (h : PA X e t) (i : ∀ σ H Q, t' σ H Q → t σ H Q) : PA X e t' := ⟨fun p pins s σ H Q I q => h.run p pins s σ H Q I (i _ _ _ q)⟩
theorem _root_.L2.PS.imp {e : Stmt} {t t' : TS} (h : PS X e t) (i : ∀ D σ H, t' D σ H → t D σ H) : PS X e t' := ⟨fun pins s σ H D I q => h.run pins s σ H D I (i _ _ _ q)⟩
theorem _root_.L2.PSs.imp {e : List Stmt} {t t' : TS} (h : PSs X e t) (i : ∀ D σ H, t' D σ H → t D σ H) : PSs X e t' := ⟨fun pins s σ H D I q => h.run pins s σ H D I (i _ _ _ q)⟩
theorem _root_.L2.OpR.imp {f : Value → Value → Sem Value} {r r' : R2} (h : OpR X f r) (i : ∀ x y H Q, r' x y H Q → r x y H Q) : OpR X f r' := fun pins s σ H x y v u Q I r1 r2 q => h pins s σ H x y v u Q I r1 r2 (i _ _ _ _ q)
theorem _root_.L2.UnR.imp {f : Value → Sem Value} {r r' : V → Hp → VK → Prop} (h : UnR X f r) (i : ∀ x H Q, r' x H Q → r x H Q) : UnR X f r' := fun pins s σ H x v Q I r1 q => h pins s σ H x v Q I r1 (i _ _ _ q)
theorem _root_.L2.CallR.imp {f : Value} {r r' : List V → Hp → VK → Prop} (h : CallR X f r) (i : ∀ x H Q, r' x H Q → r x H Q) : CallR X f r' := fun pins s σ H x v Q I r1 q => h pins s σ H x v Q I r1 (i _ _ _ q)


/-- a name of the def -/
theorem r_var {i : Nat} {x : Str} (hN : X.N[i]? = some x := by rfl) (hv : Vis X.env.scope x := by first | exact Or.inl rfl | exact Or.inr (Or.inl rfl) | exact Or.inr (Or.inr rfl)) (hd : (x == ("__debug__" : Str)) = false := by decide)
    (hcd : (x == ("__classdict__" : Str)) = false := by decide) : PE X (.Name x pos) (dE G E (eVar i)) :=
  (pe_var hN hv hd hcd).imp fun σ H Q ⟨ρ, st, env, s, re, p⟩ => by
    unfold eVar at p
    split at p
    · rename_i d e
      obtain ⟨v, e1, r⟩ := re.2 i d e
      exact ⟨v, e1, PostV.here p s r⟩
    · exact p.elim
theorem r_c {d : D} {v : V} (h : PE X e (L2.tC v)) (r : ∀ ρ H, RelD G ρ H d v) : PE X e (dE G E (eC d)) := h.imp fun σ H Q ⟨ρ, st, env, s, re, p⟩ => PostV.here p s (r ρ H)
theorem r_int {i : Int} {j} : PE X (.Constant (.int i) j pos) (dE G E (eC (.int i))) := r_c pe_int fun _ _ => by simp only [RelD]
theorem r_bl {b : Bool} {j} : PE X (.Constant (.bool b) j pos) (dE G E (eC (.bl b))) := r_c pe_bl fun _ _ => by simp only [RelD]
theorem r_non {j} : PE X (.Constant .none j pos) (dE G E (eC .non)) := r_c pe_non fun _ _ => by simp only [RelD]
theorem r_str {x : Str} {s : List Nat} {j} (hx : x = ⟨s.toArray⟩ := by decide +kernel) : PE X (.Constant (.str x) j pos) (dE G E (eC (.str s))) := r_c pe_str fun _ _ => by simp only [RelD, hx]
theorem r_bin {op : Operator} {f : D → D → M D} (ho : OpR X (binaryOp op) (dO G E f)) (ha : PE X a (dE G E ma)) (hb : PE X b (dE G E mb)) : PE X (.BinOp a op b pos) (dE G E (eBin f ma mb)) :=
  (pe_op ho ha hb).imp fun σ H Q h => dE_bin h
theorem r_un {op : UnaryOp} {f : D → M D} (ho : UnR X (unaryOp op) (dU G E f)) (ha : PE X a (dE G E ma)) : PE X (.UnaryOp op a pos) (dE G E (eUn f ma)) :=
  (pe_un ho ha).imp fun σ H Q h => dE_un h
theorem r_cmp {op : CmpOp} {f : D → D → M D} (ho : OpR X (compareOp op) (dO G E f)) (ha : PE X a (dE G E ma)) (hb : PE X b (dE G E mb)) (hm : behindInMarks op b = false) : PE X (.Compare a [op] [b] pos) (dE G E (eBin f ma mb)) :=
  (pe_cmpR ho ha hb hm).imp fun σ H Q h => dE_bin h
/-! tests -/
theorem dT_val {m : Env → M D} {σ : L2.St} {H : Hp} {Q : Bool → Hp → Prop} (h : dT G E (tVal m) σ H Q) : dE G E m σ H fun x H1 => ∃ k, x = .bl k ∧ Q k H1 := by
  obtain ⟨ρ, st, env, s, re, p⟩ := h
  refine ⟨ρ, st, env, s, re, p.bind.imp fun d st' q ρ' v H' x s' r => ?_⟩
  cases d with
  | bl b =>
    have e : v = .bl b := by simpa only [RelD] using r
    exact ⟨b, e, q ρ' H' x s'⟩
  | _ => exact q.elim
theorem r_tcmp {op : CmpOp} {f : D → D → M D} (ho : OpR X (compareOp op) (dO G E f)) (ha : PE X a (dE G E ma)) (hb : PE X b (dE G E mb)) (hm : behindInMarks op b = false) : PT X (.Compare a [op] [b] pos) (dT G E (tVal (eBin f ma mb))) :=
  (pt_cmpR ho ha hb hm).imp fun σ H Q h => dE_bin (dT_val h)
theorem r_tval {e : Expr} {m : Env → M D} (h : PE X e (dE G E m)) (he : ∀ whole, isTrue e X.env whole = (do let v ← whole; standAt e.pos; holding [v] (truthy v)) := by intro _; rfl) : PT X e (dT G E (tVal m)) :=
  (pt_val h he).imp fun σ H Q h => dT_val h
variable {t u : Env → M Bool} {rest : List Expr}
theorem dT_bind {α : Type} {m : Env → M Bool} {k : Env → Bool → M α} {P : List Addr → Hp → α → Sto → Prop} {σ : L2.St} {H : Hp} {ρ : List Addr} {st : Sto} {env : Env} (s : Sim G ρ st H) (re : RelEnv G ρ H env σ)
    (hP : ∀ ρ' H' a st', Ext ρ H ρ' H' → P ρ H a st' → P ρ' H' a st')
    (p : Post G E ρ H (fun a st' => P ρ H a st') ((m env st).bind (k env))) :
    dT G E m σ H fun b H1 => ∃ ρ st env, Sim G ρ st H1 ∧ RelEnv G ρ H1 env σ ∧ Post G E ρ H1 (fun a st' => P ρ H1 a st') (k env b st) :=
  ⟨ρ, st, env, s, re, p.bind.imp fun b st' q ρ' H' x s' => ⟨ρ', st', env, s', s.relEnv x re, q.on x fun a st2 z => hP _ _ _ _ x z⟩⟩
abbrev PostB (G : Wd) (ρ : List Addr) (H : Hp) (st' : Sto) (b : Bool) (Q : Bool → Hp → Prop) : Prop := ∀ ρ' H', Ext ρ H ρ' H' → Sim G ρ' st' H' → Q b H'
theorem dT_of {m : Env → M Bool} {σ : L2.St} {H : Hp} {Q Q' : Bool → Hp → Prop} (h : dT G E m σ H Q) (i : ∀ b H, Q b H → Q' b H) : dT G E m σ H Q' := by
  obtain ⟨ρ, st, env, s, re, p⟩ := h
  exact ⟨ρ, st, env, s, re, p.imp fun d st' q ρ' H' x s' => i _ _ (q ρ' H' x s')⟩
theorem r_tnot (ha : PT X a (dT G E t)) : PT X (.UnaryOp .Not a pos) (dT G E (tNot t)) := (pt_not ha).imp fun σ H Q ⟨ρ, st, env, s, re, p⟩ =>
  dT_of (dT_bind (k := fun _ b => M.ret (!b)) (P := fun ρ H b st' => PostB G ρ H st' b Q) s re (fun ρ' H' b st' x h ρ2 H2 x2 => h ρ2 H2 (x.trans x2)) p) fun b H1 ⟨ρ1, st1, env1, s1, re1, p1⟩ => p1 ρ1 H1 (Ext.refl _ _) s1
theorem r_tand1 (ha : PT X a (dT G E t)) : PW X (.BoolOp .And [a] pos) (dT G E t) := pw_and1 ha
theorem r_tor1 (ha : PT X a (dT G E t)) : PW X (.BoolOp .Or [a] pos) (dT G E t) := pw_or1 ha
theorem r_tand (ha : PT X a (dT G E t)) (hb : PW X (.BoolOp .And (b :: rest) pos) (dT G E u)) : PW X (.BoolOp .And (a :: b :: rest) pos) (dT G E (tAnd t u)) :=
  (pw_and ha hb).imp fun σ H Q ⟨ρ, st, env, s, re, p⟩ => by
    refine dT_of (dT_bind (k := fun env b st => if b then u env st else .ok false st) (P := fun ρ H b st' => PostB G ρ H st' b Q) s re (fun ρ' H' b st' x h ρ2 H2 x2 => h ρ2 H2 (x.trans x2)) p) fun b H1 ⟨ρ1, st1, env1, s1, re1, p1⟩ => ?_
    cases b with
    | true => exact ⟨ρ1, st1, env1, s1, re1, p1⟩
    | false => exact p1 ρ1 H1 (Ext.refl _ _) s1
theorem r_tor (ha : PT X a (dT G E t)) (hb : PW X (.BoolOp .Or (b :: rest) pos) (dT G E u)) : PW X (.BoolOp .Or (a :: b :: rest) pos) (dT G E (tOr t u)) :=
  (pw_or ha hb).imp fun σ H Q ⟨ρ, st, env, s, re, p⟩ => by
    refine dT_of (dT_bind (k := fun env b st => if b then .ok true st else u env st) (P := fun ρ H b st' => PostB G ρ H st' b Q) s re (fun ρ' H' b st' x h ρ2 H2 x2 => h ρ2 H2 (x.trans x2)) p) fun b H1 ⟨ρ1, st1, env1, s1, re1, p1⟩ => ?_
    cases b with
    | false => exact ⟨ρ1, st1, env1, s1, re1, p1⟩
    | true => exact p1 ρ1 H1 (Ext.refl _ _) s1
theorem r_if (hc : PT X c (dT G E t)) (ha : PE X a (dE G E ma)) (hb : PE X b (dE G E mb)) : PE X (.IfExp c a b pos) (dE G E (eIf t ma mb)) :=
  (pe_ifExp hc ha hb).imp fun σ H Q ⟨ρ, st, env, s, re, p⟩ => by
    refine dT_of (dT_bind (k := fun env b st => if b then ma env st else mb env st) (P := fun ρ H d st' => PostV G ρ H st' d Q) s re (fun ρ' H' b st' x h => h.of x) p) fun b H1 ⟨ρ1, st1, env1, s1, re1, p1⟩ => ?_
    cases b with
    | true => exact ⟨ρ1, st1, env1, s1, re1, p1⟩
    | false => exact ⟨ρ1, st1, env1, s1, re1, p1⟩
theorem r_one {op} {m : Env → M D} (h : PE X a (dE G E m)) : PE X (.BoolOp op [a] pos) (dE G E m) := pe_one h
theorem r_and (ha : PE X a (dE G E ma)) (hb : PE X (.BoolOp .And (b :: rest) pos) (dE G E mb)) : PE X (.BoolOp .And (a :: b :: rest) pos) (dE G E (eAnd ma mb)) :=
  (pe_and ha hb).imp fun σ H Q h => by
    refine dE_of (dE_bind h) fun x H1 ⟨ρ, st, env, d, s, re, r, p⟩ => ?_
    cases d with
    | bl b =>
      have e : x = .bl b := by simpa only [RelD] using r
      refine ⟨b, e, ?_⟩
      cases b with
      | true => exact ⟨ρ, st, env, s, re, p⟩
      | false => exact PostV.here p s (by simp only [RelD])
    | _ => exact p.elim
theorem r_or (ha : PE X a (dE G E ma)) (hb : PE X (.BoolOp .Or (b :: rest) pos) (dE G E mb)) : PE X (.BoolOp .Or (a :: b :: rest) pos) (dE G E (eOr ma mb)) :=
  (pe_or ha hb).imp fun σ H Q h => by
    refine dE_of (dE_bind h) fun x H1 ⟨ρ, st, env, d, s, re, r, p⟩ => ?_
    cases d with
    | bl b =>
      have e : x = .bl b := by simpa only [RelD] using r
      refine ⟨b, e, ?_⟩
      cases b with
      | false => exact ⟨ρ, st, env, s, re, p⟩
      | true => exact PostV.here p s (by simp only [RelD])
    | _ => exact p.elim
theorem r_not (ha : PE X a (dE G E ma)) : PE X (.UnaryOp .Not a pos) (dE G E (eNot ma)) :=
  (pe_not ha).imp fun σ H Q h => by
    refine dE_of (dE_bind (k := fun _ x => match x with | .bl b => M.ret (.bl (!b)) | _ => M.bad) h) fun x H1 ⟨ρ, st, env, d, s, re, r, p⟩ => ?_
    cases d with
    | bl b =>
      have e : x = .bl b := by simpa only [RelD] using r
      exact ⟨b, e, PostV.here p s (by simp only [RelD])⟩
    | _ => exact p.elim
theorem chain_imp {f g : D → D → M D} {σ : L2.St} {H : Hp} {Q : VK} (h : dE G E (eChain f g ma mb mc) σ H Q) : tChain (dO G E f) (dO G E g) (dE G E ma) (dE G E mb) (dE G E mc) σ H Q := by
  refine dE_of (dE_bind h) fun x H1 ⟨ρ, st, env, d, s, re, r, p⟩ => ?_
  refine ⟨ρ, st, env, s, re, p.bind.imp fun e st' q ρ' y H' x' s' r' => ?_⟩
  refine ⟨ρ', st', d, e, s', s.relD x' r, r', (q.onV x').bind.imp fun k st2 q2 ρ2 z H2 x2 s2 r2 => ?_⟩
  cases k with
  | bl k =>
    have e : z = .bl k := by simpa only [RelD] using r2
    refine ⟨k, e, ?_⟩
    cases k with
    | true =>
      refine ⟨ρ2, st2, env, s2, s'.relEnv x2 (s.relEnv x' re), (q2.onV x2).bind.imp fun w st3 q3 ρ3 zz H3 x3 s3 r3 => ?_⟩
      exact ⟨ρ3, st3, _, _, s3, s2.relD x3 (s'.relD x2 r'), r3, q3.onV x3⟩
    | false => exact PostV.here (PostV.of x2 q2) s2 (by simp only [RelD])
  | _ => exact q2.elim
theorem r_chain {op op' : CmpOp} {f g : D → D → M D} (ho : OpR X (compareOp op) (dO G E f)) (ho' : OpR X (compareOp op') (dO G E g)) (ha : PE X a (dE G E ma)) (hb : PE X b (dE G E mb)) (hc : PE X c (dE G E mc)) (hm : lastMarks [op, op'] [b, c] = false) :
    PE X (.Compare a [op, op'] [b, c] pos) (dE G E (eChain f g ma mb mc)) := (pe_chain ho ho' ha hb hc hm).imp fun σ H Q h => chain_imp h
theorem r_tchain {op op' : CmpOp} {f g : D → D → M D} (ho : OpR X (compareOp op) (dO G E f)) (ho' : OpR X (compareOp op') (dO G E g)) (ha : PE X a (dE G E ma)) (hb : PE X b (dE G E mb)) (hc : PE X c (dE G E mc)) (hm : lastMarks [op, op'] [b, c] = false) :
    PT X (.Compare a [op, op'] [b, c] pos) (dT G E (tVal (eChain f g ma mb mc))) := (pt_chain ho ho' ha hb hc hm).imp fun σ H Q h => chain_imp (dT_val h)
/-! arguments, displays -/
theorem r_anil : PA X [] (dA G E aNil) := pa_nil.imp fun σ H Q ⟨ρ, st, env, s, re, p⟩ => p ρ [] H (Ext.refl _ _) s (by simp only [RelDs])
theorem r_acons {es : List Expr} {mr : Env → M (List D)} (ha : PE X e (dE G E ma)) (hr : PA X es (dA G E mr)) (hs : starEach (e :: es) X.env = (false, eval e X.env) :: starEach es X.env := by rfl) : PA X (e :: es) (dA G E (aCons ma mr)) :=
  (pa_cons ha hr hs).imp fun σ H Q ⟨ρ, st, env, s, re, p⟩ => by
    refine ⟨ρ, st, env, s, re, p.bind.imp fun d st1 q ρ1 v H1 x1 s1 r1 => ?_⟩
    refine ⟨ρ1, st1, env, s1, s.relEnv x1 re, (q.on x1 fun ds st' z ρ2 vs H2 x2 => z ρ2 vs H2 (x1.trans x2)).bind.imp fun ds st2 q2 ρ2 vs H2 x2 s2 r2 => ?_⟩
    exact q2 ρ2 (v :: vs) H2 x2 s2 (by simp only [RelDs]; exact ⟨v, vs, rfl, s1.relD x2 r1, r2⟩)
theorem r_tup {es : List Expr} {m : Env → M (List D)} {x1} (h : PA X es (dA G E m)) : PE X (.Tuple es x1 pos) (dE G E (eArgs mkTup m)) := (pe_tup h).imp fun σ H Q hq => by
  obtain ⟨ρ, st, env, s, re, p⟩ := hq
  refine ⟨ρ, st, env, s, re, p.bind.imp fun ds st' q ρ' vs H' x s' r => ?_⟩
  unfold mkTup at q
  split at q
  · rename_i hl
    exact ⟨by rw [← r.length, lim_eq]; exact hl, fun p hp => PostV.tup (PostV.of x q) s' r hp⟩
  · exact q.elim
theorem r_lst {es : List Expr} {m : Env → M (List D)} (h : PA X es (dA G E m)) : PE X (.List es pos) (dE G E (eArgs mkLst m)) := (pe_lst h).imp fun σ H Q hq => by
  obtain ⟨ρ, st, env, s, re, p⟩ := hq
  refine ⟨ρ, st, env, s, re, p.bind.imp fun ds st' q ρ' vs H' x s' r => ?_⟩
  unfold mkLst at q
  split at q
  · rename_i hl
    exact ⟨by rw [← r.length, lim_eq]; exact hl, fun p hp => PostV.alloc (PostV.of x q) s' ⟨vs, rfl, r⟩ hp⟩
  · exact q.elim
end
end MM

/-! The rules: statements, targets, loops. -/
namespace MM
open PySem PySem.Spec PyProof.Rows L2

abbrev SM := Env → M Fl
def sNil : SM := fun env => M.ret (.nx env)
def sSeq (a b : SM) : SM := fun env st => (a env st).bind fun fl st => match fl with
  | .nx env => b env st
  | fl => .ok fl st
def sSet (i : Nat) (e : Env → M D) : SM := fun env st => (e env st).bind fun d => M.ret (.nx (env.set i (some d)))
def sExpr (e : Env → M D) : SM := fun env st => (e env st).bind fun _ => M.ret (.nx env)
def sRet (e : Env → M D) : SM := fun env st => (e env st).bind fun d => M.ret (.ret d)
def sRetN : SM := fun env => M.ret (.ret .non)
def sBrk : SM := fun env => M.ret (.brk env)
def sCt : SM := fun env => M.ret (.ct env)
def sBad : SM := fun _ => M.bad
def sIf (t : Env → M Bool) (a b : SM) : SM := fun env st => (t env st).bind fun c st => if c then a env st else b env st
def whileN (t : Env → M Bool) (b : SM) : Nat → SM
  | 0 => fun _ => M.bad
  | n + 1 => fun env st => (t env st).bind fun c st => if c then (b env st).bind fun fl st => (match fl with
      | .nx env => whileN t b n env st
      | .ct env => whileN t b n env st
      | .brk env => .ok (.nx env) st
      | .ret d => .ok (.ret d) st) else .ok (.nx env) st
def fuel : Nat := 1000000000
def sWhile (t : Env → M Bool) (b : SM) : SM := whileN t b fuel
/-- what is walked: the items, and what must stand at each turn -/
abbrev Src := List D × (Sto → Bool)
abbrev Tgt := D → Env → M Env
def forL (g : Sto → Bool) (tg : Tgt) (b : SM) : List D → SM
  | [] => fun env st => if g st then .ok (.nx env) st else .bad
  | d :: ds => fun env st => if g st then (tg d env st).bind fun env st => (b env st).bind fun fl st => (match fl with
      | .nx env => forL g tg b ds env st
      | .ct env => forL g tg b ds env st
      | .brk env => .ok (.nx env) st
      | .ret d => .ok (.ret d) st) else .bad
def sFor (src : Env → M Src) (tg : Tgt) (b : SM) : SM := fun env st => (src env st).bind fun x st => forL x.2 tg b x.1 env st
def tName (i : Nat) : Tgt := fun d env => M.ret (env.set i (some d))
def tsNil : List D → Env → M Env := fun ds env => match ds with
  | [] => M.ret env
  | _ => M.bad
def tsCons (t : Tgt) (r : List D → Env → M Env) : List D → Env → M Env := fun ds env st => match ds with
  | d :: ds => (t d env st).bind fun env => r ds env
  | [] => .bad
def tTup (n : Nat) (r : List D → Env → M Env) : Tgt := fun d env st => match d with
  | .tup ds => if ds.length = n then r ds env st else .bad
  | _ => .bad
/-- o[i] = v -/
def tSub (o i : Env → M D) (set : D → D → D → M Unit) : Tgt := fun d env st => (o env st).bind fun x st => (i env st).bind fun y st => (set x y d st).bind fun _ => M.ret env
def sAsg (e : Env → M D) (t : Tgt) : SM := fun env st => (e env st).bind fun d st => (t d env st).bind fun env => M.ret (.nx env)
/-- a, b = x, y -/
def sPar (i j : Nat) (a : Env → M (List D)) : SM := fun env st => (a env st).bind fun ds st => match ds with
  | [x, y] => .ok (.nx ((env.set i (some x)).set j (some y))) st
  | _ => .bad
/-- a def's body as a function -/
def start (n : Nat) (ds : List D) : Env := ds.map some ++ List.replicate (n - ds.length) none
def fnM (n : Nat) (b : SM) : List D → M D := fun ds st => (b (start n ds) st).bind fun fl st => match fl with
  | .nx _ => .ok .non st
  | .ret d => .ok d st
  | _ => .bad

section
variable {G : Wd} {E : XK} {ρ ρ' : List Addr} {H H' : Hp} {st st' : Sto} {σ : L2.St} {env : Env}
theorem RelEnv.set (re : RelEnv G ρ H env σ) {i : Nat} {d : D} {v : V} (r : RelD G ρ H d v) : RelEnv G ρ H (env.set i (some d)) (σ.set i (some v)) := by
  refine ⟨by simp [re.1], fun j e q => ?_⟩
  by_cases hj : j = i
  · subst hj
    by_cases hl : j < env.length
    · rw [List.getElem?_set_self hl] at q
      cases q
      exact ⟨v, by rw [List.getElem?_set_self (by rw [← re.1]; exact hl)], r⟩
    · rw [List.getElem?_eq_none (by simpa using hl)] at q; cases q
  · rw [List.getElem?_set_ne (Ne.symm hj)] at q
    obtain ⟨u, e1, r1⟩ := re.2 j e q
    exact ⟨u, by rw [List.getElem?_set_ne (Ne.symm hj)]; exact e1, r1⟩
theorem Post.onF {r : Res Fl} {Dn : Ends} (x : Ext ρ H ρ' H') (h : Post G E ρ H (fun d st' => PostF G ρ H Dn d st') r) : Post G E ρ' H' (fun d st' => PostF G ρ' H' Dn d st') r := h.on x fun _ _ z => z.of x
theorem dE_thenS {m : Env → M D} {k : D → Env → M Fl} {Dn : Ends} {Q : VK} (h : dS G E (fun env st => (m env st).bind fun d => k d env) Dn σ H)
    (i : ∀ ρ st env d v H1, Sim G ρ st H1 → RelEnv G ρ H1 env σ → RelD G ρ H1 d v → Post G E ρ H1 (fun d st' => PostF G ρ H1 Dn d st') (k d env st) → Q v H1) : dE G E m σ H Q := by
  obtain ⟨ρ, st, env, s, re, p⟩ := h
  exact ⟨ρ, st, env, s, re, p.bind.imp fun d st' q ρ' v H' x s' r => i ρ' st' env d v H' s' (s.relEnv x re) r (q.onF x)⟩
theorem dT_thenS {m : Env → M Bool} {k : Bool → Env → M Fl} {Dn : Ends} {Q : Bool → Hp → Prop} (h : dS G E (fun env st => (m env st).bind fun d => k d env) Dn σ H)
    (i : ∀ ρ st env b H1, Sim G ρ st H1 → RelEnv G ρ H1 env σ → Post G E ρ H1 (fun d st' => PostF G ρ H1 Dn d st') (k b env st) → Q b H1) : dT G E m σ H Q := by
  obtain ⟨ρ, st, env, s, re, p⟩ := h
  exact ⟨ρ, st, env, s, re, p.bind.imp fun d st' q ρ' H' x s' => i ρ' st' env d H' s' (s.relEnv x re) (q.onF x)⟩
theorem PostF.nx_here {Dn : Ends} (h : PostF G ρ H Dn (.nx env) st) (s : Sim G ρ st H) (re : RelEnv G ρ H env σ) : Dn.nx σ H := h ρ σ H (Ext.refl _ _) s re
end

section
variable {X : Cx} {G : Wd} {E : XK} {e : Expr} {me : Env → M D} {stm : Stmt} {rest : List Stmt} {a b : SM} {pos : Pos}
theorem r_nil : PSs X [] (dS G E sNil) := pss_nil.imp fun Dn σ H ⟨ρ, st, env, s, re, p⟩ => PostF.nx_here p s re
theorem r_cons (h1 : PS X stm (dS G E a)) (h2 : PSs X rest (dS G E b)) : PSs X (stm :: rest) (dS G E (sSeq a b)) := (pss_cons h1 h2).imp fun Dn σ H ⟨ρ, st, env, s, re, p⟩ => by
  refine ⟨ρ, st, env, s, re, p.bind.imp fun fl st' q => ?_⟩
  cases fl with
  | nx env' => exact fun ρ' σ' H' x s' re' => ⟨ρ', st', env', s', re', Post.onF x q⟩
  | ret d => exact q
  | brk env' => exact q
  | ct env' => exact q
theorem r_last (h1 : PS X stm (dS G E a)) : PSs X [stm] (dS G E a) := pss_one h1
theorem r_pass : PS X (.Pass pos) (dS G E sNil) := ps_pass.imp fun Dn σ H ⟨ρ, st, env, s, re, p⟩ => PostF.nx_here p s re
theorem r_brk : PS X (.Break pos) (dS G E sBrk) := ps_break.imp fun Dn σ H ⟨ρ, st, env, s, re, p⟩ => p ρ σ H (Ext.refl _ _) s re
theorem r_ct : PS X (.Continue pos) (dS G E sCt) := ps_continue.imp fun Dn σ H ⟨ρ, st, env, s, re, p⟩ => p ρ σ H (Ext.refl _ _) s re
theorem r_bad : PS X stm (dS G E sBad) := ps_never.imp fun Dn σ H ⟨ρ, st, env, s, re, p⟩ => p
theorem r_expr (he : PE X e (dE G E me)) (hs : swapsWith e none pos.line X.env = pure false := by rfl) : PS X (.Expr e pos) (dS G E (sExpr me)) := (ps_expr he hs).imp fun Dn σ H h =>
  dE_thenS h fun ρ st env d v H1 s re r p => PostF.nx_here p s re
theorem r_ret (he : PE X e (dE G E me)) : PS X (.Return (some e) pos) (dS G E (sRet me)) := (ps_ret he).imp fun Dn σ H h =>
  dE_thenS h fun ρ st env d v H1 s re r p => PostV.here p s r
theorem r_retN : PS X (.Return none pos) (dS G E sRetN) := ps_retN.imp fun Dn σ H ⟨ρ, st, env, s, re, p⟩ => PostV.here p s (by simp only [RelD])
theorem r_ifs {c : Expr} {xs ys : List Stmt} {t : Env → M Bool} (hc : PT X c (dT G E t)) (ha : PSs X xs (dS G E a)) (hb : PSs X ys (dS G E b)) : PS X (.If c xs ys pos) (dS G E (sIf t a b)) := (ps_if hc ha hb).imp fun Dn σ H h =>
  dT_thenS (k := fun c env st => if c then a env st else b env st) h fun ρ st env c H1 s re p => by
    cases c with
    | true => exact ⟨ρ, st, env, s, re, p⟩
    | false => exact ⟨ρ, st, env, s, re, p⟩
theorem r_set {i : Nat} {x : Str} {pos' : Pos} (hN : X.N.Nodup) (he : PE X e (dE G E me)) (hi : X.N[i]? = some x := by rfl) (hx : Loc X.env.scope x := by first | exact Or.inl rfl | exact Or.inr rfl) (hs : swapsWith e (some (.Name x pos')) pos.line X.env = pure false := by rfl) (hf : X.fn x = true ∨ X.env.scope.names.lookup x = some .local := by first | exact .inl rfl | exact .inr rfl | assumption) :
    PS X (.Assign [.Name x pos'] e pos) (dS G E (sSet i me)) := (ps_set hN hi hx he hs hf).imp fun Dn σ H h =>
  dE_thenS h fun ρ st env d v H1 s re r p => PostF.nx_here (env := env.set i (some d)) p s (re.set r)
theorem r_par {i j : Nat} {x y : Str} {u v : Expr} {ma : Env → M (List D)} {px py pt : Pos} {kt k2 pt2} (hc : X.calm = true) (hN : X.N.Nodup) (ha : PA X [u, v] (dA G E ma)) (hi : X.N[i]? = some x := by rfl) (hj : X.N[j]? = some y := by rfl) (hij : i ≠ j := by decide)
    (hx : X.env.scope.names.lookup x = some .local := by rfl) (hy : X.env.scope.names.lookup y = some .local := by rfl)
    (hw : swappedStores [.Tuple [.Name x px, .Name y py] kt pt] (.Tuple [u, v] k2 pt2) X.env = pure (some [x, y]) := by rfl)
    (hs : swapsWithSole [.Tuple [.Name x px, .Name y py] kt pt] (.Tuple [u, v] k2 pt2) pos.line X.env = pure false := by rfl) :
    PS X (.Assign [.Tuple [.Name x px, .Name y py] kt pt] (.Tuple [u, v] k2 pt2) pos) (dS G E (sPar i j ma)) := (ps_par hc hN hi hj hij hx hy ha hw hs).imp fun Dn σ H ⟨ρ, st, env, s, re, p⟩ => by
  refine ⟨ρ, st, env, s, re, p.bind.imp fun ds st' q ρ' vs H' x s' r => ?_⟩
  match ds, q with
  | [d1, d2], q =>
    obtain ⟨v1, r1, e1, h1, h2⟩ := r
    obtain ⟨v2, r2, e2, h3, h4⟩ := h2
    have e3 : r2 = [] := h4
    subst e1; subst e2; subst e3
    exact ⟨v1, v2, rfl, PostF.nx_here (PostF.of x q) s' (((s.relEnv x re).set h1).set h3)⟩
theorem r_while {c : Expr} {body : List Stmt} {t : Env → M Bool} (hp : PassesOwn (model X.prog X.w) X.A X.env X.xe) (hc : PT X c (dT G E t)) (hb : PSs X body (dS G E b)) : PS X (.While c body [] pos) (dS G E (sWhile t b)) := (ps_while hp hc hb).imp fun Dn σ H ⟨ρ, st, env, s, re, p⟩ => by
  refine ⟨fun m σ H => ∃ ρ st env, Sim G ρ st H ∧ RelEnv G ρ H env σ ∧ Post G E ρ H (fun fl st' => PostF G ρ H Dn fl st') (whileN t b m env st), ⟨fuel, ρ, st, env, s, re, p⟩, ?_⟩
  rintro m σ H ⟨ρ, st, env, s, re, p⟩
  cases m with
  | zero => exact p.elim
  | succ m =>
    refine ⟨ρ, st, env, s, re, Post.imp (Post.bind p) fun c st' q ρ' H' x s' => ?_⟩
    cases c with
    | false =>
      rw [if_neg Bool.false_ne_true]
      rw [if_neg Bool.false_ne_true] at q
      exact PostF.nx_here (PostF.of x q) s' (s.relEnv x re)
    | true =>
      rw [if_pos rfl]
      rw [if_pos rfl] at q
      refine ⟨fun σ H => ∃ ρ st env, Sim G ρ st H ∧ RelEnv G ρ H env σ ∧ Post G E ρ H (fun fl st' => PostF G ρ H Dn fl st') (whileN t b m env st), fun σ' H' z => ⟨m, Nat.lt_succ_self _, z⟩, ?_⟩
      refine ⟨ρ', st', env, s', s.relEnv x re, (Post.onF x q).bind.imp fun fl st2 q2 => ?_⟩
      cases fl with
      | nx env' => exact fun ρ2 σ2 H2 x2 s2 re2 => ⟨ρ2, st2, env', s2, re2, Post.onF x2 q2⟩
      | ct env' => exact fun ρ2 σ2 H2 x2 s2 re2 => ⟨ρ2, st2, env', s2, re2, Post.onF x2 q2⟩
      | brk env' => exact q2
      | ret d => exact q2
end

/-! ### for -/
/-- an iterator of the layer yields the items -/
def ItR (G : Wd) (ρ0 : List Addr) (H0 : Hp) (J : It) (src : Src) : Prop := ∀ (i : Nat) (ρ : List Addr) (st : Sto) (H : Hp), Ext ρ0 H0 ρ H → Sim G ρ st H → src.2 st = true →
  (∀ d, src.1[i]? = some d → J.go i H ∧ ∀ x H', J.yld i H x H' → Ext ρ H ρ H' ∧ Sim G ρ st H' ∧ RelD G ρ H' d x) ∧ (i = src.1.length → J.stop i H)
def dI (G : Wd) (E : XK) (m : Env → M Src) : TI := fun σ H R => ∃ ρ st env, Sim G ρ st H ∧ RelEnv G ρ H env σ ∧
  Post G E ρ H (fun src st' => ∀ ρ' H' J, Ext ρ H ρ' H' → Sim G ρ' st' H' → ItR G ρ' H' J src → R J H') (m env st)
def dG (G : Wd) (E : XK) (t : Tgt) : TG := fun v σ H Q => ∃ ρ st env d, Sim G ρ st H ∧ RelEnv G ρ H env σ ∧ RelD G ρ H d v ∧
  Post G E ρ H (fun env' st' => ∀ ρ' σ' H', Ext ρ H ρ' H' → Sim G ρ' st' H' → RelEnv G ρ' H' env' σ' → Q σ' H') (t d env st)
def dGs (G : Wd) (E : XK) (t : List D → Env → M Env) : TGs := fun vs σ H Q => ∃ ρ st env ds, Sim G ρ st H ∧ RelEnv G ρ H env σ ∧ RelDs G ρ H ds vs ∧
  Post G E ρ H (fun env' st' => ∀ ρ' σ' H', Ext ρ H ρ' H' → Sim G ρ' st' H' → RelEnv G ρ' H' env' σ' → Q σ' H') (t ds env st)
def dSet (G : Wd) (E : XK) (f : D → D → D → M Unit) : TSet := fun o i v H Q => ∃ ρ st d1 d2 d3, Sim G ρ st H ∧ RelD G ρ H d1 o ∧ RelD G ρ H d2 i ∧ RelD G ρ H d3 v ∧
  Post G E ρ H (fun _ st' => ∀ ρ' H', Ext ρ H ρ' H' → Sim G ρ' st' H' → Q H') (f d1 d2 d3 st)
section
variable {X : Cx} {G : Wd} {E : XK} {tg iter e : Expr} {body : List Stmt} {msrc : Env → M Src} {t : Tgt} {b : SM} {me : Env → M D} {pos : Pos}
theorem _root_.L2.PG.imp {t t' : TG} (h : PG X tg t) (i : ∀ v σ H Q, t' v σ H Q → t v σ H Q) : PG X tg t' := ⟨fun pins s σ H v u Q I r q => h.run pins s σ H v u Q I r (i _ _ _ _ q)⟩
theorem _root_.L2.PGs.imp {es : List Expr} {t t' : TGs} (h : PGs X es t) (i : ∀ v σ H Q, t' v σ H Q → t v σ H Q) : PGs X es t' := ⟨fun pins s σ H v u Q I r q => h.run pins s σ H v u Q I r (i _ _ _ _ q)⟩
theorem _root_.L2.PI.imp {t t' : TI} (h : PI X tg iter t) (i : ∀ σ H Q, t' σ H Q → t σ H Q) : PI X tg iter t' := ⟨fun pins s σ H R I q => h.run pins s σ H R I (i _ _ _ q)⟩
theorem _root_.L2.PSet.imp {t t' : TSet} (h : PSet X t) (i : ∀ o i v H Q, t' o i v H Q → t o i v H Q) : PSet X t' := fun pins s σ H o i' v ov iv u Q I r1 r2 r3 q => h pins s σ H o i' v ov iv u Q I r1 r2 r3 (i _ _ _ _ _ q)
theorem r_gname {i : Nat} {x : Str} (hN : X.N.Nodup) (hi : X.N[i]? = some x := by rfl) (hx : Loc X.env.scope x := by first | exact Or.inl rfl | exact Or.inr rfl) (hf : X.fn x = true ∨ X.env.scope.names.lookup x = some .local := by first | exact .inl rfl | exact .inr rfl | assumption) : PG X (.Name x pos) (dG G E (tName i)) :=
  (pg_name hN hi hx hf).imp fun v σ H Q ⟨ρ, st, env, d, s, re, r, p⟩ => p ρ _ H (Ext.refl _ _) s (re.set r)
theorem r_gsnil : PGs X [] (dGs G E tsNil) := pgs_nil.imp fun vs σ H Q ⟨ρ, st, env, ds, s, re, r, p⟩ => by
  cases ds with
  | nil =>
    have e : vs = [] := r
    exact ⟨e, p ρ σ H (Ext.refl _ _) s re⟩
  | cons d ds => exact p.elim
theorem r_gscons {e : Expr} {es : List Expr} {u : List D → Env → M Env} (h1 : PG X e (dG G E t)) (h2 : PGs X es (dGs G E u)) (hs : (assignEach (e :: es) X.env).map (·.2) = assign e X.env :: (assignEach es X.env).map (·.2) := by rfl) : PGs X (e :: es) (dGs G E (tsCons t u)) :=
  (pgs_cons h1 h2 hs).imp fun vs σ H Q ⟨ρ, st, env, ds, s, re, r, p⟩ => by
    cases ds with
    | nil => exact p.elim
    | cons d ds =>
      obtain ⟨v, vr, e1, r1, r2⟩ := r
      refine ⟨v, vr, e1, ρ, st, env, d, s, re, r1, Post.imp (Post.bind p) fun env1 st1 q ρ1 σ1 H1 x1 s1 re1 => ?_⟩
      exact ⟨ρ1, st1, env1, ds, s1, re1, s.relDs x1 r2, q.on x1 fun env2 st2 z ρ2 σ2 H2 x2 => z ρ2 σ2 H2 (x1.trans x2)⟩
theorem r_gtup {es : List Expr} {k : Nat} {u : List D → Env → M Env} {n : Nat} (hc : X.calm = true) (h : PGs X es (dGs G E u))
    (hn : (assignEach es X.env).length = n := by rfl) (hst : (assignEach es X.env).findIdx? (·.1) = none := by rfl) : PG X (.Tuple es k pos) (dG G E (tTup n u)) :=
  (pg_tup hc h hn hst).imp fun v σ H Q ⟨ρ, st, env, d, s, re, r, p⟩ => by
    cases d with
    | tup ds =>
      obtain ⟨a, vs, e, ha, rd⟩ := r
      unfold tTup at p
      dsimp only at p
      split at p
      · rename_i hl
        exact ⟨a, vs, e, .inl (.inl ha), by rw [← rd.length]; exact hl, ρ, st, env, ds, s, re, rd, p⟩
      · exact p.elim
    | _ => exact p.elim
theorem r_gsub {o i : Expr} {mo mi : Env → M D} {f : D → D → D → M Unit} (ho : PE X o (dE G E mo)) (hi : PE X i (dE G E mi)) (hs : PSet X (dSet G E f))
    (ha : ∀ v, assign (.Subscript o i pos) X.env v = (do
      let ov ← holding [v] (eval o X.env)
      let iv ← holding [v, ov] (eval i X.env)
      standAt pos
      holding [v, ov, iv] (setItem ov iv v)
      release [v, ov, iv] []) := by intro _; rfl) : PG X (.Subscript o i pos) (dG G E (tSub mo mi f)) :=
  (pg_sub ho hi hs ha).imp fun v σ H Q ⟨ρ, st, env, d, s, re, r, p⟩ => by
    refine ⟨ρ, st, env, s, re, Post.imp (Post.bind p) fun x st1 q ρ1 ov H1 x1 s1 r1 => ?_⟩
    refine ⟨ρ1, st1, env, s1, s.relEnv x1 re, Post.imp (P := fun y st2 => Post G E ρ1 H1 (fun env' st' => ∀ ρ' σ' H', Ext ρ1 H1 ρ' H' → Sim G ρ' st' H' → RelEnv G ρ' H' env' σ' → Q σ' H') ((f x y d st2).bind fun _ => M.ret env)) (Post.bind (Post.on x1 q fun env2 st2 z ρ2 σ2 H2 x2 => z ρ2 σ2 H2 (x1.trans x2))) fun y st2 q2 ρ2 iv H2 x2 s2 r2 => ?_⟩
    refine ⟨ρ2, st2, x, y, d, s2, s1.relD x2 r1, r2, s1.relD x2 (s.relD x1 r), Post.imp (Post.bind (Post.on x2 q2 fun env2 st2 z ρ3 σ3 H3 x3 => z ρ3 σ3 H3 (x2.trans x3))) fun _ st3 q3 ρ3 H3 x3 s3 => ?_⟩
    exact q3 ρ3 σ H3 x3 s3 (s2.relEnv x3 (s1.relEnv x2 (s.relEnv x1 re)))
theorem r_asg (he : PE X e (dE G E me)) (hg : PG X tg (dG G E t)) (hs : swapsWithSole [tg] e pos.line X.env = pure false := by rfl) (hw : swappedStores [tg] e X.env = pure none := by rfl)
    (h1 : (assignEach [tg] X.env).map (·.2) = [assign tg X.env] := by rfl) : PS X (.Assign [tg] e pos) (dS G E (sAsg me t)) := (ps_asg he hg hs hw h1).imp fun Dn σ H h =>
  dE_thenS (k := fun d env st => (t d env st).bind fun env => M.ret (.nx env)) h fun ρ st env d v H1 s re r p => ⟨ρ, st, env, d, s, re, r, Post.imp (Post.bind p) fun env' st' q ρ' σ' H' x s' re' => PostF.nx_here (PostF.of x q) s' re'⟩
theorem r_for (hp : PassesOwn (model X.prog X.w) X.A X.env X.xe) (hc : X.calm = true) (hi : PI X tg iter (dI G E msrc)) (hg : PG X tg (dG G E t)) (hb : PSs X body (dS G E b))
    (hs : ∀ x, foldedSetIterable iter X.env x = pure x := by intro _; rfl) : PS X (.For tg iter body [] pos) (dS G E (sFor msrc t b)) := (ps_for hp hc hi hg hb hs).imp fun Dn σ H ⟨ρ, st, env, s, re, p⟩ => by
  refine ⟨ρ, st, env, s, re, Post.imp (Post.bind p) fun src st1 q ρ1 H1 J x1 s1 it => ?_⟩
  refine ⟨fun i m σ H => i + m = src.1.length ∧ ∃ ρ st env, Ext ρ1 H1 ρ H ∧ Sim G ρ st H ∧ RelEnv G ρ H env σ ∧ Post G E ρ H (fun fl st' => PostF G ρ H Dn fl st') (forL src.2 t b (src.1.drop i) env st),
    ⟨src.1.length, by omega, ρ1, st1, env, Ext.refl _ _, s1, s.relEnv x1 re, Post.onF x1 q⟩, ?_⟩
  rintro i m σ H ⟨him, ρ2, st2, env2, x2, s2, re2, p2⟩
  by_cases hi : i < src.1.length
  · have e : src.1.drop i = src.1[i] :: src.1.drop (i + 1) := by rw [List.drop_eq_getElem_cons hi]
    rw [e] at p2
    unfold forL at p2
    split at p2
    · rename_i hg2
      obtain ⟨go, yl⟩ := (it i ρ2 st2 H x2 s2 hg2).1 src.1[i] (List.getElem?_eq_getElem hi)
      refine .inr ⟨go, fun σ' H' => ∃ ρ st env, Ext ρ1 H1 ρ H' ∧ Sim G ρ st H' ∧ RelEnv G ρ H' env σ' ∧ Post G E ρ H' (fun fl st' => PostF G ρ H' Dn fl st') (forL src.2 t b (src.1.drop (i + 1)) env st), fun σ' H' z => ⟨m - 1, by omega, by omega, z⟩, fun xv H3 y => ?_⟩
      obtain ⟨x3, s3, r3⟩ := yl xv H3 y
      refine ⟨ρ2, st2, env2, src.1[i], s3, s2.relEnv x3 re2, r3, Post.imp (Post.bind (Post.onF x3 p2)) fun env4 st4 q4 ρ4 σ4 H4 x4 s4 re4 => ?_⟩
      refine ⟨ρ4, st4, env4, s4, re4, Post.imp (Post.bind (Post.onF x4 q4)) fun fl st5 q5 => ?_⟩
      cases fl with
      | nx env' => exact fun ρ6 σ6 H6 x6 s6 re6 => ⟨ρ6, st5, env', x2.trans (x3.trans (x4.trans x6)), s6, re6, Post.onF x6 q5⟩
      | ct env' => exact fun ρ6 σ6 H6 x6 s6 re6 => ⟨ρ6, st5, env', x2.trans (x3.trans (x4.trans x6)), s6, re6, Post.onF x6 q5⟩
      | brk env' => exact q5
      | ret d => exact q5
    · exact p2.elim
  · have e : src.1.drop i = [] := List.drop_eq_nil_of_le (by omega)
    rw [e] at p2
    unfold forL at p2
    split at p2
    · rename_i hg2
      exact .inl ⟨(it i ρ2 st2 H x2 s2 hg2).2 (by omega), PostF.nx_here p2 s2 re2⟩
    · exact p2.elim
end
end MM

/-! The rules: a def by its body, its calls. -/
namespace MM
open PySem PySem.Spec PyProof.Rows L2

abbrev FnP (K : PySem.W.Frag) (x : Str) (st : Stmt) (f : Addr) (fd : FuncData) : Prop := FunD K x x (defArgs st) (defBody st) (defScope st) [] [] f fd
/-- the def st, named x, stands and does g -/
structure DefOk (P : Program) (w : World) (K : PySem.W.Frag) (mg : Str → Option Value) (base : Heap) (G : Wd) (x : Str) (stm : Stmt) (ps : List Str) (k : Nat) (g : List D → M D) : Prop where
  ex : ∃ f fd, FnP K x stm f fd ∧ mg x = some (.ref f) ∧ FnOk P w K mg base (L2.CX P w) k f fd ps (dF G ps.length g)
def WF : XK := fun _ _ _ => False
abbrev Tk (X : Cx) (E : XK) : Prop := Takes X (fun c d _ H => E c d H)
theorem tkF {X : Cx} : Tk X WF := fun _ _ x => by
  obtain ⟨_, _, _, _, _, _, _, _, _, _, _, _, _, _, _, _, z⟩ := x
  exact z.elim
theorem DefOk.mono {P : Program} {w : World} {K : PySem.W.Frag} {mg : Str → Option Value} {base : Heap} {G : Wd} {x : Str} {stm : Stmt} {ps : List Str} {j k : Nat} {g : List D → M D} (h : DefOk P w K mg base G x stm ps j g) (hk : j ≤ k) : DefOk P w K mg base G x stm ps k g := by
  obtain ⟨f, fd, F, hm, ok⟩ := h.ex
  exact ⟨f, fd, F, hm, ok.mono hk⟩

section
variable {P : Program} {w : World} {K : PySem.W.Frag} {mg : Str → Option Value} {base : Heap} {G : Wd} {x : Str} {stm : Stmt} {ps N : List Str} {k : Nat} {m : SM} {f : Addr} {fd : FuncData}
theorem start_rel {ρ : List Addr} {H : Hp} {ds : List D} {vs : List V} (r : RelDs G ρ H ds vs) : RelEnv G ρ H (MM.start N.length ds) (L2.start N vs) := by
  have hl := r.length
  refine ⟨by unfold MM.start L2.start; simp [hl], fun i d e => ?_⟩
  unfold MM.start at e
  by_cases hi : i < ds.length
  · rw [List.getElem?_append_left (by simpa using hi)] at e
    rw [List.getElem?_map] at e
    obtain ⟨d', e1, e2⟩ := Option.map_eq_some_iff.mp e
    cases e2
    obtain ⟨v, e3, r3⟩ := r.get e1
    refine ⟨v, ?_, r3⟩
    unfold L2.start
    rw [List.getElem?_append_left (by rw [List.length_map, ← hl]; exact hi), List.getElem?_map, e3]
    rfl
  · rw [List.getElem?_append_right (by simpa using Nat.le_of_not_lt hi)] at e
    have := List.mem_of_getElem? e
    rw [List.mem_replicate] at this
    cases this.2
theorem def_ok (F : FnP K x stm f fd) (hm : mg x = some (.ref f)) (S : FnScope N ps (defScope stm))
    (h : ∀ (cdv : Value) (A : Around) (outer : List PySem.Env) (s : Shared) (H : Hp) (E : XK), Room k (A.deeper (envOfC x (defScope stm) s.heap.objs.size f cdv)) →
      Tk (cxOf (L2.CX P w) P w K mg base N x (defScope stm) f cdv A outer s H E) E → PassesOwn (model P w) (A.deeper (envOfC x (defScope stm) s.heap.objs.size f cdv)) (envOfC x (defScope stm) s.heap.objs.size f cdv) (cxOf (L2.CX P w) P w K mg base N x (defScope stm) f cdv A outer s H E).xe →
      PSs (cxOf (L2.CX P w) P w K mg base N x (defScope stm) f cdv A outer s H E) (defBody stm) (dS G E m)) : DefOk P w K mg base G x stm ps (k + 1) (fnM N.length m) := by
  refine ⟨f, fd, F, hm, F.ok S (fun vs H Q E h => h.1) fun cdv A outer s H vs Q E hr hsp => ⟨dS G E m, h cdv A outer s H E hr (takes_of rfl rfl rfl rfl) (passes_of rfl), ?_⟩⟩
  obtain ⟨hl, ρ, st, ds, sim, r, p⟩ := hsp
  refine ⟨ρ, st, MM.start N.length ds, sim, start_rel r, Post.imp (Post.bind p) fun fl st' q => ?_⟩
  cases fl with
  | nx env => exact fun ρ' σ' H' x s' re => PostV.here (PostV.of x q) s' (by simp only [RelD])
  | ret d => exact q
  | brk env => exact q.elim
  | ct env => exact q.elim
end

def eCall (n : Nat) (g : List D → M D) (a : Env → M (List D)) : Env → M D := fun env st => (a env st).bind fun ds st => if ds.length = n then g ds st else .bad
def perm {α : Type} (idx : List Nat) (l : List α) : List α := idx.filterMap fun i => l[i]?
/-- a call with n positional arguments and m by name; idx: which of them goes to each parameter -/
def eCallK (n m np : Nat) (idx : List Nat) (g : List D → M D) (a b : Env → M (List D)) : Env → M D := fun env st => (a env st).bind fun ds st => (b env st).bind fun es st =>
  if ds.length = n ∧ es.length = m ∧ (perm idx (ds ++ es)).length = np then g (perm idx (ds ++ es)) st else .bad
section
variable {X : Cx} {G : Wd} {E : XK} {x : Str} {stm : Stmt} {ps : List Str} {k : Nat} {g : List D → M D} {e : Expr} {es : List Expr} {ma : Env → M (List D)} {p pos : Pos}
theorem RelDs.perm {ρ : List Addr} {H : Hp} {ds : List D} {vs : List V} (r : RelDs G ρ H ds vs) : ∀ idx : List Nat, RelDs G ρ H (perm idx ds) (perm idx vs)
  | [] => rfl
  | i :: idx => by
    have ih := RelDs.perm r idx
    unfold MM.perm
    rw [List.filterMap_cons, List.filterMap_cons]
    cases e : ds[i]? with
    | some d =>
      obtain ⟨v, e2, r2⟩ := r.get e
      rw [e2]
      exact ⟨v, _, rfl, r2, ih⟩
    | none =>
      have : vs[i]? = none := by
        rw [List.getElem?_eq_none_iff] at e ⊢
        rw [← r.length]; exact e
      rw [this]
      exact ih
theorem Vals.perm {vs : List V} {us : List Value} (r : Vals vs us) : ∀ idx : List Nat, Vals (perm idx vs) (perm idx us)
  | [] => .nil
  | i :: idx => by
    have ih := Vals.perm r idx
    unfold MM.perm
    rw [List.filterMap_cons, List.filterMap_cons]
    cases e : vs[i]? with
    | some d =>
      obtain ⟨v, e2, r2⟩ := r.get e
      rw [e2]
      exact .cons r2 ih
    | none =>
      rw [r.none_of e]
      exact ih
/-- the callee's run, with its arguments bound -/
theorem run_def {np : Nat} {f : Addr} {fd : FuncData} {pins : List (Addr × Obj)} {σ : L2.St} {H : Hp} {s : Shared} {Q : VK} {us bs : List Value} {kw : List (Str × Value)} {vs : List V} (F : FnOk X.prog X.w X.K X.mg X.base (L2.CX X.prog X.w) k f fd ps (dF G np g)) (hr : Room k X.A) (tk : Tk X E)
    (I : Inv X pins σ H s) (r : Vals vs bs) (hb : BindsTo s fd ⟨us, kw⟩ (ps.zip bs)) (h : dF G np g vs H Q E) : wpAny (model X.prog X.w) X.A (call (.ref f) us kw) (EP X pins σ Q) X.xe s := by
  refine wpAny_call (codeAny_mono (F.run X.A X.stack s H ⟨us, kw⟩ bs vs Q E hr I.env0 hb r h) fun r s' hq => ?_)
  cases r with
  | error e => exact passes_call (E := E) tk (fun _ _ _ _ h => h) pins σ H s e s' I hq
  | ok fl =>
    cases fl with
    | ret u => exact I.after hq
    | next => exact False.elim hq
    | brk => exact False.elim hq
    | cont => exact False.elim hq
abbrev BindsH (x : Str) (stm : Stmt) (ps : List Str) : Prop := ∀ (kV doc pm : Value) (an : Option Addr) (cdv ct : Value) (us : List Value), us.length = ps.length → bindArgs (PySem.W.fnOf x x (defArgs stm) (defBody stm) (defScope stm) .none kV doc pm an cdv ct) ⟨us, []⟩ = pure (ps.zip us)
theorem r_call {n : Nat} (h : DefOk X.prog X.w X.K X.mg X.base G x stm ps k g) (hr : Room k X.A) (tk : Tk X E) (hn : n = ps.length) (hb : BindsH x stm ps) (hg : Gl X x) (ha : PA X (e :: es) (dA G E ma))
    (hdb : (x == ("__debug__" : Str)) = false := by decide) (he : starEach (e :: es) X.env = (false, eval e X.env) :: starEach es X.env := by rfl) (hpl : (backTo pos (starEach es X.env)).any (·.1) = false := by rfl) :
    PE X (.Call (.Name x p) (e :: es) [] pos) (dE G E (eCall n g ma)) := by
  obtain ⟨f, fd, F, hm, ok⟩ := h.ex
  have bd := F.bindsN (ps := ps) hb
  subst hn
  refine ⟨fun pins s σ H Q I hq => ?_⟩
  refine wpAny_Call_Name_kw (ld_glob I hg hm ?_ hdb)
  obtain ⟨ρ, st, env, sm, re, pp⟩ := hq
  refine PySem.W.callWith_K (h₀ := X.base) I.ok.mod.kin F.kp (thn (ha.run pos pins s σ H (fun vs H1 => dF G ps.length g vs H1 Q E) I ⟨ρ, st, env, sm, re, (Post.bind pp).imp fun ds st' q ρ' vs H' x' s' r => ?_⟩) fun us s1 ⟨vs, H1, I1, r, q⟩ => ⟨I1.kIn, ?_⟩) he hpl
  · split at q
    · rename_i hl
      exact ⟨by rw [← r.length]; exact hl, ρ', st', ds, s', r, Post.onV x' q⟩
    · exact q.elim
  · have hl : (us ++ []).length = ps.length := by rw [List.append_nil, ← r.length]; exact ok.len _ _ _ _ q
    have b2 := bd s1 us I1.kIn hl
    rw [List.append_nil] at b2
    exact run_def ok hr tk I1 r b2 q
theorem r_call0 (h : DefOk X.prog X.w X.K X.mg X.base G x stm [] k g) (hr : Room k X.A) (tk : Tk X E) (hb : BindsH x stm []) (hg : Gl X x)
    (hdb : (x == ("__debug__" : Str)) = false := by decide) :
    PE X (.Call (.Name x p) [] [] pos) (dE G E (eCall 0 g aNil)) := by
  obtain ⟨f, fd, F, hm, ok⟩ := h.ex
  have bd := F.bindsN (ps := []) hb
  refine ⟨fun pins s σ H Q I hq => ?_⟩
  refine wpAny_Call_Name_kw (ld_glob I hg hm ?_ hdb)
  obtain ⟨ρ, st, env, sm, re, pp⟩ := hq
  refine PySem.W.callWith_K0 I.kIn F.kp ?_
  exact run_def (us := []) (bs := []) (vs := []) ok hr tk I .nil (bd s [] I.kIn rfl) ⟨rfl, ρ, st, [], sm, rfl, pp⟩
theorem r_knil : PK X [] (dA G E aNil) := ⟨fun pos pins s σ H Q I ⟨ρ, st, env, sm, re, p⟩ => pk_nil.run pos pins s σ H Q I (p ρ [] H (Ext.refl _ _) sm rfl)⟩
theorem r_kcons {nm : Option Str} {kws : List Keyword} {kpos : Pos} {me : Env → M D} {mr : Env → M (List D)} (ha : PE X e (dE G E me)) (hr : PK X kws (dA G E mr)) : PK X (⟨nm, e, kpos⟩ :: kws) (dA G E (aCons me mr)) :=
  ⟨fun pos pins s σ H Q I ⟨ρ, st, env, sm, re, p⟩ => (pk_cons ha hr).run pos pins s σ H Q I (by
    refine ⟨ρ, st, env, sm, re, (Post.bind p).imp fun d st1 q ρ1 v H1 x1 s1 r1 => ?_⟩
    refine ⟨ρ1, st1, env, s1, sm.relEnv x1 re, (Post.bind (Post.on x1 q fun ds st' z ρ2 vs H2 x2 => z ρ2 vs H2 (x1.trans x2))).imp fun ds st2 q2 ρ2 vs H2 x2 s2 r2 => ?_⟩
    exact q2 ρ2 (v :: vs) H2 x2 s2 ⟨v, vs, rfl, s1.relD x2 r1, r2⟩)⟩
theorem dA_pair {mb : Env → M (List D)} {n m np : Nat} {idx : List Nat} {σ : L2.St} {H : Hp} {Q : VK} (h : dE G E (eCallK n m np idx g ma mb) σ H Q) :
    dA G E ma σ H fun vs H1 => dA G E mb σ H1 fun zs H2 => vs.length = n ∧ zs.length = m ∧ dF G np g (perm idx (vs ++ zs)) H2 Q E := by
  obtain ⟨ρ, st, env, s, re, p⟩ := h
  refine ⟨ρ, st, env, s, re, (Post.bind p).imp fun ds st1 q ρ1 vs H1 x1 s1 r1 => ?_⟩
  refine ⟨ρ1, st1, env, s1, s.relEnv x1 re, (Post.bind (Post.onV x1 q)).imp fun es st2 q2 ρ2 zs H2 x2 s2 r2 => ?_⟩
  split at q2
  · rename_i hl
    have r3 := (s1.relDs x2 r1).append r2
    refine ⟨by rw [← r1.length]; exact hl.1, by rw [← r2.length]; exact hl.2.1, by rw [← (RelDs.perm r3 idx).length]; exact hl.2.2, ρ2, st2, _, s2, RelDs.perm r3 idx, Post.onV x2 q2⟩
  · exact q2.elim
abbrev BindsK (x : Str) (stm : Stmt) (ps ks : List Str) (n : Nat) (idx : List Nat) : Prop := ∀ (kV doc pm : Value) (an : Option Addr) (cdv ct : Value) (us ws : List Value), us.length = n → ws.length = ks.length →
  bindArgs (PySem.W.fnOf x x (defArgs stm) (defBody stm) (defScope stm) .none kV doc pm an cdv ct) ⟨us, ks.zip ws⟩ = pure (ps.zip (perm idx (us ++ ws)))
theorem FnP.kbind {K : PySem.W.Frag} {f : Addr} {fd : FuncData} {ks : List Str} {n : Nat} {idx : List Nat} (F : FnP K x stm f fd) (h : BindsK x stm ps ks n idx) (s : Shared) (us ws : List Value) (h1 : us.length = n) (h2 : ws.length = ks.length) : BindsTo s fd ⟨us, ks.zip ws⟩ (ps.zip (perm idx (us ++ ws))) := by
  obtain ⟨oc, od, dV, kV, doc, pm, an, cdv, ct, osl, rfl, lk, hcd, hD, hK⟩ := F.ex
  rcases hD with ⟨_, rfl⟩ | ⟨e, _⟩
  · exact .of_eq (h kV doc pm an cdv ct us ws h1 h2)
  · exact absurd rfl e
theorem r_callK {kws : List Keyword} {mb : Env → M (List D)} {n m np : Nat} {idx : List Nat} {ks : List Str} (h : DefOk X.prog X.w X.K X.mg X.base G x stm ps k g) (hr : Room k X.A) (tk : Tk X E) (hn : np = ps.length) (hmm : m = ks.length) (hb : BindsK x stm ps ks n idx) (hg : Gl X x) (ha : PA X (e :: es) (dA G E ma)) (hkw : PK X kws (dA G E mb))
    (hall : (backToKw pos (keywordEach kws X.env)).all (·.1.isSome) = true := by rfl) (hks : (backToKw pos (keywordEach kws X.env)).filterMap (·.1) = ks := by rfl)
    (hdb : (x == ("__debug__" : Str)) = false := by decide) (he : starEach (e :: es) X.env = (false, eval e X.env) :: starEach es X.env := by rfl)
    (hpl : ((backTo pos (starEach (e :: es) X.env)).any (·.1) || (backToKw pos (keywordEach kws X.env)).any (·.1.isNone)) = false := by rfl) :
    PE X (.Call (.Name x p) (e :: es) kws pos) (dE G E (eCallK n m np idx g ma mb)) := by
  obtain ⟨f, fd, F, hm, ok⟩ := h.ex
  subst hn
  subst hmm
  refine ⟨fun pins s σ H Q I hq => ?_⟩
  refine wpAny_Call_Name_kw (ld_glob I hg hm ?_ hdb)
  refine PySem.W.callWith_KW (h₀ := X.base) I.ok.mod.kin F.kp hall (thn (ha.run pos pins s σ H _ I (dA_pair hq)) fun us s1 ⟨vs, H1, I1, r, q⟩ => ?_) hpl he
  refine thn (hkw.run pos pins s1 σ H1 _ I1 q) fun ws s2 ⟨zs, H2, I2, rz, l1, l2, q2⟩ => ⟨I2.kIn, ?_⟩
  rw [hks]
  exact run_def ok hr tk I2 (Vals.perm (r.append rz) idx) (FnP.kbind F hb s2 us ws (by rw [← r.length]; exact l1) (by rw [← rz.length]; exact l2)) q2
theorem r_callK0 {kws : List Keyword} {mb : Env → M (List D)} {m np : Nat} {idx : List Nat} {ks : List Str} (h : DefOk X.prog X.w X.K X.mg X.base G x stm ps k g) (hr : Room k X.A) (tk : Tk X E) (hn : np = ps.length) (hmm : m = ks.length) (hb : BindsK x stm ps ks 0 idx) (hg : Gl X x) (hkw : PK X kws (dA G E mb))
    (hall : (backToKw pos (keywordEach kws X.env)).all (·.1.isSome) = true := by rfl) (hks : (backToKw pos (keywordEach kws X.env)).filterMap (·.1) = ks := by rfl)
    (hdb : (x == ("__debug__" : Str)) = false := by decide)
    (hpl : ((backTo pos (starEach [] X.env)).any (·.1) || (backToKw pos (keywordEach kws X.env)).any (·.1.isNone)) = false := by rfl) :
    PE X (.Call (.Name x p) [] kws pos) (dE G E (eCallK 0 m np idx g aNil mb)) := by
  obtain ⟨f, fd, F, hm, ok⟩ := h.ex
  subst hn
  subst hmm
  refine ⟨fun pins s σ H Q I hq => ?_⟩
  refine wpAny_Call_Name_kw (ld_glob I hg hm ?_ hdb)
  refine PySem.W.callWith_KW0 (h₀ := X.base) I.ok.mod.kin F.kp hall ?_ hpl
  have hz : dA G E mb σ H fun zs H2 => zs.length = ks.length ∧ dF G ps.length g (perm idx zs) H2 Q E := by
    obtain ⟨ρ, st, env, s, re, p⟩ := hq
    refine ⟨ρ, st, env, s, re, (Post.bind (r := mb env st) (f := fun es st => if ([] : List D).length = 0 ∧ es.length = ks.length ∧ (perm idx ([] ++ es)).length = ps.length then g (perm idx ([] ++ es)) st else .bad) p).imp fun es st2 q2 ρ2 zs H2 x2 s2 r2 => ?_⟩

    split at q2
    · rename_i hl
      exact ⟨by rw [← r2.length]; exact hl.2.1, by rw [← (RelDs.perm r2 idx).length]; exact hl.2.2, ρ2, st2, _, s2, RelDs.perm r2 idx, Post.onV x2 q2⟩
    · exact q2.elim
  refine thn (hkw.run pos pins s σ H _ I hz) fun ws s2 ⟨zs, H2, I2, rz, l2, q2⟩ => ⟨I2.kIn, ?_⟩
  rw [hks]
  exact run_def (us := []) ok hr tk I2 (Vals.perm rz idx) (FnP.kbind F hb s2 [] ws rfl (by rw [← rz.length]; exact l2)) q2
end
end MM

/-! The rules: list comprehensions. -/
namespace MM
open PySem PySem.Spec PyProof.Rows L2

def wipeE (env : Env) (vs : List Nat) : Env := vs.foldr (fun v e => e.set v none) env
def noex {α : Type} (r : Res α) : Res α := match r with
  | .ex _ _ _ => .bad
  | r => r
@[simp] theorem noex_ok {α : Type} {a : α} {st : Sto} : noex (.ok a st) = .ok a st := rfl
def lcL (g : Sto → Bool) (tg : Tgt) (t : Env → M Bool) (e : Env → M D) (env : Env) : List D → M (List D)
  | [] => fun st => if g st then .ok [] st else .bad
  | d :: ds => fun st => if g st then (tg d env st).bind fun env1 st => (t env1 st).bind fun c st =>
      if c then (e env1 st).bind fun y st => (lcL g tg t e env ds st).bind fun r => M.ret (y :: r) else lcL g tg t e env ds st else .bad
def alloc (o : O) : M D := fun st => .ok (.ref st.length) (st ++ [o])
def eLc (src : Env → M Src) (tg : Tgt) (vs : List Nat) (t : Env → M Bool) (e : Env → M D) : Env → M D := fun env st => (src env st).bind fun x st =>
  if x.1.length ≤ lim then (noex (lcL x.2 tg t e (wipeE env vs) x.1 st)).bind fun r => alloc (.lst r) else .bad
def tYes : Env → M Bool := fun _ => M.ret true

/-- a result that is one -/
def Post0 {α : Type} (P : α → Sto → Prop) : Res α → Prop
  | .ok a st => P a st
  | _ => False
section
variable {G : Wd} {E : XK} {ρ : List Addr} {H : Hp} {α β : Type}
theorem Post0.of {P : α → Sto → Prop} {r : Res α} {f : α → M β} {P' : β → Sto → Prop} (h : Post G E ρ H P' ((noex r).bind f)) (i : ∀ a st, Post G E ρ H P' (f a st) → P a st) : Post0 P r := by
  cases r with
  | ok a st => exact i a st h
  | ex c d st => exact h.elim
  | bad => exact h.elim
theorem Post0.bind {P : β → Sto → Prop} {r : Res α} {f : α → M β} (h : Post0 P (r.bind f)) : Post0 (fun a st => Post0 P (f a st)) r := by
  cases r with
  | ok a st => exact h
  | ex c d st => exact h
  | bad => exact h
theorem Post0.post {P P' : α → Sto → Prop} {r : Res α} (h : Post0 P r) (i : ∀ a st, P a st → P' a st) : Post G E ρ H P' r := by
  cases r with
  | ok a st => exact i a st h
  | ex c d st => exact h.elim
  | bad => exact h.elim
theorem wipe_set {σ : L2.St} {i : Nat} {x : Option V} : ∀ {vs : List Nat}, i ∉ vs → wipe (σ.set i x) vs = (wipe σ vs).set i x
  | [], _ => rfl
  | v :: vs, h => by
    unfold wipe
    rw [wipe_set (vs := vs) (fun z => h (List.mem_cons_of_mem _ z)), List.set_comm _ _ (fun z => h (by rw [z]; exact List.mem_cons_self))]
theorem wipe_in {σ : L2.St} {i : Nat} {x : Option V} : ∀ {vs : List Nat}, i ∈ vs → wipe (σ.set i x) vs = wipe σ vs
  | [], h => nomatch h
  | v :: vs, h => by
    unfold wipe
    by_cases hv : i ∈ vs
    · rw [wipe_in hv]
    · have e : i = v := (List.mem_cons.mp h).resolve_right hv
      rw [wipe_set hv, e, List.set_set]
theorem wipe_wipe (σ : L2.St) : ∀ vs : List Nat, wipe (wipe σ vs) vs = wipe σ vs := fun vs => by
  have h : ∀ us : List Nat, (∀ u ∈ us, u ∈ vs) → ∀ τ : L2.St, wipe (wipe τ us) vs = wipe τ vs := by
    intro us
    induction us with
    | nil => intro _ τ; rfl
    | cons u us ih =>
      intro hu τ
      show wipe ((wipe τ us).set u none) vs = _
      rw [wipe_in (hu u List.mem_cons_self)]
      exact ih (fun w hw => hu w (List.mem_cons_of_mem _ hw)) τ
  exact h vs (fun _ h => h) σ
theorem wipe_rel {env : Env} {σ : L2.St} (re : RelEnv G ρ H env σ) : ∀ vs : List Nat, RelEnv G ρ H (wipeE env vs) (wipe σ vs)
  | [] => re
  | v :: vs => by
    have ih := wipe_rel re vs
    refine ⟨?_, fun i d e => ?_⟩
    · show ((wipeE env vs).set v none).length = ((wipe σ vs).set v none).length
      rw [List.length_set, List.length_set]; exact ih.1
    · have e' : ((wipeE env vs).set v none)[i]? = some (some d) := e
      have ne : v ≠ i := fun z => by
        subst z
        by_cases hv : v < (wipeE env vs).length
        · rw [List.getElem?_set_self hv] at e'; cases e'
        · rw [List.getElem?_eq_none (by simpa using hv)] at e'; cases e'
      rw [List.getElem?_set_ne ne] at e'
      obtain ⟨u, e1, r1⟩ := ih.2 i d e'
      exact ⟨u, by show ((wipe σ vs).set v none)[i]? = _; rw [List.getElem?_set_ne ne]; exact e1, r1⟩
end
/-- a comprehension's target: its own names alone -/
def dGc (G : Wd) (vs : List Nat) (t : Tgt) : TG := fun v σ H Q => ∃ ρ st env d, Sim G ρ st H ∧ RelEnv G ρ H env σ ∧ RelD G ρ H d v ∧
  Post0 (fun env' st' => ∀ ρ' σ' H', Ext ρ H ρ' H' → Sim G ρ' st' H' → RelEnv G ρ' H' env' σ' → wipe σ' vs = wipe σ vs → Q σ' H') (t d env st)
def dGsc (G : Wd) (vs : List Nat) (t : List D → Env → M Env) : TGs := fun xs σ H Q => ∃ ρ st env ds, Sim G ρ st H ∧ RelEnv G ρ H env σ ∧ RelDs G ρ H ds xs ∧
  Post0 (fun env' st' => ∀ ρ' σ' H', Ext ρ H ρ' H' → Sim G ρ' st' H' → RelEnv G ρ' H' env' σ' → wipe σ' vs = wipe σ vs → Q σ' H') (t ds env st)
section
variable {X : Cx} {G : Wd} {E : XK} {tg e : Expr} {t : Tgt} {vs : List Nat} {pos : Pos}
theorem r_cname {i : Nat} {x : Str} (hN : X.N.Nodup) (hm : i ∈ vs := by decide) (hi : X.N[i]? = some x := by rfl) (hx : Loc X.env.scope x := by first | exact Or.inl rfl | exact Or.inr rfl) (hf : X.fn x = true ∨ X.env.scope.names.lookup x = some .local := by first | exact .inl rfl | exact .inr rfl | assumption) : PG X (.Name x pos) (dGc G vs (tName i)) :=
  (pg_name hN hi hx hf).imp fun v σ H Q ⟨ρ, st, env, d, s, re, r, p⟩ => p ρ _ H (Ext.refl _ _) s (re.set r) (wipe_in hm)
theorem r_csnil : PGs X [] (dGsc G vs tsNil) := pgs_nil.imp fun xs σ H Q ⟨ρ, st, env, ds, s, re, r, p⟩ => by
  cases ds with
  | nil => exact ⟨r, p ρ σ H (Ext.refl _ _) s re rfl⟩
  | cons d ds => exact p.elim
theorem r_cscons {e : Expr} {es : List Expr} {u : List D → Env → M Env} (h1 : PG X e (dGc G vs t)) (h2 : PGs X es (dGsc G vs u)) (hs : (assignEach (e :: es) X.env).map (·.2) = assign e X.env :: (assignEach es X.env).map (·.2) := by rfl) : PGs X (e :: es) (dGsc G vs (tsCons t u)) :=
  (pgs_cons h1 h2 hs).imp fun xs σ H Q ⟨ρ, st, env, ds, s, re, r, p⟩ => by
    cases ds with
    | nil => exact p.elim
    | cons d ds =>
      obtain ⟨v, vr, e1, r1, r2⟩ := r
      refine ⟨v, vr, e1, ρ, st, env, d, s, re, r1, ?_⟩
      have p' := Post0.bind (r := t d env st) (f := fun env => u ds env) p
      revert p'
      cases t d env st with
      | ok env1 st1 =>
        intro q ρ1 σ1 H1 x1 s1 re1 hw1
        refine ⟨ρ1, st1, env1, ds, s1, re1, s.relDs x1 r2, ?_⟩
        have q : Post0 _ (u ds env1 st1) := q
        revert q
        cases u ds env1 st1 with
        | ok env2 st2 => exact fun q ρ2 σ2 H2 x2 s2 re2 hw2 => q ρ2 σ2 H2 (x1.trans x2) s2 re2 (hw2.trans hw1)
        | ex c d st => exact fun q => q.elim
        | bad => exact fun q => q.elim
      | ex c d st => exact fun q => q.elim
      | bad => exact fun q => q.elim
theorem r_ctup {es : List Expr} {k : Nat} {u : List D → Env → M Env} {n : Nat} (hc : X.calm = true) (h : PGs X es (dGsc G vs u))
    (hn : (assignEach es X.env).length = n := by rfl) (hst : (assignEach es X.env).findIdx? (·.1) = none := by rfl) : PG X (.Tuple es k pos) (dGc G vs (tTup n u)) :=
  (pg_tup hc h hn hst).imp fun v σ H Q ⟨ρ, st, env, d, s, re, r, p⟩ => by
    cases d with
    | tup ds =>
      obtain ⟨a, xs, e, ha, rd⟩ := r
      unfold tTup at p
      dsimp only at p
      split at p
      · rename_i hl
        exact ⟨a, xs, e, .inl (.inl ha), by rw [← rd.length]; exact hl, ρ, st, env, ds, s, re, rd, p⟩
      · exact p.elim
    | _ => exact p.elim
theorem r_yes : PTs X [] (dT G E tYes) := ⟨fun pins s σ H Q I ⟨ρ, st, env, sm, re, p⟩ => pts_nil.run pins s σ H Q I (p ρ H (Ext.refl _ _) sm)⟩
theorem r_ifc {c : Expr} {m : Env → M Bool} (h : PT X c (dT G E m)) : PTs X [c] (dT G E m) := pts_one h
end

section
variable {X : Cx} {G : Wd} {E : XK} {elt tg iter : Expr} {ifs : List Expr} {scope : Scope} {own : List (Str × Nat)} {pos : Pos} {msrc : Env → M Src} {t : Tgt} {mt : Env → M Bool} {me : Env → M D}
theorem lc_imp {vs : List Nat} {σ : L2.St} {H : Hp} {Q : VK} (h : dE G E (eLc msrc t vs mt me) σ H Q) : tLc (dI G E msrc) (dGc G vs t) (dT G WF mt) (dE G WF me) vs σ H Q := by
  obtain ⟨ρ, st, env, s, re, p⟩ := h
  refine ⟨ρ, st, env, s, re, (Post.bind p).imp fun src st1 q ρ1 H1 J x1 s1 it Dl hD => ?_⟩
  split at q
  · rename_i hlen
    have q0 : Post0 (fun r st' => PostV G ρ1 H1 (st' ++ [.lst ([] ++ r)]) (.ref st'.length) Q) (lcL src.2 t mt me (wipeE env vs) src.1 st1) := Post0.of q fun r st' z => PostV.of x1 z
    have re1 := s.relEnv x1 re
    have nD1 : Dl ∉ ρ1 := fun z => by obtain ⟨o, e⟩ := s1.dom z; rw [hD] at e; cases e
    refine ⟨fun i m H => i + m = src.1.length ∧ ∃ ρ st acc vacc, Ext ρ1 H1 ρ H ∧ Sim G ρ st H ∧ Dl ∉ ρ ∧ H Dl = some (.lst vacc) ∧ RelDs G ρ H acc vacc ∧ acc.length ≤ i ∧ RelEnv G ρ H env σ ∧
      Post0 (fun r st' => PostV G ρ1 H1 (st' ++ [.lst (acc ++ r)]) (.ref st'.length) Q) (lcL src.2 t mt me (wipeE env vs) (src.1.drop i) st),
      ⟨src.1.length, by omega, ρ1, st1, [], [], Ext.laid hD, s1.laid hD, nD1, upd_same, rfl, Nat.le_refl _, s1.relEnv (Ext.laid hD) re1, q0⟩, ?_⟩
    rintro i m H2 ⟨him, ρ2, st2, acc, vacc, x2, s2, n2, eD, ra, hacc, re2, p2⟩
    by_cases hi : i < src.1.length
    · have e : src.1.drop i = src.1[i] :: src.1.drop (i + 1) := by rw [List.drop_eq_getElem_cons hi]
      rw [e] at p2
      unfold lcL at p2
      split at p2
      · rename_i hg2
        obtain ⟨go, yl⟩ := (it i ρ2 st2 H2 x2 s2 hg2).1 src.1[i] (List.getElem?_eq_getElem hi)
        refine .inr ⟨go, fun H => ∃ ρ st acc vacc, Ext ρ1 H1 ρ H ∧ Sim G ρ st H ∧ Dl ∉ ρ ∧ H Dl = some (.lst vacc) ∧ RelDs G ρ H acc vacc ∧ acc.length ≤ i + 1 ∧ RelEnv G ρ H env σ ∧
          Post0 (fun r st' => PostV G ρ1 H1 (st' ++ [.lst (acc ++ r)]) (.ref st'.length) Q) (lcL src.2 t mt me (wipeE env vs) (src.1.drop (i + 1)) st), fun H' z => ⟨m - 1, by omega, by omega, z⟩, fun xv H3 y => ?_⟩
        obtain ⟨x3, s3, r3⟩ := yl xv H3 y
        have eD3 : H3 Dl = some (.lst vacc) := x3.keep _ _ eD n2
        refine ⟨ρ2, st2, wipeE env vs, src.1[i], s3, wipe_rel (s2.relEnv x3 re2) vs, r3, ?_⟩
        have p3 := Post0.bind p2
        revert p3
        cases t src.1[i] (wipeE env vs) st2 with
        | ex c d st => exact fun q => q.elim
        | bad => exact fun q => q.elim
        | ok env4 st4 =>
          intro p4 ρ4 σ4 H4 x4 s4 re4 hw
          have p4 : Post0 _ ((mt env4 st4).bind _) := p4
          have nn : ∀ {ρ ρ' : List Addr} {H H' : Hp} {o : HO}, Ext ρ H ρ' H' → H Dl = some o → Dl ∉ ρ → Dl ∉ ρ' := fun x e n z => by
            have := x.new Dl z n
            rw [e] at this; cases this
          have n4 := nn x4 eD3 n2
          have eD4 := x4.keep _ _ eD3 n2
          refine ⟨hw.trans (wipe_wipe σ vs), ρ4, st4, env4, s4, re4, (Post0.bind p4).post fun c st5 p5 ρ5 H5 x5 s5 => ?_⟩
          have n5 := nn x5 eD4 n4
          have eD5 := x5.keep _ _ eD4 n4
          have x15 := x2.trans (x3.trans (x4.trans x5))
          have x25 := x3.trans (x4.trans x5)
          cases c with
          | false =>
            refine iteF ?_
            rw [if_neg Bool.false_ne_true] at p5
            exact ⟨ρ5, st5, acc, vacc, x15, s5, n5, eD5, s2.relDs x25 ra, by omega, s2.relEnv x25 re2, p5⟩
          | true =>
            refine iteT ?_
            rw [if_pos rfl] at p5
            refine ⟨ρ5, st5, env4, s5, s4.relEnv x5 re4, (Post0.bind p5).post fun yd st6 p6 ρ6 yv H6 x6 s6 r6 => ?_⟩
            have n6 := nn x6 eD5 n5
            have eD6 := x6.keep _ _ eD5 n5
            have x26 := x25.trans x6
            have ra6 := s2.relDs x26 ra
            have tk : ∀ c u, Fix u → H6 c = some u → upd H6 Dl (.lst (vacc ++ [yv])) c = some u := fun c u f q => by rw [upd_ne (ne_of q eD6 (by intro z; subst z; exact f))]; exact q
            refine ⟨vacc, eD6, by rw [← ra.length, lim_eq]; omega, ρ6, st6, acc ++ [yd], vacc ++ [yv], Ext.other (x15.trans x6) hD, s6.other eD6 (fun z => z) n6, n6, upd_same, RelDs.mono (List.prefix_refl _) tk _ _ (ra6.append (RelDs.one r6)), by simp; omega, ?_, ?_⟩
            · have re6 := s2.relEnv x26 re2
              exact ⟨re6.1, fun j d e => let ⟨v, e1, r⟩ := re6.2 j d e; ⟨v, e1, RelD.mono (List.prefix_refl _) tk _ _ r⟩⟩
            · have p7 := Post0.bind p6
              revert p7
              cases lcL src.2 t mt me (wipeE env vs) (src.1.drop (i + 1)) st6 with
              | ex c d st => exact fun q => q.elim
              | bad => exact fun q => q.elim
              | ok r st7 =>
                intro p8
                show PostV G ρ1 H1 (st7 ++ [.lst ((acc ++ [yd]) ++ r)]) (.ref st7.length) Q
                rw [List.append_assoc]
                exact p8
      · exact p2.elim
    · have e : src.1.drop i = [] := List.drop_eq_nil_of_le (by omega)
      rw [e] at p2
      unfold lcL at p2
      split at p2
      · rename_i hg2
        refine .inl ⟨(it i ρ2 st2 H2 x2 s2 hg2).2 (by omega), ?_⟩
        have p3 : PostV G ρ1 H1 (st2 ++ [.lst (acc ++ [])]) (.ref st2.length) Q := p2
        rw [List.append_nil] at p3
        exact p3 (ρ2 ++ [Dl]) (.ref Dl) H2 (x2.adopt hD) (s2.adopt eD n2 ⟨vacc, rfl, ra⟩) ⟨Dl, alloc_get s2.len, rfl⟩
      · exact p2.elim
  · exact q.elim
theorem r_lc (hc : X.calm = true) (hN : X.N.Nodup) (hi : PI X tg iter (dI G E msrc)) (ok : BlkOk X.N X.env.scope scope own)
    (hg : ∀ (s : Shared) (H : Hp) (C : Addr) (cl : List (Str × Addr)) (fp : List Addr), PG (X.blk s H scope (compEnvC scope cl C X.env) fp) tg (dGc G (own.map (·.2)) t)) (ht : ∀ (s : Shared) (H : Hp) (C : Addr) (cl : List (Str × Addr)) (fp : List Addr), PTs (X.blk s H scope (compEnvC scope cl C X.env) fp) ifs (dT G WF mt))
    (he : ∀ (s : Shared) (H : Hp) (C : Addr) (cl : List (Str × Addr)) (fp : List Addr), PE (X.blk s H scope (compEnvC scope cl C X.env) fp) elt (dE G WF me)) (hs : ∀ x, foldedSetIterable iter X.env x = pure x := by intro _; rfl) :
    PE X (.ListComp elt [⟨tg, iter, ifs, 0⟩] scope pos) (dE G E (eLc msrc t (own.map (·.2)) mt me)) := (pe_lc hc hN hi ok hg ht he hs).imp fun σ H Q h => lc_imp h
theorem r_setLc {i : Nat} {y : Str} {py spos : Pos} (hc : X.calm = true) (hN : X.N.Nodup) (hi : PI X tg iter (dI G E msrc)) (ok : BlkOk X.N X.env.scope scope own)
    (hg : ∀ (s : Shared) (H : Hp) (C : Addr) (cl : List (Str × Addr)) (fp : List Addr), PG (X.blk s H scope (compEnvC scope cl C X.env) fp) tg (dGc G (own.map (·.2)) t)) (ht : ∀ (s : Shared) (H : Hp) (C : Addr) (cl : List (Str × Addr)) (fp : List Addr), PTs (X.blk s H scope (compEnvC scope cl C X.env) fp) ifs (dT G WF mt))
    (he : ∀ (s : Shared) (H : Hp) (C : Addr) (cl : List (Str × Addr)) (fp : List Addr), PE (X.blk s H scope (compEnvC scope cl C X.env) fp) elt (dE G WF me)) (hy : X.N[i]? = some y := by rfl) (hyl : X.env.scope.names.lookup y = some .local := by rfl)
    (hsw : swapsWith (.ListComp elt [⟨tg, iter, ifs, 0⟩] scope pos) (some (.Name y py)) spos.line X.env = pure true := by exact sw_true rfl rfl rfl (by decide +kernel)) (hs : ∀ x, foldedSetIterable iter X.env x = pure x := by intro _; rfl) :
    PS X (.Assign [.Name y py] (.ListComp elt [⟨tg, iter, ifs, 0⟩] scope pos) spos) (dS G E (sSet i (eLc msrc t (own.map (·.2)) mt me))) :=
  (ps_setLc hc hN hy hyl hsw hi ok hg ht he hs).imp fun Dn σ H h => lc_imp (dE_thenS h fun ρ st env d v H1 s re r p => PostF.nx_here (env := env.set i (some d)) p s (re.set r))
end
end MM

/-! Operators and built-ins on D. -/
namespace MM
open PySem PySem.Spec PyProof.Rows L2

/-! ### reading -/
def lstAt (st : Sto) (i : Nat) : Option (List D) := match st[i]? with
  | some (.lst ds) => some ds
  | _ => none
def lstOf (st : Sto) : D → Option (List D)
  | .ref i => lstAt st i
  | _ => none
def mutAt (st : Sto) (i : Nat) : Option (List D) := match st[i]? with
  | some (.lst ds) => some ds
  | _ => none
section
variable {G : Wd} {E : XK} {ρ ρ' : List Addr} {H H' : Hp} {st st' : Sto} {Q : VK}
theorem lst_rel (K : PySem.W.Frag) (s : Sim G ρ st H) {i : Nat} {ds : List D} (e : lstAt st i = some ds) {v : V} (r : RelD G ρ H (.ref i) v) : ∃ a vs, v = .ref a ∧ SqL K H a vs ∧ RelDs G ρ H ds vs := by
  obtain ⟨a, ea, ev⟩ := r
  unfold lstAt at e
  split at e
  · rename_i ds' q
    cases e
    obtain ⟨a', ho, e1, e2, vs, e3, rr⟩ := s.at q
    rw [ea] at e1; cases e1
    exact ⟨a, vs, ev, .inl (.inl (by rw [e2, e3])), rr⟩
  · cases e
theorem mut_rel (s : Sim G ρ st H) {i : Nat} {ds : List D} (e : mutAt st i = some ds) {v : V} (r : RelD G ρ H (.ref i) v) : ∃ a vs, v = .ref a ∧ ρ[i]? = some a ∧ H a = some (.lst vs) ∧ RelDs G ρ H ds vs := by
  obtain ⟨a, ea, ev⟩ := r
  unfold mutAt at e
  split at e
  · rename_i ds' q
    cases e
    obtain ⟨a', ho, e1, e2, vs, e3, rr⟩ := s.at q
    rw [ea] at e1; cases e1
    exact ⟨a, vs, ev, ea, by rw [e2, e3], rr⟩
  · cases e
theorem RelD.int {i : Int} {v : V} (h : RelD G ρ H (.int i) v) : v = .int i := h
theorem RelD.bl {b : Bool} {v : V} (h : RelD G ρ H (.bl b) v) : v = .bl b := h
theorem RelD.str {s : List Nat} {v : V} (h : RelD G ρ H (.str s) v) : v = .str ⟨s.toArray⟩ := h
theorem RelD.non {v : V} (h : RelD G ρ H .non v) : v = .non := h
end

/-! ### arithmetic -/
def opAdd : D → D → M D
  | .int i, .int j => M.ret (.int (i + j))
  | .str a, .str b => fun st => if a.length + b.length ≤ lim then .ok (.str (a ++ b)) st else .bad
  | .tup a, .tup b => fun st => if a.length + b.length ≤ lim then .ok (.tup (a ++ b)) st else .bad
  | .ref i, .ref j => fun st => match mutAt st i, mutAt st j with
    | some a, some b => if a.length + b.length ≤ lim then alloc (.lst (a ++ b)) st else .bad
    | _, _ => .bad
  | _, _ => M.bad
def opSub : D → D → M D
  | .int i, .int j => M.ret (.int (i - j))
  | _, _ => M.bad
def rep {α : Type} (n : Nat) (l : List α) : List α := (List.replicate n l).flatten
def opMul : D → D → M D
  | .int i, .int j => fun st => if i.natAbs < 2 ^ 64 ∨ j.natAbs < 2 ^ 64 then .ok (.int (i * j)) st else .bad
  | .ref i, .int k => fun st => match mutAt st i with
    | some a => if -(2 ^ 63) ≤ k ∧ k < 2 ^ 63 ∧ a.length * k.toNat ≤ lim then alloc (.lst (rep k.toNat a)) st else .bad
    | none => .bad
  | .str a, .int k => fun st => if -(2 ^ 63) ≤ k ∧ k < 2 ^ 63 ∧ a.length * k.toNat ≤ lim then .ok (.str (rep k.toNat a)) st else .bad
  | _, _ => M.bad
def opDiv : D → D → M D
  | .int i, .int j => fun st => if j ≠ 0 ∧ j.natAbs < 1073741824 then .ok (.int (i.fdiv j)) st else .bad
  | _, _ => M.bad
def opMod : D → D → M D
  | .int i, .int j => fun st => if j ≠ 0 then .ok (.int (i.fmod j)) st else .bad
  | _, _ => M.bad
def opPow : D → D → M D
  | .int i, .int j => fun st => if 0 ≤ j ∧ j ≤ 1000000 ∧ i.natAbs < 2 ^ 64 then .ok (.int (i ^ j.toNat)) st else .bad
  | _, _ => M.bad
def opNeg : D → M D
  | .int i => M.ret (.int (-i))
  | _ => M.bad
section
variable {X : Cx} {G : Wd} {E : XK}
theorem mut_len {ρ : List Addr} {H : Hp} {ds : List D} {vs : List V} (r : RelDs G ρ H ds vs) : vs.length = ds.length := r.length.symm
theorem rep_rel {ρ : List Addr} {H : Hp} {ds : List D} {vs : List V} (r : RelDs G ρ H ds vs) : ∀ n, RelDs G ρ H (rep n ds) (List.replicate n vs).flatten
  | 0 => rfl
  | n + 1 => by
    unfold rep
    rw [List.replicate_succ, List.replicate_succ, List.flatten_cons, List.flatten_cons]
    exact r.append (rep_rel r n)
theorem o_add : OpR X (binaryOp .Add) (dO G E opAdd) := (op_add.or (op_add_str.or (op_catA.or op_cat))).imp fun x y H Q ⟨ρ, st, d, e, s, r1, r2, p⟩ => by
  unfold opAdd at p
  split at p
  · exact .inl ⟨_, _, r1.int, r2.int, PostV.here p s rfl⟩
  · rename_i a b
    split at p
    · rename_i hl
      exact .inr (.inl ⟨_, _, r1.str, r2.str, by rw [lim_eq]; simpa [Str.length] using hl, by
        have e : (⟨a.toArray⟩ ++ ⟨b.toArray⟩ : Str) = ⟨(a ++ b).toArray⟩ := by show (⟨a.toArray ++ b.toArray⟩ : Str) = _; simp
        rw [e]; exact PostV.here p s rfl⟩)
    · exact p.elim
  · rename_i a b
    split at p
    · rename_i hl
      obtain ⟨p1, vs, e1, h1, q1⟩ := r1
      obtain ⟨p2, us, e2, h2, q2⟩ := r2
      refine .inr (.inr (.inl ⟨p1, p2, vs, us, e1, e2, .inl (.inl h1), .inl (.inl h2), by rw [mut_len q1, mut_len q2, lim_eq]; exact hl, fun ev => ?_, fun _ eu => ?_, fun _ _ q hq => PostV.tup p s (q1.append q2) hq⟩))
      · subst ev
        have ea : a = [] := List.length_eq_zero_iff.mp (by rw [q1.length]; rfl)
        subst ea
        exact PostV.here p s ⟨p2, us, rfl, h2, q2⟩
      · subst eu
        have eb : b = [] := List.length_eq_zero_iff.mp (by rw [q2.length]; rfl)
        subst eb
        rw [List.append_nil] at p
        exact PostV.here p s ⟨p1, vs, rfl, h1, q1⟩
    · exact p.elim
  · rename_i i j
    split at p
    · rename_i a b ea eb
      split at p
      · rename_i hl
        obtain ⟨p1, vs, e1, _, h1, q1⟩ := mut_rel s ea r1
        obtain ⟨p2, us, e2, _, h2, q2⟩ := mut_rel s eb r2
        exact .inr (.inr (.inr ⟨p1, p2, vs, us, e1, e2, h1, h2, by rw [mut_len q1, mut_len q2, lim_eq]; exact hl, fun q hq => PostV.alloc p s ⟨_, rfl, q1.append q2⟩ hq⟩))
      · exact p.elim
    · exact p.elim
  · exact p.elim
theorem str_rep (a : List Nat) (k : Int) : (if k < 1 then Str.empty else if (k == 1 || (⟨a.toArray⟩ : Str).length == 0) = true then (⟨a.toArray⟩ : Str) else ⟨(List.replicate k.toNat a.toArray).foldl (· ++ ·) #[]⟩) = ⟨(rep k.toNat a).toArray⟩ := by
  have fold : ∀ (n : Nat) (acc : Array Nat), (List.replicate n a.toArray).foldl (· ++ ·) acc = acc ++ (rep n a).toArray := by
    intro n
    induction n with
    | zero => intro acc; simp [rep]
    | succ n ih =>
      intro acc
      rw [List.replicate_succ, List.foldl_cons, ih]
      unfold rep
      rw [List.replicate_succ, List.flatten_cons]
      simp
  by_cases h : k < 1
  · rw [if_pos h]
    have e : k.toNat = 0 := by omega
    rw [e]; rfl
  · rw [if_neg h]
    by_cases h2 : (k == 1 || (⟨a.toArray⟩ : Str).length == 0) = true
    · rw [if_pos h2]
      rw [Bool.or_eq_true, beq_iff_eq, beq_iff_eq] at h2
      rcases h2 with h2 | h2
      · subst h2
        simp [rep]
      · have ea : a = [] := by
          have : a.toArray.size = 0 := h2
          simpa using this
        subst ea
        have : rep k.toNat ([] : List Nat) = [] := by unfold rep; simp
        rw [this]
    · rw [if_neg h2, fold]; simp
theorem op_mul_str {X : Cx} : OpR X (binaryOp .Mult) (fun x y H Q => ∃ (a : List Nat) (k : Int), x = .str ⟨a.toArray⟩ ∧ y = .int k ∧ (-(2 ^ 63) ≤ k ∧ k < 2 ^ 63 ∧ a.length * k.toNat ≤ lim) ∧ Q (.str ⟨(rep k.toNat a).toArray⟩) H) := by
  intro pins s σ H x y v u Q I rx ry h
  obtain ⟨a, k, rfl, rfl, ⟨h1, h2, h3⟩, q⟩ := h
  obtain ⟨t, rfl⟩ := rx
  obtain ⟨t', rfl⟩ := ry
  have hl : (⟨a.toArray⟩ : Str).length = a.length := by simp [Str.length]
  refine PySem.SB.mul ⟨?_, fun h4 h5 => ?_, fun h4 h5 => ?_⟩ fun t2 tk => ?_
  · rw [Bool.or_eq_false_iff]
    exact ⟨decide_eq_false (by omega), decide_eq_false (by omega)⟩
  · rw [hl]
    have h6 : (a.length * k.toNat : Nat) ≤ 16777216 := h3
    have h7 : ((a.length * k.toNat : Nat) : Int) = (a.length : Int) * k := by
      rw [Int.natCast_mul, Int.toNat_of_nonneg (by omega)]
    have h8 : (a.length : Int) * k ≤ 2 ^ 63 - 1 := by rw [← h7]; omega
    have := (Int.le_ediv_iff_mul_le (show 0 < k by omega)).mpr h8
    omega
  · rw [hl]
    show decide (_ > sizeLine) = false
    rw [lim_eq]
    exact decide_eq_false (by omega)
  · have e : PySem.Txt.mul ⟨a.toArray⟩ k = ⟨(rep k.toNat a).toArray⟩ := str_rep a k
    rw [e]
    exact ⟨.str _, H, I.tok tk, ⟨_, rfl⟩, q⟩
theorem o_mul : OpR X (binaryOp .Mult) (dO G E opMul) := (op_mul.or (op_rep.or op_mul_str)).imp fun x y H Q ⟨ρ, st, d, e, s, r1, r2, p⟩ => by
  unfold opMul at p
  split at p
  · split at p
    · rename_i h
      exact .inl ⟨_, _, r1.int, r2.int, h.elim (fun h => .inl (by omega)) (fun h => .inr (by omega)), PostV.here p s rfl⟩
    · exact p.elim
  · split at p
    · rename_i a ea
      split at p
      · rename_i hl
        obtain ⟨p1, vs, e1, _, h1, q1⟩ := mut_rel s ea r1
        exact .inr (.inl ⟨p1, _, vs, e1, r2.int, h1, hl.1, hl.2.1, by rw [mut_len q1, lim_eq]; exact hl.2.2, fun q hq => PostV.alloc p s ⟨_, rfl, rep_rel q1 _⟩ hq⟩)
      · exact p.elim
    · exact p.elim
  · split at p
    · rename_i a k hl
      exact .inr (.inr ⟨a, k, r1.str, r2.int, hl, PostV.here p s rfl⟩)
    · exact p.elim
  · exact p.elim
theorem o_sub : OpR X (binaryOp .Sub) (dO G E opSub) := op_sub.imp fun x y H Q ⟨ρ, st, d, e, s, r1, r2, p⟩ => by
  unfold opSub at p
  split at p
  · exact ⟨_, _, r1.int, r2.int, PostV.here p s rfl⟩
  · exact p.elim
theorem o_div : OpR X (binaryOp .FloorDiv) (dO G E opDiv) := op_fdivN.imp fun x y H Q ⟨ρ, st, d, e, s, r1, r2, p⟩ => by
  unfold opDiv at p
  split at p
  · split at p
    · rename_i h
      exact ⟨_, _, r1.int, r2.int, h, PostV.here p s rfl⟩
    · exact p.elim
  · exact p.elim
theorem o_mod : OpR X (binaryOp .Mod) (dO G E opMod) := op_modN.imp fun x y H Q ⟨ρ, st, d, e, s, r1, r2, p⟩ => by
  unfold opMod at p
  split at p
  · split at p
    · rename_i h
      exact ⟨_, _, r1.int, r2.int, h, PostV.here p s rfl⟩
    · exact p.elim
  · exact p.elim
theorem o_pow : OpR X (binaryOp .Pow) (dO G E opPow) := op_pow.imp fun x y H Q ⟨ρ, st, d, e, s, r1, r2, p⟩ => by
  unfold opPow at p
  split at p
  · split at p
    · rename_i h
      exact ⟨_, _, r1.int, r2.int, h, PostV.here p s rfl⟩
    · exact p.elim
  · exact p.elim
theorem o_neg : UnR X (unaryOp .USub) (dU G E opNeg) := un_neg.imp fun x H Q ⟨ρ, st, d, s, r1, p⟩ => by
  unfold opNeg at p
  split at p
  · exact ⟨_, r1.int, PostV.here p s rfl⟩
  · exact p.elim
end
end MM

/-! Comparisons on D. -/
namespace MM
open PySem PySem.Spec PyProof.Rows L2

def opLt : D → D → M D
  | .int i, .int j => M.ret (.bl (decide (i < j)))
  | .str a, .str b => M.ret (.bl (decide (a < b)))
  | _, _ => M.bad
def opLe : D → D → M D
  | .int i, .int j => M.ret (.bl (decide (i ≤ j)))
  | .str a, .str b => M.ret (.bl (!decide (b < a)))
  | _, _ => M.bad
def opGt : D → D → M D
  | .int i, .int j => M.ret (.bl (decide (j < i)))
  | .str a, .str b => M.ret (.bl (decide (b < a)))
  | _, _ => M.bad
def opGe : D → D → M D
  | .int i, .int j => M.ret (.bl (decide (j ≤ i)))
  | .str a, .str b => M.ret (.bl (!decide (a < b)))
  | _, _ => M.bad
section
variable {X : Cx} {G : Wd} {E : XK}
theorem o_lt : OpR X (compareOp .Lt) (dO G E opLt) := (op_lt.or op_lt_str).imp fun x y H Q ⟨ρ, st, d, e, s, r1, r2, p⟩ => by
  unfold opLt at p
  split at p
  · exact .inl ⟨_, _, r1.int, r2.int, PostV.here p s rfl⟩
  · exact .inr ⟨_, _, r1.str, r2.str, PostV.here p s rfl⟩
  · exact p.elim
theorem o_le : OpR X (compareOp .LtE) (dO G E opLe) := (op_le.or op_le_str).imp fun x y H Q ⟨ρ, st, d, e, s, r1, r2, p⟩ => by
  unfold opLe at p
  split at p
  · exact .inl ⟨_, _, r1.int, r2.int, PostV.here p s rfl⟩
  · exact .inr ⟨_, _, r1.str, r2.str, PostV.here p s rfl⟩
  · exact p.elim
theorem o_gt : OpR X (compareOp .Gt) (dO G E opGt) := (op_gt.or op_gt_str).imp fun x y H Q ⟨ρ, st, d, e, s, r1, r2, p⟩ => by
  unfold opGt at p
  split at p
  · exact .inl ⟨_, _, r1.int, r2.int, PostV.here p s rfl⟩
  · exact .inr ⟨_, _, r1.str, r2.str, PostV.here p s rfl⟩
  · exact p.elim
theorem o_ge : OpR X (compareOp .GtE) (dO G E opGe) := (op_ge.or op_ge_str).imp fun x y H Q ⟨ρ, st, d, e, s, r1, r2, p⟩ => by
  unfold opGe at p
  split at p
  · exact .inl ⟨_, _, r1.int, r2.int, PostV.here p s rfl⟩
  · exact .inr ⟨_, _, r1.str, r2.str, PostV.here p s rfl⟩
  · exact p.elim
end

/-! ### equality of data -/
/-- the data that a value is, to a depth -/
def toPy (st : Sto) : Nat → D → Option PyData
  | 0, _ => none
  | _ + 1, .non => some .none
  | _ + 1, .bl b => some (.bool b)
  | _ + 1, .int i => some (.int i)
  | _ + 1, .str s => some (.str ⟨s.toArray⟩)
  | n + 1, .tup ds => (ds.mapM (toPy st n)).map .tuple
  | n + 1, .ref i => (lstAt st i).bind fun ds => (ds.mapM (toPy st n)).map .list
  | _ + 1, _ => none
section
variable {G : Wd} {ρ : List Addr} {H : Hp} {st : Sto} (K : PySem.W.Frag)
theorem toPy_all {n : Nat} (ih : ∀ (d : D) (x : PyData) (v : V), toPy st n d = some x → RelD G ρ H d v → Dp K H v x) : ∀ (ds : List D) (xs : List PyData) (vs : List V), ds.mapM (toPy st n) = some xs → RelDs G ρ H ds vs → DpAll K H vs xs
  | [], xs, vs, e, r => by
    have e1 : xs = [] := by simpa using e.symm
    have e2 : vs = [] := r
    subst e1; subst e2
    exact .nil
  | d :: ds, xs, vs, e, r => by
    obtain ⟨v, vr, rfl, r1, r2⟩ := r
    rw [List.mapM_cons] at e
    cases h1 : toPy st n d with
    | none => rw [h1] at e; cases e
    | some x =>
      cases h2 : ds.mapM (toPy st n) with
      | none => rw [h1, h2] at e; cases e
      | some ys =>
        rw [h1, h2] at e
        have e' : x :: ys = xs := by simpa using e
        subst e'
        exact .cons (ih d x v h1 r1) (toPy_all ih ds ys vr h2 r2)
theorem toPy_rel (s : Sim G ρ st H) : ∀ (n : Nat) (d : D) (x : PyData) (v : V), toPy st n d = some x → RelD G ρ H d v → Dp K H v x
  | 0, _, _, _, e, _ => by cases e
  | n + 1, .non, x, v, e, r => by
    cases e
    rw [show v = .non from r]; exact .non
  | n + 1, .bl b, x, v, e, r => by
    cases e
    rw [show v = .bl b from r]; exact .bl b
  | n + 1, .int b, x, v, e, r => by
    cases e
    rw [show v = .int b from r]; exact .int b
  | n + 1, .str b, x, v, e, r => by
    cases e
    rw [show v = .str ⟨b.toArray⟩ from r]; exact .str _
  | n + 1, .tup ds, x, v, e, r => by
    obtain ⟨xs, e1, e2⟩ := Option.map_eq_some_iff.mp (show (ds.mapM (toPy st n)).map PyData.tuple = some x from e)
    obtain ⟨a, vs, ev, ha, rd⟩ := r
    subst e2; subst ev
    exact .tup (.inl (.inl ha)) (toPy_all K (toPy_rel s n) ds xs vs e1 rd)
  | n + 1, .ref i, x, v, e, r => by
    have e : ((lstAt st i).bind fun ds => (ds.mapM (toPy st n)).map PyData.list) = some x := e
    obtain ⟨ds, e0, e⟩ := Option.bind_eq_some_iff.mp e
    obtain ⟨xs, e1, e2⟩ := Option.map_eq_some_iff.mp e
    obtain ⟨a, vs, ev, ha, rd⟩ := lst_rel K s e0 r
    subst e2; subst ev
    exact .lst ha (toPy_all K (toPy_rel s n) ds xs vs e1 rd)
  | n + 1, .ty _, _, _, e, _ => by cases e
  | n + 1, .fn _ _, _, _, e, _ => by cases e
  | n + 1, .scr _, _, _, e, _ => by cases e
end
/-- scalars that == tells apart as data does -/
def eqS : D → D → Option Bool
  | .non, .non => some true
  | .non, .int _ => some false | .int _, .non => some false
  | .non, .bl _ => some false | .bl _, .non => some false
  | .non, .str _ => some false | .str _, .non => some false
  | .int i, .int j => some (decide (i = j))
  | .bl i, .bl j => some (decide (i = j))
  | .str i, .str j => some (decide (i = j))
  | .int _, .str _ => some false | .str _, .int _ => some false
  | .bl _, .str _ => some false | .str _, .bl _ => some false
  | _, _ => none
def eqD (st : Sto) (d e : D) : Option Bool := match eqS d e with
  | some b => some b
  | none => match toPy st 60 d, toPy st 60 e with
    | some x, some y => if SeqAt.shaped x && SeqAt.shaped y then some (PyData.eqv x y) else none
    | _, _ => none
def opEq (d e : D) : M D := fun st => match eqD st d e with
  | some b => .ok (.bl b) st
  | none => .bad
def opNe (d e : D) : M D := fun st => match eqD st d e with
  | some b => .ok (.bl (!b)) st
  | none => .bad
theorem str_eq {i j : List Nat} : decide (V.str ⟨i.toArray⟩ = V.str ⟨j.toArray⟩) = decide (i = j) := by
  by_cases h : i = j
  · subst h; simp
  · rw [decide_eq_false h]
    exact decide_eq_false fun z => h (by
      have z' : (⟨i.toArray⟩ : Str) = ⟨j.toArray⟩ := V.str.inj z
      have z2 : i.toArray = j.toArray := Str.mk.inj z'
      exact List.toArray_inj z2)
section
variable {X : Cx} {G : Wd} {E : XK} {ρ : List Addr} {H : Hp} {st : Sto}
theorem eqS_rel {d e : D} {b : Bool} {x y : V} (h : eqS d e = some b) (r1 : RelD G ρ H d x) (r2 : RelD G ρ H e y) : scal x y = true ∧ decide (x = y) = b := by
  unfold eqS at h
  split at h <;> first
    | (cases h; done)
    | (cases h; rw [r1.non, r2.non]; exact ⟨rfl, by decide⟩)
    | (cases h; rw [r1.non, r2.int]; exact ⟨rfl, by simp⟩)
    | (cases h; rw [r1.int, r2.non]; exact ⟨rfl, by simp⟩)
    | (cases h; rw [r1.non, r2.bl]; exact ⟨rfl, by simp⟩)
    | (cases h; rw [r1.bl, r2.non]; exact ⟨rfl, by simp⟩)
    | (cases h; rw [r1.non, r2.str]; exact ⟨rfl, by simp⟩)
    | (cases h; rw [r1.str, r2.non]; exact ⟨rfl, by simp⟩)
    | (cases h; rw [r1.int, r2.int]; exact ⟨rfl, by simp⟩)
    | (cases h; rw [r1.bl, r2.bl]; exact ⟨rfl, by simp⟩)
    | (cases h; rw [r1.str, r2.str]; exact ⟨rfl, str_eq⟩)
    | (cases h; rw [r1.int, r2.str]; exact ⟨rfl, by simp⟩)
    | (cases h; rw [r1.str, r2.int]; exact ⟨rfl, by simp⟩)
    | (cases h; rw [r1.bl, r2.str]; exact ⟨rfl, by simp⟩)
    | (cases h; rw [r1.str, r2.bl]; exact ⟨rfl, by simp⟩)
theorem o_eq (hu : X.A.units + 64 < cLine) : OpR X (compareOp .Eq) (dO G E opEq) := (op_eq.or (op_eqD hu)).imp fun x y H Q ⟨ρ, st, d, e, s, r1, r2, p⟩ => by
  unfold opEq at p
  split at p
  · rename_i b h
    unfold eqD at h
    split at h
    · rename_i b' h'
      cases h
      obtain ⟨h1, h2⟩ := eqS_rel h' r1 r2
      exact .inl ⟨h1, by rw [h2]; exact PostV.here p s rfl⟩
    · split at h
      · rename_i u w hu' hw
        split at h
        · rename_i hs
          cases h
          rw [Bool.and_eq_true] at hs
          exact .inr ⟨u, w, toPy_rel X.K s 60 d u x hu' r1, toPy_rel X.K s 60 e w y hw r2, hs.1, hs.2, PostV.here p s rfl⟩
        · cases h
      · cases h
  · exact p.elim
theorem o_ne (hu : X.A.units + 64 < cLine) : OpR X (compareOp .NotEq) (dO G E opNe) := (op_ne.or (op_neD hu)).imp fun x y H Q ⟨ρ, st, d, e, s, r1, r2, p⟩ => by
  unfold opNe at p
  split at p
  · rename_i b h
    unfold eqD at h
    split at h
    · rename_i b' h'
      cases h
      obtain ⟨h1, h2⟩ := eqS_rel h' r1 r2
      exact .inl ⟨h1, by rw [h2]; exact PostV.here p s rfl⟩
    · split at h
      · rename_i u w hu' hw
        split at h
        · rename_i hs
          cases h
          rw [Bool.and_eq_true] at hs
          exact .inr ⟨u, w, toPy_rel X.K s 60 d u x hu' r1, toPy_rel X.K s 60 e w y hw r2, hs.1, hs.2, PostV.here p s rfl⟩
        · cases h
      · cases h
  · exact p.elim
end
/-! ### is None -/
def isNon : D → Bool
  | .non => true
  | _ => false
def opIs (d e : D) : M D := match e with
  | .non => M.ret (.bl (isNon d))
  | _ => M.bad
def opIsNot (d e : D) : M D := match e with
  | .non => M.ret (.bl (!isNon d))
  | _ => M.bad
section
variable {X : Cx} {G : Wd} {E : XK} {ρ : List Addr} {H : Hp}
theorem isNon_rel : ∀ {d : D} {x : V}, RelD G ρ H d x → decide (x = .non) = isNon d
  | .non, x, r => by rw [r.non]; rfl
  | .bl b, x, r => by rw [r.bl]; simp [isNon]
  | .int b, x, r => by rw [r.int]; simp [isNon]
  | .str b, x, r => by rw [r.str]; simp [isNon]
  | .tup ds, x, r => by obtain ⟨a, vs, e, _⟩ := r; rw [e]; simp [isNon]
  | .ref i, x, r => by obtain ⟨a, _, e⟩ := r; rw [e]; simp [isNon]
  | .ty n, x, r => by rw [show x = .ty n from r]; simp [isNon]
  | .fn _ _, x, r => r.2.elim
  | .scr is, x, r => by obtain ⟨a, e, _⟩ := r; rw [e]; simp [isNon]
theorem o_is : OpR X (compareOp .Is) (dO G E opIs) := op_isN.imp fun x y H Q ⟨ρ, st, d, e, s, r1, r2, p⟩ => by
  unfold opIs at p
  split at p
  · exact ⟨r2.non, by rw [isNon_rel r1]; exact PostV.here p s rfl⟩
  · exact p.elim
theorem o_isnot : OpR X (compareOp .IsNot) (dO G E opIsNot) := op_notN.imp fun x y H Q ⟨ρ, st, d, e, s, r1, r2, p⟩ => by
  unfold opIsNot at p
  split at p
  · exact ⟨r2.non, by rw [isNon_rel r1]; exact PostV.here p s rfl⟩
  · exact p.elim
end
end MM

/-! Membership, subscripts, slices, built-in functions and methods on D. -/
namespace MM
open PySem PySem.Spec PyProof.Rows L2

/-! ### sequences -/
/-- the items of a list (of the store, or frozen) or a tuple -/
def seqOf (st : Sto) : D → Option (List D)
  | .ref i => lstAt st i
  | .tup ds => some ds
  | _ => none
section
variable {G : Wd} {ρ : List Addr} {H : Hp} {st : Sto} {X : Cx} {E : XK} {Q : VK}
theorem seq_rel (K : PySem.W.Frag) (s : Sim G ρ st H) {d : D} {ds : List D} (e : seqOf st d = some ds) {v : V} (r : RelD G ρ H d v) : ∃ a vs, v = .ref a ∧ (SqL K H a vs ∨ SqT K H a vs) ∧ RelDs G ρ H ds vs := by
  unfold seqOf at e
  split at e
  · obtain ⟨a, vs, h1, h2, h3⟩ := lst_rel K s e r
    exact ⟨a, vs, h1, .inl h2, h3⟩
  · cases e
    obtain ⟨a, vs, h1, h2, h3⟩ := r
    exact ⟨a, vs, h1, .inr (.inl (.inl h2)), h3⟩
  · cases e
end
/-! ### in, not in -/
def flatD : D → Bool
  | .non => true
  | .bl _ => true
  | .int _ => true
  | .str _ => true
  | _ => false
def eqF : D → D → Bool
  | .non, .non => true
  | .bl a, .bl b => a == b
  | .bl a, .int b => (if a then 1 else 0) == b
  | .int a, .bl b => a == (if b then 1 else 0)
  | .int a, .int b => a == b
  | .str a, .str b => a == b
  | _, _ => false
def inD (st : Sto) (d e : D) : Option Bool := match e with
  | .str s => (match d with
    | .str [c] => some (decide (c ∈ s))
    | _ => none)
  | e => (seqOf st e).bind fun ds => if flatD d && ds.all flatD then some (ds.any fun y => eqF y d) else
      (match toPy st 60 d, toPy st 60 e with
        | some x, some (.list ys) => if SeqAt.shaped x && SeqAt.shaped (.list ys) then some (ys.any fun z => PyData.eqv z x) else none
        | _, _ => none)
def opIn (d e : D) : M D := fun st => match inD st d e with
  | some b => .ok (.bl b) st
  | none => .bad
def opNotIn (d e : D) : M D := fun st => match inD st d e with
  | some b => .ok (.bl (!b)) st
  | none => .bad
section
variable {G : Wd} {ρ : List Addr} {H : Hp} {st : Sto} {X : Cx} {E : XK} {Q : VK}
theorem flat_rel : ∀ {d : D} {x : V}, RelD G ρ H d x → flatV x = flatD d
  | .non, x, r => by rw [r.non]; rfl
  | .bl b, x, r => by rw [r.bl]; rfl
  | .int b, x, r => by rw [r.int]; rfl
  | .str b, x, r => by rw [r.str]; rfl
  | .tup ds, x, r => by obtain ⟨a, vs, e, _⟩ := r; rw [e]; rfl
  | .ref i, x, r => by obtain ⟨a, _, e⟩ := r; rw [e]; rfl
  | .ty n, x, r => by rw [show x = .ty n from r]; rfl
  | .fn _ _, x, r => r.2.elim
  | .scr is, x, r => by obtain ⟨a, e, _⟩ := r; rw [e]; rfl
theorem flat_all : ∀ {ds : List D} {vs : List V}, RelDs G ρ H ds vs → vs.all flatV = ds.all flatD
  | [], vs, r => by rw [show vs = [] from r]; rfl
  | d :: ds, vs, r => by
    obtain ⟨v, vr, rfl, r1, r2⟩ := r
    rw [List.all_cons, List.all_cons, flat_rel r1, flat_all r2]
theorem strb {a b : List Nat} : ((⟨a.toArray⟩ : Str) == ⟨b.toArray⟩) = (a == b) := by
  have h := str_eq (i := a) (j := b)
  rw [Bool.eq_iff_iff]
  rw [Bool.eq_iff_iff] at h
  simp at h ⊢
theorem eqF_rel {d e : D} {x y : V} (r1 : RelD G ρ H d x) (r2 : RelD G ρ H e y) (f1 : flatD d = true) (f2 : flatD e = true) : eqV x y = eqF d e := by
  cases d <;> first
    | (cases f1; done)
    | (cases e <;> first
      | (cases f2; done)
      | (rw [r1.non, r2.non]; rfl)
      | (rw [r1.non, r2.bl]; rfl)
      | (rw [r1.non, r2.int]; rfl)
      | (rw [r1.non, r2.str]; rfl)
      | (rw [r1.bl, r2.non]; rfl)
      | (rw [r1.bl, r2.bl]; rfl)
      | (rw [r1.bl, r2.int]; rfl)
      | (rw [r1.bl, r2.str]; rfl)
      | (rw [r1.int, r2.non]; rfl)
      | (rw [r1.int, r2.bl]; rfl)
      | (rw [r1.int, r2.int]; rfl)
      | (rw [r1.int, r2.str]; rfl)
      | (rw [r1.str, r2.non]; rfl)
      | (rw [r1.str, r2.bl]; rfl)
      | (rw [r1.str, r2.int]; rfl)
      | (rw [r1.str, r2.str]; exact strb))
theorem inF_rel {e : D} {y : V} (r2 : RelD G ρ H e y) (f2 : flatD e = true) : ∀ {ds : List D} {vs : List V}, RelDs G ρ H ds vs → ds.all flatD = true → inV y vs = ds.any fun z => eqF z e
  | [], vs, r, _ => by rw [show vs = [] from r]; rfl
  | d :: ds, vs, r, f => by
    obtain ⟨v, vr, rfl, r1, r3⟩ := r
    rw [List.all_cons, Bool.and_eq_true] at f
    show (eqV v y || inV y vr) = _
    rw [List.any_cons, eqF_rel r1 r2 f.1 f2, inF_rel r2 f2 r3 f.2]
theorem in_cases (K : PySem.W.Frag) (s : Sim G ρ st H) {d e : D} {b : Bool} (h : inD st d e = some b) {x y : V} (r1 : RelD G ρ H d x) (r2 : RelD G ρ H e y) :
    (∃ c z, x = .str ⟨#[c]⟩ ∧ y = .str z ∧ decide (c ∈ z.cps.toList) = b) ∨ (∃ p xs, y = .ref p ∧ (SqL K H p xs ∨ SqT K H p xs) ∧ flatV x = true ∧ xs.all flatV = true ∧ inV x xs = b) ∨
    ∃ u ws, Dp K H x u ∧ Dp K H y (.list ws) ∧ SeqAt.shaped u = true ∧ SeqAt.shaped (.list ws) = true ∧ (ws.any fun z => PyData.eqv z u) = b := by
  unfold inD at h
  split at h
  · split at h
    · cases h
      exact .inl ⟨_, _, r1.str, r2.str, by simp⟩
    · cases h
  · obtain ⟨ds, e1, h⟩ := Option.bind_eq_some_iff.mp h
    split at h
    · rename_i hf
      cases h
      rw [Bool.and_eq_true] at hf
      obtain ⟨a, vs, ev, hs, rd⟩ := seq_rel K s e1 r2
      exact .inr (.inl ⟨a, vs, ev, hs, by rw [flat_rel r1]; exact hf.1, by rw [flat_all rd]; exact hf.2, inF_rel r1 hf.1 rd hf.2⟩)
    · split at h
      · rename_i u ws hu hw
        split at h
        · rename_i hs
          cases h
          rw [Bool.and_eq_true] at hs
          exact .inr (.inr ⟨u, ws, toPy_rel K s 60 d u x hu r1, toPy_rel K s 60 e _ y hw r2, hs.1, hs.2, rfl⟩)
        · cases h
      · cases h
theorem o_in (hu : X.A.units + 65 < cLine) : OpR X (compareOp .In) (dO G E opIn) := (op_in_sign.or (op_in_seq.or (op_inD hu))).imp fun x y H Q ⟨ρ, st, d, e, s, r1, r2, p⟩ => by
  unfold opIn at p
  split at p
  · rename_i b h
    have q : Q (.bl b) H := PostV.here p s rfl
    rcases in_cases X.K s h r1 r2 with ⟨c, z, e1, e2, e3⟩ | ⟨a, xs, e1, e2, e3, e4, e5⟩ | ⟨u, ws, h1, h2, h3, h4, h5⟩
    · exact .inl ⟨c, z, e1, e2, by rw [e3]; exact q⟩
    · exact .inr (.inl ⟨a, xs, e1, e2, e3, e4, by rw [e5]; exact q⟩)
    · exact .inr (.inr ⟨u, ws, h1, h2, h3, h4, by rw [h5]; exact q⟩)
  · exact p.elim
theorem o_notin (hu : X.A.units + 65 < cLine) : OpR X (compareOp .NotIn) (dO G E opNotIn) := (op_notIn_sign.or (op_notIn_seq.or (op_notInD hu))).imp fun x y H Q ⟨ρ, st, d, e, s, r1, r2, p⟩ => by
  unfold opNotIn at p
  split at p
  · rename_i b h
    have q : Q (.bl (!b)) H := PostV.here p s rfl
    rcases in_cases X.K s h r1 r2 with ⟨c, z, e1, e2, e3⟩ | ⟨a, xs, e1, e2, e3, e4, e5⟩ | ⟨u, ws, h1, h2, h3, h4, h5⟩
    · exact .inl ⟨c, z, e1, e2, by rw [e3]; exact q⟩
    · exact .inr (.inl ⟨a, xs, e1, e2, e3, e4, by simp only [if_true]; rw [e5]; exact q⟩)
    · exact .inr (.inr ⟨u, ws, h1, h2, h3, h4, by rw [h5]; exact q⟩)
  · exact p.elim
end

/-! ### subscripts, slices -/
def opIx (d e : D) : M D := match e with
  | .int i => fun st => (match d with
    | .str s => if s.length ≤ lim then (match atI s i with | some c => .ok (.str [c]) st | none => .bad) else .bad
    | d => (match (seqOf st d).bind fun ds => atI ds i with | some x => .ok x st | none => .bad))
  | _ => M.bad
def cutL {α : Type} (xs : List α) (lo hi : Option Int) : List α := (xs.drop (HT.sIx xs.length 0 lo)).take (HT.sIx xs.length xs.length hi - HT.sIx xs.length 0 lo)
def opSl (d : D) (lo hi : Option Int) : M D := match d with
  | .str s => fun st => if s.length ≤ lim then .ok (.str (cutL s lo hi)) st else .bad
  | .tup ds => M.ret (.tup (cutL ds lo hi))
  | .ref i => fun st => (match lstAt st i with | some ds => alloc (.lst (cutL ds lo hi)) st | none => .bad)
  | _ => M.bad
abbrev pNone : Env → M (Option Int) := fun _ => M.ret none
def pSome (e : Env → M D) : Env → M (Option Int) := fun env st => (e env st).bind fun d => match d with
  | .int i => M.ret (some i)
  | _ => M.bad
def eSl (a : Env → M D) (lo hi : Env → M (Option Int)) : Env → M D := fun env st => (a env st).bind fun x st => (lo env st).bind fun l st => (hi env st).bind fun h => opSl x l h
section
variable {G : Wd} {ρ : List Addr} {H : Hp} {st : Sto} {X : Cx} {E : XK} {Q : VK}
theorem atI_rel {ds : List D} {vs : List V} (r : RelDs G ρ H ds vs) {i : Int} {d : D} (e : atI ds i = some d) : ∃ v, atI vs i = some v ∧ RelD G ρ H d v := by
  unfold atI at e ⊢
  obtain ⟨j, e1, e2⟩ := Option.bind_eq_some_iff.mp e
  obtain ⟨v, h1, h2⟩ := r.get e2
  exact ⟨v, by rw [← r.length, e1]; exact h1, h2⟩
theorem o_ix : IxR X (dO G E opIx) := fun val sl pins s σ H x y v u Q I rx ry ⟨ρ, st, d, e, sm, r1, r2, p⟩ hs => by
  refine (ix_list.or (ix_tup.or ix_str)) val sl pins s σ H x y v u Q I rx ry ?_ hs
  unfold opIx at p
  split at p
  · rename_i i
    split at p
    · split at p
      · rename_i hl
        split at p
        · rename_i c hc
          exact .inr (.inr ⟨_, _, c, r1.str, r2.int, by rw [lim_eq]; simpa [Str.length] using hl, by simpa using hc, PostV.here p sm rfl⟩)
        · exact p.elim
      · exact p.elim
    · split at p
      · rename_i x' hx
        obtain ⟨ds, e1, e2⟩ := Option.bind_eq_some_iff.mp hx
        obtain ⟨a, vs, ev, hs', rd⟩ := seq_rel X.K sm e1 r1
        obtain ⟨w, hw, rw⟩ := atI_rel rd e2
        have q := PostV.here p sm rw
        rcases hs' with hs' | hs'
        · exact .inl ⟨a, vs, _, w, ev, r2.int, hs', hw, q⟩
        · exact .inr (.inl ⟨a, vs, _, w, ev, r2.int, hs', hw, q⟩)
      · exact p.elim
  · exact p.elim
theorem r_ix {a b : Expr} {ma mb : Env → M D} {pos : Pos} (ha : PE X a (dE G E ma)) (hb : PE X b (dE G E mb)) (hs : PlainIx b := by exact fun _ _ => rfl) : PE X (.Subscript a b pos) (dE G E (eBin opIx ma mb)) :=
  (pe_ix o_ix ha hb hs).imp fun σ H Q h => dE_bin h
theorem cut_rel {ds : List D} {vs : List V} (r : RelDs G ρ H ds vs) (lo hi : Option Int) : RelDs G ρ H (cutL ds lo hi) (cutV vs lo hi) := by
  have hd : ∀ (n : Nat) {ds : List D} {vs : List V}, RelDs G ρ H ds vs → RelDs G ρ H (ds.drop n) (vs.drop n) := by
    intro n
    induction n with
    | zero => exact fun r => r
    | succ n ih =>
      intro ds vs r
      cases ds with
      | nil => rw [show vs = [] from r]; exact rfl
      | cons d ds =>
        obtain ⟨v, vr, rfl, r1, r2⟩ := r
        exact ih r2
  have ht : ∀ (n : Nat) {ds : List D} {vs : List V}, RelDs G ρ H ds vs → RelDs G ρ H (ds.take n) (vs.take n) := by
    intro n
    induction n with
    | zero => exact fun r => rfl
    | succ n ih =>
      intro ds vs r
      cases ds with
      | nil => rw [show vs = [] from r]; exact rfl
      | cons d ds =>
        obtain ⟨v, vr, rfl, r1, r2⟩ := r
        exact ⟨v, _, rfl, r1, ih r2⟩
  unfold cutL cutV
  rw [r.length]
  exact ht _ (hd _ r)
def dSl (G : Wd) (E : XK) : V → Option Int → Option Int → Hp → VK → Prop := fun x lo hi H Q => ∃ ρ st d, Sim G ρ st H ∧ RelD G ρ H d x ∧ Post G E ρ H (fun d st' => PostV G ρ H st' d Q) (opSl d lo hi st)
theorem o_sl : SlR X (dSl G E) := fun pins s σ H x v vl vu lo hi sl Q I rx hs pl pu ⟨ρ, st, d, sm, r1, p⟩ => by
  refine (sl_list.or (sl_tupA.or sl_str)) pins s σ H x v vl vu lo hi sl Q I rx hs pl pu ?_
  unfold opSl at p
  split at p
  · split at p
    · rename_i hl
      refine .inr (.inr ⟨_, r1.str, by rw [lim_eq]; simpa [Str.length] using hl, ?_⟩)
      have e : cutS (⟨(‹List Nat›).toArray⟩ : Str) lo hi = ⟨(cutL ‹List Nat› lo hi).toArray⟩ := by unfold cutS cutL; simp [Str.length]
      rw [e]
      exact PostV.here p sm rfl
    · exact p.elim
  · obtain ⟨a, vs, ev, ha, rd⟩ := r1
    refine .inr (.inl ⟨a, vs, ev, .inl (.inl ha), fun hw => ?_, fun _ q hq => PostV.tup p sm (cut_rel rd lo hi) hq⟩)
    have e : cutV vs lo hi = vs := by
      unfold cutV
      rw [hw.1, hw.2]
      simp
    exact PostV.here p sm ⟨a, vs, rfl, ha, by rw [← e]; exact cut_rel rd lo hi⟩
  · split at p
    · rename_i ds e
      obtain ⟨a, vs, ev, hs', rd⟩ := lst_rel X.K sm e r1
      exact .inl ⟨a, vs, ev, hs', fun q hq => PostV.alloc p sm ⟨_, rfl, cut_rel rd lo hi⟩ hq⟩
    · exact p.elim
  · exact p.elim
def dP (G : Wd) (E : XK) (m : Env → M (Option Int)) : TO := fun σ H Q => ∃ ρ st env, Sim G ρ st H ∧ RelEnv G ρ H env σ ∧
  Post G E ρ H (fun o st' => ∀ ρ' H', Ext ρ H ρ' H' → Sim G ρ' st' H' → Q o H') (m env st)
theorem _root_.L2.PO.imp {e : Option Expr} {t t' : TO} (h : PO X e t) (i : ∀ σ H Q, t' σ H Q → t σ H Q) : PO X e t' := ⟨fun pins s σ H Q I q => h.run pins s σ H Q I (i _ _ _ q)⟩
theorem r_pnone : PO X none (dP G E pNone) := po_none.imp fun σ H Q ⟨ρ, st, env, s, re, p⟩ => p ρ H (Ext.refl _ _) s
theorem r_psome {e : Expr} {m : Env → M D} (h : PE X e (dE G E m)) : PO X (some e) (dP G E (pSome m)) := (po_some h).imp fun σ H Q ⟨ρ, st, env, s, re, p⟩ => by
  refine ⟨ρ, st, env, s, re, (Post.bind p).imp fun d st' q ρ' v H' x s' r => ?_⟩
  cases d with
  | int i => exact ⟨i, r.int, q ρ' H' x s'⟩
  | _ => exact q.elim
theorem r_sl {e : Expr} {lo hi : Option Expr} {me : Env → M D} {ml mh : Env → M (Option Int)} {p2 pos : Pos} (he : PE X e (dE G E me)) (hl : PO X lo (dP G E ml)) (hu : PO X hi (dP G E mh)) : PE X (.Subscript e (.Slice lo hi none p2) pos) (dE G E (eSl me ml mh)) :=
  (pe_slice (o_sl (E := E)) he hl hu).imp fun σ H Q ⟨ρ, st, env, s, re, p⟩ => by
    refine ⟨ρ, st, env, s, re, (Post.bind p).imp fun x st1 q ρ1 xv H1 x1 s1 r1 => ?_⟩
    refine ⟨ρ1, st1, env, s1, s.relEnv x1 re, (Post.bind (q.onV x1)).imp fun l st2 q2 ρ2 H2 x2 s2 => ?_⟩
    refine ⟨ρ2, st2, env, s2, s1.relEnv x2 (s.relEnv x1 re), (Post.bind (q2.onV x2)).imp fun h st3 q3 ρ3 H3 x3 s3 => ?_⟩
    exact ⟨ρ3, st3, x, s3, s2.relD x3 (s1.relD x2 r1), q3.onV x3⟩
end
/-- x[::-1] of a list, a text -/
def opRev : D → M D
  | .str s => fun st => if s.length ≤ lim then .ok (.str s.reverse) st else .bad
  | .ref i => fun st => (match lstAt st i with | some ds => alloc (.lst ds.reverse) st | none => .bad)
  | _ => M.bad

/-! ### built-in functions -/
def fLen : List D → M D
  | [.str s] => fun st => if s.length ≤ lim then .ok (.int s.length) st else .bad
  | [d] => fun st => (match seqOf st d with | some ds => .ok (.int ds.length) st | none => .bad)
  | _ => M.bad
def fList : List D → M D
  | [.scr is] => alloc (.lst (is.map .int))
  | [d] => fun st => (match seqOf st d with | some ds => alloc (.lst ds) st | none => .bad)
  | _ => M.bad
def fTuple : List D → M D
  | [d] => fun st => (match seqOf st d with | some ds => .ok (.tup ds) st | none => .bad)
  | _ => M.bad
def fAbs : List D → M D
  | [.int i] => M.ret (.int (if i < 0 then -i else i))
  | _ => M.bad
def fInt : List D → M D
  | [.int i] => M.ret (.int i)
  | [.bl k] => M.ret (.int (if k then 1 else 0))
  | _ => M.bad
def intsOf : List D → Option (List Int)
  | [] => some []
  | .int i :: ds => (intsOf ds).map (i :: ·)
  | _ => none
def blsOf : List D → Option (List Bool)
  | [] => some []
  | .bl i :: ds => (blsOf ds).map (i :: ·)
  | _ => none
def strsOf : List D → Option (List (List Nat))
  | [] => some []
  | .str i :: ds => (strsOf ds).map (i :: ·)
  | _ => none
def maxL (i : Int) (is : List Int) : Int := is.foldl (fun a b => if b > a then b else a) i
def minL (i : Int) (is : List Int) : Int := is.foldl (fun a b => if b < a then b else a) i
def fMax : List D → M D
  | [.int i, .int j] => M.ret (.int (if j > i then j else i))
  | [d] => fun st => (match (lstOf st d).bind intsOf with | some (i :: is) => .ok (.int (maxL i is)) st | _ => .bad)
  | _ => M.bad
def fMin : List D → M D
  | [.int i, .int j] => M.ret (.int (if j < i then j else i))
  | [d] => fun st => (match (lstOf st d).bind intsOf with | some (i :: is) => .ok (.int (minL i is)) st | _ => .bad)
  | _ => M.bad
def fSum : List D → M D
  | [d] => fun st => (match (lstOf st d).bind intsOf with | some is => .ok (.int is.sum) st | _ => .bad)
  | _ => M.bad
def fAll : List D → M D
  | [d] => fun st => (match (lstOf st d).bind blsOf with | some is => .ok (.bl (is.all id)) st | _ => .bad)
  | _ => M.bad
def fAny : List D → M D
  | [d] => fun st => (match (lstOf st d).bind blsOf with | some is => .ok (.bl (is.any id)) st | _ => .bad)
  | _ => M.bad
section
variable {G : Wd} {ρ : List Addr} {H : Hp} {st : Sto} {X : Cx} {E : XK} {Q : VK}
theorem one_rel {d : D} {vs : List V} (r : RelDs G ρ H [d] vs) : ∃ v, vs = [v] ∧ RelD G ρ H d v := by
  obtain ⟨v, vr, e, r1, r2⟩ := r
  have e2 : vr = [] := r2
  subst e2
  exact ⟨v, e, r1⟩
theorem two_rel {d e : D} {vs : List V} (r : RelDs G ρ H [d, e] vs) : ∃ v u, vs = [v, u] ∧ RelD G ρ H d v ∧ RelD G ρ H e u := by
  obtain ⟨v, vr, e1, r1, r2⟩ := r
  obtain ⟨u, e2, r3⟩ := one_rel r2
  subst e2
  exact ⟨v, u, e1, r1, r3⟩
theorem ints_rel : ∀ {ds : List D} {is : List Int} {vs : List V}, intsOf ds = some is → RelDs G ρ H ds vs → vs = is.map V.int
  | [], is, vs, e, r => by
    cases e
    exact r
  | .int i :: ds, is, vs, e, r => by
    obtain ⟨js, e1, e2⟩ := Option.map_eq_some_iff.mp (show (intsOf ds).map (i :: ·) = some is from e)
    obtain ⟨v, vr, rfl, r1, r2⟩ := r
    rw [← e2, r1.int, ints_rel e1 r2]
    rfl
theorem bls_rel : ∀ {ds : List D} {is : List Bool} {vs : List V}, blsOf ds = some is → RelDs G ρ H ds vs → vs = is.map V.bl
  | [], is, vs, e, r => by
    cases e
    exact r
  | .bl i :: ds, is, vs, e, r => by
    obtain ⟨js, e1, e2⟩ := Option.map_eq_some_iff.mp (show (blsOf ds).map (i :: ·) = some is from e)
    obtain ⟨v, vr, rfl, r1, r2⟩ := r
    rw [← e2, r1.bl, bls_rel e1 r2]
    rfl
theorem strs_rel : ∀ {ds : List D} {is : List (List Nat)} {vs : List V}, strsOf ds = some is → RelDs G ρ H ds vs → vs = (is.map fun s => (⟨s.toArray⟩ : Str)).map V.str
  | [], is, vs, e, r => by
    cases e
    exact r
  | .str i :: ds, is, vs, e, r => by
    obtain ⟨js, e1, e2⟩ := Option.map_eq_some_iff.mp (show (strsOf ds).map (i :: ·) = some is from e)
    obtain ⟨v, vr, rfl, r1, r2⟩ := r
    rw [← e2, r1.str, strs_rel e1 r2]
    rfl
theorem lstOf_rel (K : PySem.W.Frag) (s : Sim G ρ st H) {d : D} {ds : List D} (e : lstOf st d = some ds) {v : V} (r : RelD G ρ H d v) : ∃ a vs, v = .ref a ∧ SqL K H a vs ∧ RelDs G ρ H ds vs := by
  unfold lstOf at e
  split at e
  · exact lst_rel K s e r
  · cases e
theorem c_len : CallR X (.builtin "len") (dC G E fLen) := (call_len_str.or call_len_seq).imp fun xs H Q ⟨ρ, st, ds, s, r, p⟩ => by
  unfold fLen at p
  split at p
  · split at p
    · rename_i hl
      obtain ⟨v, rfl, r1⟩ := one_rel r
      exact .inl ⟨_, by rw [r1.str], by rw [lim_eq]; simpa [Str.length] using hl, by
        have : ((⟨(‹List Nat›).toArray⟩ : Str).length : Int) = ((‹List Nat›).length : Int) := by simp [Str.length]
        rw [this]
        exact PostV.here p s rfl⟩
    · exact p.elim
  · dsimp only at p; split at p
    · rename_i ds e
      obtain ⟨v, rfl, r1⟩ := one_rel r
      obtain ⟨a, vs, ev, hs, rd⟩ := seq_rel X.K s e r1
      exact .inr ⟨a, vs, by rw [ev], hs, by rw [← rd.length]; exact PostV.here p s rfl⟩
    · exact p.elim
  · exact p.elim
theorem ints_of : ∀ is : List Int, RelDs G ρ H (is.map .int) (is.map V.int)
  | [] => rfl
  | i :: is => ⟨_, _, rfl, rfl, ints_of is⟩
theorem c_list (hK : X.K = G.K := by rfl) : CallR X (.type "list") (dC G E fList) := call_list_of.imp fun xs H Q ⟨ρ, st, ds, s, r, p⟩ => by
  unfold fList at p
  split at p
  · obtain ⟨v, rfl, r1⟩ := one_rel r
    obtain ⟨a, ev, q⟩ := r1
    refine ⟨a, _, by rw [ev], .inl (?_ : SqL X.K H a ((‹List Int›).map V.int)), fun l hl => PostV.alloc p s ⟨_, rfl, ints_of _⟩ hl⟩
    rcases q with ⟨o, q⟩ | q
    · exact .inl (.inr ⟨o, q⟩)
    · rw [hK]; exact q H
  · dsimp only at p; split at p
    · rename_i ds e
      obtain ⟨v, rfl, r1⟩ := one_rel r
      obtain ⟨a, vs, ev, hs, rd⟩ := seq_rel X.K s e r1
      exact ⟨a, vs, by rw [ev], hs, fun l hl => PostV.alloc p s ⟨_, rfl, rd⟩ hl⟩
    · exact p.elim
  · exact p.elim
theorem c_tuple : CallR X (.type "tuple") (dC G E fTuple) := call_tuple_of.imp fun xs H Q ⟨ρ, st, ds, s, r, p⟩ => by
  unfold fTuple at p
  split at p
  · split at p
    · rename_i ds e
      obtain ⟨v, rfl, r1⟩ := one_rel r
      unfold seqOf at e
      split at e
      · obtain ⟨a, vs, ev, hs, rd⟩ := lst_rel X.K s e r1
        exact ⟨a, vs, by rw [ev], .inl ⟨hs, fun l hl => PostV.tup p s rd hl⟩⟩
      · cases e
        obtain ⟨a, vs, ev, ha, rd⟩ := r1
        exact ⟨a, vs, by rw [ev], .inr ⟨.inl (.inl ha), PostV.here p s ⟨a, vs, rfl, ha, rd⟩⟩⟩
      · cases e
    · exact p.elim
  · exact p.elim
theorem c_abs : CallR X (.builtin "abs") (dC G E fAbs) := call_abs.imp fun xs H Q ⟨ρ, st, ds, s, r, p⟩ => by
  unfold fAbs at p
  split at p
  · obtain ⟨v, rfl, r1⟩ := one_rel r
    exact ⟨_, by rw [r1.int], PostV.here p s rfl⟩
  · exact p.elim
theorem c_int : CallR X (.type "int") (dC G E fInt) := call_int1.imp fun xs H Q ⟨ρ, st, ds, s, r, p⟩ => by
  unfold fInt at p
  split at p
  · obtain ⟨v, rfl, r1⟩ := one_rel r
    exact .inl ⟨_, by rw [r1.int], PostV.here p s rfl⟩
  · obtain ⟨v, rfl, r1⟩ := one_rel r
    exact .inr ⟨_, by rw [r1.bl], PostV.here p s rfl⟩
  · exact p.elim
theorem maxL_spec : ∀ (is : List Int) (i m : Int), m ∈ i :: is → (∀ y, y ∈ i :: is → y ≤ m) → maxL i is = m
  | [], i, m, h, _ => by rw [List.mem_singleton.mp h]; rfl
  | j :: is, i, m, h, hm => by
    show maxL (if j > i then j else i) is = m
    by_cases hj : j > i
    · rw [if_pos hj]
      refine maxL_spec is j m ?_ fun y hy => hm y (List.mem_cons_of_mem _ hy)
      rcases List.mem_cons.mp h with e | e
      · have := hm j (by simp)
        omega
      · exact e
    · rw [if_neg hj]
      refine maxL_spec is i m ?_ fun y hy => hm y ?_
      · rcases List.mem_cons.mp h with e | e
        · rw [e]; exact List.mem_cons_self
        · rcases List.mem_cons.mp e with e | e
          · have h1 := hm i List.mem_cons_self
            have : m = i := by omega
            rw [this]; exact List.mem_cons_self
          · exact List.mem_cons_of_mem _ e
      · rcases List.mem_cons.mp hy with e | e
        · rw [e]; exact List.mem_cons_self
        · exact List.mem_cons_of_mem _ (List.mem_cons_of_mem _ e)
theorem minL_spec : ∀ (is : List Int) (i m : Int), m ∈ i :: is → (∀ y, y ∈ i :: is → m ≤ y) → minL i is = m
  | [], i, m, h, _ => by rw [List.mem_singleton.mp h]; rfl
  | j :: is, i, m, h, hm => by
    show minL (if j < i then j else i) is = m
    by_cases hj : j < i
    · rw [if_pos hj]
      refine minL_spec is j m ?_ fun y hy => hm y (List.mem_cons_of_mem _ hy)
      rcases List.mem_cons.mp h with e | e
      · have := hm j (by simp)
        omega
      · exact e
    · rw [if_neg hj]
      refine minL_spec is i m ?_ fun y hy => hm y ?_
      · rcases List.mem_cons.mp h with e | e
        · rw [e]; exact List.mem_cons_self
        · rcases List.mem_cons.mp e with e | e
          · have h1 := hm i List.mem_cons_self
            have : m = i := by omega
            rw [this]; exact List.mem_cons_self
          · exact List.mem_cons_of_mem _ e
      · rcases List.mem_cons.mp hy with e | e
        · rw [e]; exact List.mem_cons_self
        · exact List.mem_cons_of_mem _ (List.mem_cons_of_mem _ e)
theorem c_max (hc : X.calm = true) : CallR X (.builtin "max") (dC G E fMax) := ((call_max2 hc).or (cr_max hc)).imp fun xs H Q ⟨ρ, st, ds, s, r, p⟩ => by
  unfold fMax at p
  split at p
  · obtain ⟨v, u, rfl, r1, r2⟩ := two_rel r
    exact .inl ⟨_, _, by rw [r1.int, r2.int], PostV.here p s rfl⟩
  · dsimp only at p; split at p
    · rename_i i is e
      obtain ⟨ds, e1, e2⟩ := Option.bind_eq_some_iff.mp e
      obtain ⟨v, rfl, r1⟩ := one_rel r
      obtain ⟨a, vs, ev, hs, rd⟩ := lstOf_rel X.K s e1 r1
      rw [ints_rel e2 rd] at hs
      exact .inr ⟨a, _, by rw [ev], hs, by simp, fun m h1 h2 => by rw [← maxL_spec is i m h1 h2]; exact PostV.here p s rfl⟩
    · exact p.elim
  · exact p.elim
theorem c_min (hc : X.calm = true) : CallR X (.builtin "min") (dC G E fMin) := ((call_min2 hc).or (cr_min hc)).imp fun xs H Q ⟨ρ, st, ds, s, r, p⟩ => by
  unfold fMin at p
  split at p
  · obtain ⟨v, u, rfl, r1, r2⟩ := two_rel r
    exact .inl ⟨_, _, by rw [r1.int, r2.int], PostV.here p s rfl⟩
  · dsimp only at p; split at p
    · rename_i i is e
      obtain ⟨ds, e1, e2⟩ := Option.bind_eq_some_iff.mp e
      obtain ⟨v, rfl, r1⟩ := one_rel r
      obtain ⟨a, vs, ev, hs, rd⟩ := lstOf_rel X.K s e1 r1
      rw [ints_rel e2 rd] at hs
      exact .inr ⟨a, _, by rw [ev], hs, by simp, fun m h1 h2 => by rw [← minL_spec is i m h1 h2]; exact PostV.here p s rfl⟩
    · exact p.elim
  · exact p.elim
theorem c_sum (hc : X.calm = true) : CallR X (.builtin "sum") (dC G E fSum) := (cr_sum hc).imp fun xs H Q ⟨ρ, st, ds, s, r, p⟩ => by
  unfold fSum at p
  split at p
  · split at p
    · rename_i is e
      obtain ⟨ds, e1, e2⟩ := Option.bind_eq_some_iff.mp e
      obtain ⟨v, rfl, r1⟩ := one_rel r
      obtain ⟨a, vs, ev, hs, rd⟩ := lstOf_rel X.K s e1 r1
      rw [ints_rel e2 rd] at hs
      exact ⟨a, _, by rw [ev], hs, PostV.here p s rfl⟩
    · exact p.elim
  · exact p.elim
theorem c_all (hc : X.calm = true) : CallR X (.builtin "all") (dC G E fAll) := (cr_all hc).imp fun xs H Q ⟨ρ, st, ds, s, r, p⟩ => by
  unfold fAll at p
  split at p
  · split at p
    · rename_i is e
      obtain ⟨ds, e1, e2⟩ := Option.bind_eq_some_iff.mp e
      obtain ⟨v, rfl, r1⟩ := one_rel r
      obtain ⟨a, vs, ev, hs, rd⟩ := lstOf_rel X.K s e1 r1
      rw [bls_rel e2 rd] at hs
      exact ⟨a, _, by rw [ev], hs, PostV.here p s rfl⟩
    · exact p.elim
  · exact p.elim
theorem c_any (hc : X.calm = true) : CallR X (.builtin "any") (dC G E fAny) := (cr_any hc).imp fun xs H Q ⟨ρ, st, ds, s, r, p⟩ => by
  unfold fAny at p
  split at p
  · split at p
    · rename_i is e
      obtain ⟨ds, e1, e2⟩ := Option.bind_eq_some_iff.mp e
      obtain ⟨v, rfl, r1⟩ := one_rel r
      obtain ⟨a, vs, ev, hs, rd⟩ := lstOf_rel X.K s e1 r1
      rw [bls_rel e2 rd] at hs
      exact ⟨a, _, by rw [ev], hs, PostV.here p s rfl⟩
    · exact p.elim
  · exact p.elim
/-- a call of a built-in by its name -/
theorem r_callB {id : String} {f : List D → M D} {x : Str} {e : Expr} {es : List Expr} {ma : Env → M (List D)} {p pos : Pos} (hc : CallR X (.builtin id) (dC G E f)) (hm : X.mg x = none) (hg : Gl X x) (hv : bootBuiltins x = some (.builtin id)) (ha : PA X (e :: es) (dA G E ma)) (hn : x ≠ "__name__" := by decide) (hdb : (x == ("__debug__" : Str)) = false := by decide)
    (he : starEach (e :: es) X.env = (false, eval e X.env) :: starEach es X.env := by rfl) (hpl : (backTo pos (starEach es X.env)).any (·.1) = false := by rfl) : PE X (.Call (.Name x p) (e :: es) [] pos) (dE G E (eArgs f ma)) :=
  (pe_callB hc hg hm hv ha hn hdb he hpl).imp fun σ H Q h => dE_args h
theorem r_callTy {T : String} {f : List D → M D} {x : Str} {e : Expr} {es : List Expr} {ma : Env → M (List D)} {p pos : Pos} (hc : CallR X (.type T) (dC G E f)) (hm : X.mg x = none) (hg : Gl X x) (hv : bootBuiltins x = some (.type T)) (ha : PA X (e :: es) (dA G E ma)) (hn : x ≠ "__name__" := by decide) (hdb : (x == ("__debug__" : Str)) = false := by decide)
    (he : starEach (e :: es) X.env = (false, eval e X.env) :: starEach es X.env := by rfl) (hpl : (backTo pos (starEach es X.env)).any (·.1) = false := by rfl) : PE X (.Call (.Name x p) (e :: es) [] pos) (dE G E (eArgs f ma)) :=
  (pe_callTy hc hg hm hv ha hn hdb he hpl).imp fun σ H Q h => dE_args h
end
end MM

/-! Methods of built-in types, what is walked. -/
namespace MM
open PySem PySem.Spec PyProof.Rows L2

/-! ### methods -/
def isTy (T : String) (st : Sto) : D → Bool
  | .str _ => T == "str"
  | .int _ => T == "int"
  | .ref i => (match st[i]? with
    | some (.lst _) => T == "list"
    | some (.dicK _) => T == "dict"
    | some (.dicT _) => T == "dict"
    | _ => false)
  | _ => false
def eMeth (T : String) (f : D → List D → M D) (o : Env → M D) (a : Env → M (List D)) : Env → M D := fun env st => (o env st).bind fun x st => if isTy T st x then (a env st).bind fun ds => f x ds else .bad
def eMeth0 (T : String) (f : D → List D → M D) (o : Env → M D) : Env → M D := fun env st => (o env st).bind fun x st => if isTy T st x then f x [] st else .bad
def dM (G : Wd) (E : XK) (f : D → List D → M D) : V → List V → Hp → VK → Prop := fun x xs H Q => ∃ ρ st d ds, Sim G ρ st H ∧ RelD G ρ H d x ∧ RelDs G ρ H ds xs ∧ Post G E ρ H (fun d st' => PostV G ρ H st' d Q) (f d ds st)
section
variable {G : Wd} {ρ : List Addr} {H : Hp} {st : Sto} {X : Cx} {E : XK} {Q : VK}
theorem _root_.L2.MtR.imp {id : String} {r r' : V → List V → Hp → VK → Prop} (h : MtR X id r) (i : ∀ x xs H Q, r' x xs H Q → r x xs H Q) : MtR X id r' := fun pins s σ H x xs v us Q I r1 r2 q => h pins s σ H x xs v us Q I r1 r2 (i _ _ _ _ q)
theorem isTy_rel (K : PySem.W.Frag) (s : Sim G ρ st H) {T : String} {d : D} (e : isTy T st d = true) {x : V} (r : RelD G ρ H d x) : tyV K T x H := by
  unfold isTy at e
  split at e
  · rw [r.str]; exact beq_iff_eq.mp e
  · rw [r.int]; exact beq_iff_eq.mp e
  · rename_i i
    obtain ⟨a, ea, ev⟩ := r
    rw [ev]
    split at e
    · rename_i q
      obtain ⟨a', ho, e1, e2, vs, e3, rr⟩ := s.at q
      rw [ea] at e1; cases e1
      exact .inl ⟨beq_iff_eq.mp e, vs, .inl (.inl (by rw [e2, e3]))⟩
    · rename_i q
      obtain ⟨a', ho, e1, e2, vs, e3, rr⟩ := s.at q
      rw [ea] at e1; cases e1
      exact .inr (.inr (.inl ⟨beq_iff_eq.mp e, .inl ⟨vs, by rw [e2, e3]⟩⟩))
    · rename_i q
      obtain ⟨a', ho, e1, e2, vs, e3, rr⟩ := s.at q
      rw [ea] at e1; cases e1
      exact .inr (.inr (.inl ⟨beq_iff_eq.mp e, .inr ⟨vs, by rw [e2, e3]⟩⟩))
    · cases e
  · cases e
variable {o e : Expr} {es : List Expr} {mo : Env → M D} {ma : Env → M (List D)} {f : D → List D → M D} {name : Str} {apos cpos : Pos} {T id : String}
theorem r_bm0 (pa : PlainAttrs T) (slot : Slot T name id) (hty : typeOf (.builtin id) = pure (.type "method_descriptor")) (hm : MtR X id (dM G E f)) (ho : PE X o (dE G E mo))
    (hbase : attributeBase o name X.env (eval o X.env) = eval o X.env := by rfl) (hline : (apos.endLine == cpos.line) = true := by rfl) : PE X (.Call (.Attribute o name apos) [] [] cpos) (dE G E (eMeth0 T f mo)) :=
  (pe_bm0 pa slot hty hm ho hbase hline).imp fun σ H Q ⟨ρ, st, env, s, re, p⟩ => by
    refine ⟨ρ, st, env, s, re, (Post.bind p).imp fun x st1 q ρ1 v H1 x1 s1 r1 => ?_⟩
    split at q
    · rename_i ht
      exact ⟨isTy_rel X.K s1 ht r1, ρ1, st1, x, [], s1, r1, rfl, q.onV x1⟩
    · exact q.elim
theorem r_bm (pa : PlainAttrs T) (slot : Slot T name id) (hty : typeOf (.builtin id) = pure (.type "method_descriptor")) (hm : MtR X id (dM G E f)) (ho : PE X o (dE G E mo)) (ha : PA X (e :: es) (dA G E ma))
    (hbase : attributeBase o name X.env (eval o X.env) = eval o X.env := by rfl)
    (hfew : ((backTo cpos (starEach (e :: es) X.env)).all (fun x => !x.1) && (backToKw cpos (keywordEach [] X.env)).all (fun x => x.1.isSome)
      && decide ((e :: es).length + ([] : List Keyword).length + (if ([] : List Keyword).isEmpty then 0 else 1) < 30)) = true := by rfl)
    (hline : (apos.endLine == cpos.line) = true := by rfl) (hs : starEach (e :: es) X.env = (false, eval e X.env) :: starEach es X.env := by rfl) (hplain : (backTo cpos (starEach es X.env)).any (·.1) = false := by rfl) :
    PE X (.Call (.Attribute o name apos) (e :: es) [] cpos) (dE G E (eMeth T f mo ma)) :=
  (pe_bm pa slot hty hm ho ha hbase hfew hline hs hplain).imp fun σ H Q ⟨ρ, st, env, s, re, p⟩ => by
    refine ⟨ρ, st, env, s, re, (Post.bind p).imp fun x st1 q ρ1 v H1 x1 s1 r1 => ?_⟩
    split at q
    · rename_i ht
      refine ⟨isTy_rel X.K s1 ht r1, ρ1, st1, env, s1, s.relEnv x1 re, (Post.bind (q.onV x1)).imp fun ds st2 q2 ρ2 vs H2 x2 s2 r2 => ?_⟩
      exact ⟨ρ2, st2, x, ds, s2, s1.relD x2 r1, r2, q2.onV x2⟩
    · exact q.elim
end
def mAppend (o : D) (a : List D) : M D := match o, a with
  | .ref i, [d] => fun st => (match mutAt st i with | some ds => if ds.length < lim then .ok .non (st.set i (.lst (ds ++ [d]))) else .bad | none => .bad)
  | _, _ => M.bad
def mPop (o : D) (a : List D) : M D := match o, a with
  | .ref i, [] => fun st => (match mutAt st i with | some ds => (match ds[ds.length - 1]? with | some d => .ok d (st.set i (.lst ds.dropLast)) | none => .bad) | none => .bad)
  | .ref i, [.int k] => fun st => (match mutAt st i with
    | some ds => if -(2 ^ 63) ≤ k ∧ k < 2 ^ 63 then (match seqIndex? k ds.length with
      | some j => (match ds[j]? with | some d => .ok d (st.set i (.lst (ds.eraseIdx j))) | none => .bad)
      | none => .bad) else .bad
    | none => .bad)
  | _, _ => M.bad
def mExtend (o : D) (a : List D) : M D := match o, a with
  | .ref i, [.ref j] => fun st => (match mutAt st i, mutAt st j with | some ds, some es => if ds.length + es.length ≤ lim then .ok .non (st.set i (.lst (ds ++ es))) else .bad | _, _ => .bad)
  | _, _ => M.bad
def joinL (s : List Nat) : List (List Nat) → List Nat
  | [] => []
  | [x] => x
  | x :: xs => x ++ s ++ joinL s xs
def mJoin (o : D) (a : List D) : M D := match o, a with
  | .str s, [d] => fun st => (match (seqOf st d).bind strsOf with
    | some ss => if (ss.map (·.length)).sum + ss.length * s.length ≤ lim then .ok (.str (joinL s ss)) st else .bad
    | none => .bad)
  | _, _ => M.bad
section
variable {G : Wd} {ρ : List Addr} {H : Hp} {st : Sto} {X : Cx} {E : XK} {Q : VK}
theorem m_append : MtR X "list.append" (dM G E mAppend) := MtR.imp mt_append fun x xs H Q ⟨ρ, st, d, ds, s, r1, r2, p⟩ => by
  unfold mAppend at p
  split at p
  · split at p
    · rename_i ds e
      split at p
      · rename_i hl
        obtain ⟨a, vs, ev, ea, h1, rd⟩ := mut_rel s e r1
        obtain ⟨v, rfl, rv⟩ := one_rel r2
        exact ⟨a, vs, v, ev, rfl, h1, by rw [← rd.length, lim_eq]; exact hl, PostV.write p s ea ⟨_, rfl, rd.append (.one rv)⟩ rfl⟩
      · exact p.elim
    · exact p.elim
  · exact p.elim
theorem m_extend : MtR X "list.extend" (dM G E mExtend) := MtR.imp mt_extend fun x xs H Q ⟨ρ, st, d, ds, s, r1, r2, p⟩ => by
  unfold mExtend at p
  split at p
  · split at p
    · rename_i ds es e e2
      split at p
      · rename_i hl
        obtain ⟨a, vs, ev, ea, h1, rd⟩ := mut_rel s e r1
        obtain ⟨v, rfl, rv⟩ := one_rel r2
        obtain ⟨b, us, eu, eb, h2, rd2⟩ := mut_rel s e2 rv
        exact ⟨a, b, vs, us, ev, by rw [eu], h1, h2, by rw [← rd.length, ← rd2.length, lim_eq]; exact hl, PostV.write p s ea ⟨_, rfl, rd.append rd2⟩ rfl⟩
      · exact p.elim
    · exact p.elim
  · exact p.elim
theorem drop_rel : ∀ {ds : List D} {vs : List V}, RelDs G ρ H ds vs → RelDs G ρ H ds.dropLast vs.dropLast
  | [], vs, r => by rw [show vs = [] from r]; rfl
  | [d], vs, r => by
    obtain ⟨v, rfl, _⟩ := one_rel r
    rfl
  | d :: e :: ds, vs, r => by
    obtain ⟨v, vr, rfl, r1, r2⟩ := r
    obtain ⟨u, ur, rfl, r3, r4⟩ := r2
    exact ⟨v, _, rfl, r1, drop_rel (ds := e :: ds) ⟨u, ur, rfl, r3, r4⟩⟩
theorem erase_rel : ∀ {ds : List D} {vs : List V} (j : Nat), RelDs G ρ H ds vs → RelDs G ρ H (ds.eraseIdx j) (vs.eraseIdx j)
  | [], vs, j, r => by rw [show vs = [] from r]; rfl
  | d :: ds, vs, 0, r => by
    obtain ⟨v, vr, rfl, r1, r2⟩ := r
    exact r2
  | d :: ds, vs, j + 1, r => by
    obtain ⟨v, vr, rfl, r1, r2⟩ := r
    exact ⟨v, _, rfl, r1, erase_rel j r2⟩
theorem _root_.L2.MtR.orM {id : String} {r r' : V → List V → Hp → VK → Prop} (h : MtM X id r) (h' : MtM X id r') : MtR X id (fun x xs H Q => r x xs H Q ∨ r' x xs H Q) := fun pins s σ H x xs v us Q I r1 r2 q => q.elim (h pins s σ H x xs v us Q I r1 r2) (h' pins s σ H x xs v us Q I r1 r2)
theorem m_pop : MtR X "list.pop" (dM G E mPop) := MtR.imp (MtR.orM mt_pop mt_popAt) fun x xs H Q ⟨ρ, st, d, ds, s, r1, r2, p⟩ => by
  unfold mPop at p
  split at p
  · split at p
    · rename_i ds e
      split at p
      · rename_i d ed
        obtain ⟨a, vs, ev, ea, h1, rd⟩ := mut_rel s e r1
        obtain ⟨v, e1, rv⟩ := rd.get ed
        exact .inl ⟨a, vs, v, ev, r2, h1, by rw [← rd.length]; exact e1, PostV.write p s ea ⟨_, rfl, drop_rel rd⟩ rv⟩
      · exact p.elim
    · exact p.elim
  · split at p
    · rename_i ds e
      split at p
      · rename_i hk
        split at p
        · rename_i j ej
          split at p
          · rename_i d ed
            obtain ⟨a, vs, ev, ea, h1, rd⟩ := mut_rel s e r1
            obtain ⟨v, e1, rv⟩ := rd.get ed
            obtain ⟨w, rfl, rw⟩ := one_rel r2
            exact .inr ⟨a, vs, _, j, v, ev, by rw [rw.int], h1, hk.1, hk.2, by rw [← rd.length]; exact ej, e1, PostV.write p s ea ⟨_, rfl, erase_rel j rd⟩ rv⟩
          · exact p.elim
        · exact p.elim
      · exact p.elim
    · exact p.elim
  · exact p.elim
theorem join_eq0 (s : List Nat) : ∀ ss : List (List Nat), Str.join ⟨s.toArray⟩ (ss.map fun x => (⟨x.toArray⟩ : Str)) = ⟨(joinL s ss).toArray⟩
  | [] => rfl
  | [x] => rfl
  | x :: y :: ss => by
    have ih := join_eq0 s (y :: ss)
    show (⟨x.toArray⟩ : Str) ++ ⟨s.toArray⟩ ++ Str.join ⟨s.toArray⟩ ((y :: ss).map fun x => (⟨x.toArray⟩ : Str)) = _
    rw [ih]
    show (⟨x.toArray ++ s.toArray ++ (joinL s (y :: ss)).toArray⟩ : Str) = ⟨(x ++ s ++ joinL s (y :: ss)).toArray⟩
    simp
theorem join_eq (s : List Nat) (ss : List (List Nat)) : Txt.join ⟨s.toArray⟩ (ss.map fun x => (⟨x.toArray⟩ : Str)) = ⟨(joinL s ss).toArray⟩ := by
  rw [← join_eq0]
  exact PySem.StrLaws.glued_eq_join _ _
theorem m_join : MtR X "str.join" (dM G E mJoin) := MtR.imp mt_join fun x xs H Q ⟨ρ, st, d, ds, s, r1, r2, p⟩ => by
  unfold mJoin at p
  split at p
  · split at p
    · rename_i ss e
      split at p
      · rename_i hl
        obtain ⟨es, e1, e2⟩ := Option.bind_eq_some_iff.mp e
        obtain ⟨v, rfl, rv⟩ := one_rel r2
        obtain ⟨a, vs, ev, hs, rd⟩ := seq_rel X.K s e1 rv
        have eu := strs_rel e2 rd
        refine ⟨_, a, ss.map fun x => (⟨x.toArray⟩ : Str), r1.str, by rw [ev], by rw [← eu]; exact hs, ?_, by rw [join_eq]; exact PostV.here p s rfl⟩
        rw [List.map_map, List.length_map]
        have e3 : (ss.map ((fun x => x.length) ∘ fun x => (⟨x.toArray⟩ : Str))) = ss.map (·.length) := List.map_congr_left fun y _ => by simp [Str.length]
        rw [e3]
        show _ ≤ lim
        simpa [Str.length] using hl
      · exact p.elim
    · exact p.elim
  · exact p.elim
end

/-! ### what is walked -/
mutual
def D.beq : D → D → Bool
  | .non, .non => true
  | .bl a, .bl b => a == b
  | .int a, .int b => a == b
  | .str a, .str b => a == b
  | .ref a, .ref b => a == b
  | .ty a, .ty b => a == b
  | .tup a, .tup b => D.beqs a b
  | .fn k a, .fn l b => k == l && D.beqs a b
  | .scr a, .scr b => a == b
  | _, _ => false
def D.beqs : List D → List D → Bool
  | [], [] => true
  | a :: as, b :: bs => D.beq a b && D.beqs as bs
  | _, _ => false
end
mutual
theorem D.eq_of : ∀ a b : D, D.beq a b = true → a = b
  | .non, b, h => by cases b <;> first | rfl | cases h
  | .bl a, b, h => by cases b <;> first | (rw [beq_iff_eq.mp (show (a == _) = true from h)]) | cases h
  | .int a, b, h => by cases b <;> first | (rw [beq_iff_eq.mp (show (a == _) = true from h)]) | cases h
  | .str a, b, h => by cases b <;> first | (rw [beq_iff_eq.mp (show (a == _) = true from h)]) | cases h
  | .ref a, b, h => by cases b <;> first | (rw [beq_iff_eq.mp (show (a == _) = true from h)]) | cases h
  | .ty a, b, h => by cases b <;> first | (rw [beq_iff_eq.mp (show (a == _) = true from h)]) | cases h
  | .scr a, b, h => by cases b <;> first | (rw [beq_iff_eq.mp (show (a == _) = true from h)]) | cases h
  | .tup a, b, h => by
    cases b with
    | tup b => rw [D.eqs_of a b h]
    | _ => cases h
  | .fn k a, b, h => by
    cases b with
    | fn l b =>
      have h' : (k == l && D.beqs a b) = true := h
      rw [Bool.and_eq_true] at h'
      rw [beq_iff_eq.mp h'.1, D.eqs_of a b h'.2]
    | _ => cases h
theorem D.eqs_of : ∀ a b : List D, D.beqs a b = true → a = b
  | [], [], _ => rfl
  | [], _ :: _, h => by cases h
  | _ :: _, [], h => by cases h
  | a :: as, b :: bs, h => by
    have h' : (D.beq a b && D.beqs as bs) = true := h
    rw [Bool.and_eq_true] at h'
    rw [D.eq_of a b h'.1, D.eqs_of as bs h'.2]
end
mutual
theorem D.beq_refl : ∀ a : D, D.beq a a = true
  | .non => rfl
  | .bl a => beq_self_eq_true a
  | .int a => beq_self_eq_true a
  | .str a => beq_self_eq_true a
  | .ref a => beq_self_eq_true a
  | .ty a => beq_self_eq_true a
  | .scr a => beq_self_eq_true a
  | .tup a => D.beqs_refl a
  | .fn k a => by
    show (k == k && D.beqs a a) = true
    rw [beq_self_eq_true, D.beqs_refl a]; rfl
theorem D.beqs_refl : ∀ a : List D, D.beqs a a = true
  | [] => rfl
  | a :: as => by
    show (D.beq a a && D.beqs as as) = true
    rw [D.beq_refl a, D.beqs_refl as]; rfl
end
def stands (i : Nat) (ds : List D) : Sto → Bool := fun st => match lstAt st i with
  | some es => D.beqs es ds
  | none => false
theorem stands_iff {i : Nat} {ds : List D} {st : Sto} : stands i ds st = true ↔ lstAt st i = some ds := by
  unfold stands
  constructor
  · intro h
    split at h
    · rename_i es e
      rw [e, D.eqs_of _ _ h]
    · cases h
  · intro h
    rw [h]
    exact D.beqs_refl ds
/-- a thing's items: of a list, a tuple, the signs of a text -/
def itemsOf (d : D) (st : Sto) : Option Src := match d with
  | .ref i => (lstAt st i).map fun ds => (ds, stands i ds)
  | .tup ds => some (ds, fun _ => true)
  | .str s => some (s.map fun c => .str [c], fun _ => true)
  | _ => none
def srcSeq (e : Env → M D) : Env → M Src := fun env st => (e env st).bind fun d st => match itemsOf d st with
  | some x => .ok x st
  | none => .bad
def rngL (lo : Int) (n : Nat) : List D := (List.range n).map fun i => .int (lo + (i : Nat))
def small (i : Int) : Bool := decide (-(2 ^ 62) ≤ i) && decide (i < 2 ^ 62)
def srcRange1 (a : Env → M (List D)) : Env → M Src := fun env st => (a env st).bind fun ds st => match ds with
  | [.int j] => if small j then .ok (rngL 0 j.toNat, fun _ => true) st else .bad
  | _ => .bad
def srcRange2 (a : Env → M (List D)) : Env → M Src := fun env st => (a env st).bind fun ds st => match ds with
  | [.int i, .int j] => if small i && small j then .ok (rngL i (j - i).toNat, fun _ => true) st else .bad
  | _ => .bad
section
variable {G : Wd} {X : Cx} {E : XK} {tg iter : Expr} {me : Env → M D}
/-- the very computation that stands ahead tells which rule to take -/
theorem r_iseq (hl : PE X iter (dE G E me)) : PI X tg iter (dI G E (srcSeq me)) := ⟨fun pins s σ H R I h => by
  obtain ⟨ρ, st, env, sm, re, p⟩ := h
  have p := Post.bind p
  revert p
  cases hm : me env st with
  | bad => exact fun p => p.elim
  | ex c d st1 =>
    intro p
    refine (pi_list (tg := tg) hl).run pins s σ H R I ⟨ρ, st, env, sm, re, ?_⟩
    rw [hm]; exact p
  | ok d st1 =>
    intro p
    have p : Post G E ρ H _ (match itemsOf d st1 with | some x => Res.ok x st1 | none => .bad) := p
    have here : ∀ {Q : VK}, PostV G ρ H st1 d Q → dE G E me σ H Q := fun q => ⟨ρ, st, env, sm, re, by rw [hm]; exact q⟩
    cases d with
    | ref i =>
      revert p
      cases hi : lstAt st1 i with
      | none =>
        intro p
        have e : itemsOf (.ref i) st1 = none := by show (lstAt st1 i).map _ = none; rw [hi]; rfl
        rw [e] at p; exact p.elim
      | some ds =>
        intro p
        have e : itemsOf (.ref i) st1 = some (ds, stands i ds) := by show (lstAt st1 i).map _ = _; rw [hi]; rfl
        rw [e] at p
        refine (pi_list (tg := tg) hl).run pins s σ H R I (here fun ρ1 v H1 x1 s1 r1 => ?_)
        obtain ⟨a, vs, ev, hs, rd⟩ := lst_rel X.K s1 hi r1
        have ea : ρ1[i]? = some a := by
          obtain ⟨b, e1, e2⟩ := r1
          rw [ev] at e2; cases e2; exact e1
        refine ⟨a, ev, ⟨vs, hs⟩, p ρ1 H1 _ x1 s1 fun j ρ2 st2 H2 x2 s2 g2 => ?_⟩
        obtain ⟨a2, vs2, ev2, hs2, rd2⟩ := lst_rel (v := .ref a) X.K s2 (stands_iff.mp g2) ⟨a, getElem?_pre x2.pre ea, rfl⟩
        cases ev2
        refine ⟨fun d hd => ?_, fun hle => ⟨vs2, hs2, by rw [← rd2.length]; exact Nat.le_of_eq hle.symm⟩⟩
        obtain ⟨w, hw, rw⟩ := rd2.get hd
        refine ⟨⟨vs2, w, hs2, hw⟩, fun y H' yl => ?_⟩
        obtain ⟨e1, e2⟩ := yl
        subst e1
        have := e2 vs2 hs2
        rw [hw] at this
        cases this
        exact ⟨Ext.refl _ _, s2, rw⟩
    | tup ds =>
      refine (pi_tup (tg := tg) hl).run pins s σ H R I (here fun ρ1 v H1 x1 s1 r1 => ?_)
      obtain ⟨a, vs, ev, ha, rd⟩ := r1
      refine ⟨a, ev, ⟨vs, .inl (.inl ha)⟩, p ρ1 H1 _ x1 s1 fun j ρ2 st2 H2 x2 s2 g2 => ?_⟩
      have ha2 := s1.tups x2 a (.tup vs) trivial ha
      have rd2 := s1.relDs x2 rd
      refine ⟨fun d hd => ?_, fun hle => ⟨vs, .inl (.inl ha2), by rw [← rd2.length]; exact Nat.le_of_eq hle.symm⟩⟩
      obtain ⟨w, hw, rw⟩ := rd2.get hd
      refine ⟨⟨vs, w, .inl (.inl ha2), hw⟩, fun y H' yl => ?_⟩
      obtain ⟨e1, e2⟩ := yl
      subst e1
      have := e2 vs (.inl (.inl ha2))
      rw [hw] at this
      cases this
      exact ⟨Ext.refl _ _, s2, rw⟩
    | str z =>
      refine (pi_str (tg := tg) hl).run pins s σ H R I (here fun ρ1 v H1 x1 s1 r1 => ?_)
      refine ⟨_, r1.str, p ρ1 H1 _ x1 s1 fun j ρ2 st2 H2 x2 s2 g2 => ?_⟩
      refine ⟨fun d hd => ?_, fun hle => ?_⟩
      · have hj : j < z.length := by
          have := (List.getElem?_eq_some_iff.mp hd).1
          simpa using this
        refine ⟨by show j < z.toArray.size; simpa using hj, fun y H' yl => ?_⟩
        obtain ⟨e1, c, e2, e3⟩ := yl
        subst e1; subst e3
        have e4 : z[j]? = some c := by simpa using e2
        have e5 : d = .str [c] := by
          have := hd
          rw [List.getElem?_map, e4] at this
          exact (Option.some.inj this).symm
        subst e5
        exact ⟨Ext.refl _ _, s2, rfl⟩
      · show z.toArray.size ≤ j
        exact Nat.le_of_eq (by simpa using hle.symm)
    | _ => exact p.elim⟩
theorem rng_it {lo : Int} {n : Nat} {ρ : List Addr} {H : Hp} : ItR G ρ H (Itr lo n) (rngL lo n, fun _ => true) := fun j ρ2 st2 H2 x2 s2 g2 => by
  refine ⟨fun d hd => ?_, fun hle => by
    have : (rngL lo n).length = n := by simp [rngL]
    show n ≤ j
    rw [← this]; exact Nat.le_of_eq hle.symm⟩
  have hj : j < n := by
    have := (List.getElem?_eq_some_iff.mp hd).1
    simpa [rngL] using this
  refine ⟨hj, fun y H' yl => ?_⟩
  obtain ⟨e1, e2⟩ := yl
  subst e1; subst e2
  have e5 : d = .int (lo + (j : Nat)) := by
    have := hd
    unfold rngL at this
    rw [List.getElem?_map, List.getElem?_range hj] at this
    exact (Option.some.inj this).symm
  subst e5
  exact ⟨Ext.refl _ _, s2, rfl⟩
theorem small_iff {i : Int} (h : small i = true) : -(2 ^ 62) ≤ i ∧ i < 2 ^ 62 := by
  unfold small at h
  rw [Bool.and_eq_true] at h
  exact ⟨of_decide_eq_true h.1, of_decide_eq_true h.2⟩
variable {a b : Expr} {ma : Env → M (List D)} {p pos : Pos}
theorem dA_src {k : List D → M Src} {σ : L2.St} {H : Hp} {R : It → Hp → Prop} (h : dI G E (fun env st => (ma env st).bind k) σ H R) :
    dA G E ma σ H fun vs H1 => ∃ ρ st ds, Sim G ρ st H1 ∧ RelDs G ρ H1 ds vs ∧ Post G E ρ H1 (fun src st' => ∀ ρ' H' J, Ext ρ H1 ρ' H' → Sim G ρ' st' H' → ItR G ρ' H' J src → R J H') (k ds st) := by
  obtain ⟨ρ, st, env, s, re, p⟩ := h
  exact ⟨ρ, st, env, s, re, (Post.bind p).imp fun ds st1 q ρ1 vs H1 x1 s1 r1 => ⟨ρ1, st1, ds, s1, r1, q.on x1 fun src st2 z ρ2 H2 J x2 => z ρ2 H2 J (x1.trans x2)⟩⟩
theorem dA_of {m : Env → M (List D)} {σ : L2.St} {H : Hp} {Q Q' : List V → Hp → Prop} (h : dA G E m σ H Q) (i : ∀ v H, Q v H → Q' v H) : dA G E m σ H Q' := by
  obtain ⟨ρ, st, env, s, re, p⟩ := h
  exact ⟨ρ, st, env, s, re, p.imp fun d st' q ρ' v H' x s' r => i _ _ (q ρ' v H' x s' r)⟩
theorem r_irange1 (hm : X.mg "range" = none) (hg : Gl X "range") (ha : PA X [a] (dA G E ma)) (hs : starEach [a] X.env = [(false, eval a X.env)] := by rfl) : PI X tg (.Call (.Name "range" p) [a] [] pos) (dI G E (srcRange1 ma)) :=
  (pi_range1 hg hm ha hs).imp fun σ H R h => dA_of (dA_src h) fun vs H1 ⟨ρ, st, ds, s, r, p⟩ => by
    split at p
    · split at p
      · rename_i j hj
        obtain ⟨v, rfl, rv⟩ := one_rel r
        have := small_iff hj
        exact ⟨_, by rw [rv.int], this.1, this.2, p ρ H1 _ (Ext.refl _ _) s rng_it⟩
      · exact p.elim
    · exact p.elim
theorem r_irange2 (hm : X.mg "range" = none) (hg : Gl X "range") (ha : PA X [a, b] (dA G E ma)) (hs : starEach [a, b] X.env = [(false, eval a X.env), (false, eval b X.env)] := by rfl) (hs2 : starEach [b] X.env = [(false, eval b X.env)] := by rfl) :
    PI X tg (.Call (.Name "range" p) [a, b] [] pos) (dI G E (srcRange2 ma)) :=
  (pi_range2 hg hm ha hs hs2).imp fun σ H R h => dA_of (dA_src h) fun vs H1 ⟨ρ, st, ds, s, r, p⟩ => by
    split at p
    · split at p
      · rename_i i j hj
        obtain ⟨v, u, rfl, rv, ru⟩ := two_rel r
        rw [Bool.and_eq_true] at hj
        have h1 := small_iff hj.1
        have h2 := small_iff hj.2
        exact ⟨_, _, by rw [rv.int, ru.int], ⟨h1.1, h1.2, h2.1, h2.2⟩, p ρ H1 _ (Ext.refl _ _) s rng_it⟩
      · exact p.elim
    · exact p.elim
end
end MM

/-! zip and enumerate over lists, tuples and texts, in any mix. -/
namespace MM
open PySem PySem.Spec PyProof.Rows L2

/-- a source -/
inductive Sk where
  | lst (a : Addr) | tup (a : Addr) | txt (z : Str) (t : Tok)
def Sk.items : Sk → Hp → List V → Prop
  | .lst a, H, xs => Rd H a (.lst xs)
  | .tup a, H, xs => Rd H a (.tup xs)
  | .txt z _, _, xs => xs = z.cps.toList.map fun c => .str ⟨#[c]⟩
/-- its iterator at a turn -/
def Sk.here (it : Addr) : Sk → Nat → Heap → Prop
  | .lst a, i, h => h.IsListIter it a i
  | .tup a, i, h => h.IsTupleIter it a i
  | .txt z t, i, h => h.IsStrIter it (strIterType z) z t i
def Sk.val : Sk → Value
  | .lst a => .ref a
  | .tup a => .ref a
  | .txt z t => .str z t
def Sk.obj : Sk → Obj
  | .lst a => { cls := .type "list_iterator", data := .fields #[.ref a, .int 0 0] }
  | .tup a => { cls := .type "tuple_iterator", data := .fields #[.ref a, .int 0 0] }
  | .txt z t => { cls := .type (strIterType z), data := .fields #[.str z t, .int 0 0] }
theorem Rd.there {H : Hp} {a : Addr} {u : HO} (r : Rd H a u) : H a ≠ none := by
  rcases r with r | ⟨o, r⟩ <;> rw [r] <;> intro z <;> cases z
section
variable {X : Cx} {pins : List (Addr × Obj)} {σ : L2.St} {H : Hp} {s : Shared} {k : Sk} {it : Addr} {xs : List V} {i : Nat} {h h' : Heap}
theorem Sk.live (q : k.here it i h) : ∃ o vs, h.get? it = some o ∧ o.data = .fields vs := by
  cases k with
  | lst a => obtain ⟨o, e, _, d⟩ := q; exact ⟨o, _, e, d⟩
  | tup a => obtain ⟨o, e, _, d⟩ := q; exact ⟨o, _, e, d⟩
  | txt z t => obtain ⟨o, e, _, d⟩ := q; exact ⟨o, _, e, d⟩
theorem Sk.keep (q : k.here it i h) (hk : ∀ o, h.get? it = some o → h'.get? it = some o) : k.here it i h' := by
  cases k with
  | lst a => exact Heap.IsListIter.at q hk
  | tup a => exact Heap.IsTupleIter.at q hk
  | txt z t => obtain ⟨o, e, c, d⟩ := q; exact ⟨o, hk o e, c, d⟩
/-- the source as the library draws it, at this state -/
theorem Sk.draws (I : L2.Inv X pins σ H s) (hh : X.A.handled = none) (hx : k.items H xs) (q : k.here it i s.heap) (hit : H it = none) : ∃ (fp : List Addr) (P : Nat → Value → Prop) (St : Nat → Heap → Prop),
    Draws X.prog X.w X.A.in1 it fp xs.length P St ∧ it ∈ fp ∧ (∀ b ∈ fp, b ≠ it → H b ≠ none) ∧ St i s.heap ∧ (∀ j u, j < xs.length → P j u → ∃ x, xs[j]? = some x ∧ RelV x u) ∧ ∀ j h, St j h → k.here it j h := by
  cases k with
  | lst a =>
    have hs : SqL X.K H a xs := .inl hx
    obtain ⟨its, rv, p, _⟩ := I.list hs
    have ne : a ≠ it := fun z => Rd.there hx (by rw [z]; exact hit)
    have e : its.toArray.size = xs.length := by rw [List.size_toArray]; exact rv.length.symm
    refine ⟨[it, a], _, _, e ▸ Draws.list (A := X.A.in1) hh it a ne its.toArray, by simp, fun b hb hne => ?_, ⟨q, p.isList⟩, fun j u hj hu => ?_, fun j h st => st.1⟩
    · have : b = a := by simpa [hne] using hb
      rw [this]; exact Rd.there hx
    · have e2 : xs[j]? = some xs[j] := by simp [hj]
      obtain ⟨w, hw, rw⟩ := rv.get e2
      have hu' : its[j]? = some u := by simpa using hu
      rw [hw] at hu'; cases hu'
      exact ⟨_, e2, rw⟩
  | tup a =>
    have hs : SqT X.K H a xs := .inl hx
    obtain ⟨its, rv, p, _⟩ := I.tuple hs
    have ne : a ≠ it := fun z => Rd.there hx (by rw [z]; exact hit)
    have e : its.toArray.size = xs.length := by rw [List.size_toArray]; exact rv.length.symm
    refine ⟨[it, a], _, _, e ▸ Draws.tuple (A := X.A.in1) hh it a ne its.toArray, by simp, fun b hb hne => ?_, ⟨q, show s.heap.IsTuple a its.toArray from p⟩, fun j u hj hu => ?_, fun j h st => st.1⟩
    · have : b = a := by simpa [hne] using hb
      rw [this]; exact Rd.there hx
    · have e2 : xs[j]? = some xs[j] := by simp [hj]
      obtain ⟨w, hw, rw⟩ := rv.get e2
      have hu' : its[j]? = some u := by simpa using hu
      rw [hw] at hu'; cases hu'
      exact ⟨_, e2, rw⟩
  | txt z t =>
    have ex : xs = z.cps.toList.map fun c => .str ⟨#[c]⟩ := hx
    have e : z.cps.size = xs.length := by rw [ex]; simp
    refine ⟨[it], _, _, e ▸ Draws.text (A := X.A.in1) hh it z t, by simp, fun b hb hne => absurd (by simpa using hb) hne, q, fun j u hj hu => ?_, fun j h st => st⟩
    obtain ⟨c, tk, h1, h2⟩ := hu
    refine ⟨.str ⟨#[c]⟩, by rw [ex, List.getElem?_map]; simp [h1], ?_⟩
    rw [h2]; exact ⟨tk, rfl⟩
theorem Sk.begins (I : L2.Inv X pins σ H s) (hx : k.items H xs) : ∃ P : Heap → Prop, Begins k.val k.obj P ∧ P s.heap := by
  cases k with
  | lst a =>
    obtain ⟨its, rv, p, _⟩ := I.list (show SqL X.K H a xs from .inl hx)
    exact ⟨_, begins_list a its.toArray, p.isList⟩
  | tup a =>
    obtain ⟨its, rv, p, _⟩ := I.tuple (show SqT X.K H a xs from .inl hx)
    exact ⟨_, begins_tuple a its.toArray, show s.heap.IsTuple a its.toArray from p⟩
  | txt z t => exact ⟨_, begins_text z t, trivial⟩
theorem Sk.first (e : h.get? it = some k.obj) : k.here it 0 h := by
  cases k with
  | lst a => exact ⟨_, e, rfl, rfl⟩
  | tup a => exact ⟨_, e, rfl, rfl⟩
  | txt z t => exact ⟨_, e, rfl, rfl⟩
theorem Sk.data (k : Sk) : ∃ vs, k.obj.data = .fields vs := by
  cases k <;> exact ⟨_, rfl⟩
end

/-- pairs of two sources' items, each a new tuple -/
def Itw (k1 k2 : Sk) : It :=
  ⟨fun i H => ∃ xs ys, k1.items H xs ∧ k2.items H ys ∧ i < xs.length ∧ i < ys.length,
    fun i H v H' => ∃ T x y, v = .ref T ∧ H T = none ∧ H' = upd H T (.tup [x, y]) ∧ (∃ xs, k1.items H xs ∧ xs[i]? = some x) ∧ ∃ ys, k2.items H ys ∧ ys[i]? = some y,
    fun i H => ∃ xs ys, k1.items H xs ∧ k2.items H ys ∧ i ≤ xs.length ∧ i ≤ ys.length ∧ (i = xs.length ∨ i = ys.length)⟩
/-- a counted source -/
def Itc2 (k : Sk) : It :=
  ⟨fun i H => ∃ xs, k.items H xs ∧ i < xs.length,
    fun i H v H' => ∃ T x, v = .ref T ∧ H T = none ∧ H' = upd H T (.tup [.int (i : Nat), x]) ∧ ∃ xs, k.items H xs ∧ xs[i]? = some x,
    fun i H => ∃ xs, k.items H xs ∧ i = xs.length⟩
theorem turn_w {P : Program} {w : World} {K : PySem.W.Frag} {elts : List Expr} {kk : Nat} {tpos : Pos} (k1 k2 : Sk) {z TI TO i1 i2 : Addr} (n1 : TI ≠ z) (n2 : TO ≠ z) (n3 : TI ≠ TO) (n4 : TI ≠ i1) (n5 : TI ≠ i2) (n6 : z ≠ i1) (n7 : z ≠ i2) (n8 : TO ≠ i1) (n9 : TO ≠ i2) (n0 : i1 ≠ i2) :
    Turn P w K (.Tuple elts kk tpos) (Itw k1 k2) [z, TI, TO, i1, i2] z (fun i h => IsZip h z TI TO .none ∧ IsTupOf2 h TI (.ref i1) (.ref i2) ∧ (∃ x y, IsTupOf2 h TO x y) ∧ k1.here i1 i h ∧ k2.here i2 i h) where
  mem := List.mem_cons_self
  obj := fun i h st c hc => by
    obtain ⟨q1, q2, ⟨_, _, q3⟩, q4, q5⟩ := st
    have e' : c = z ∨ c = TI ∨ c = TO ∨ c = i1 ∨ c = i2 := by simpa using hc
    rcases e' with rfl | rfl | rfl | rfl | rfl
    · exact ⟨_, q1, fun v q => nomatch q⟩
    · exact ⟨_, q2, fun v q => nomatch q⟩
    · exact ⟨_, q3, fun v q => nomatch q⟩
    · obtain ⟨o, vs, e, d⟩ := Sk.live q4
      exact ⟨o, e, fun v q => by rw [d] at q; cases q⟩
    · obtain ⟨o, vs, e, d⟩ := Sk.live q5
      exact ⟨o, e, fun v q => by rw [d] at q; cases q⟩
  keep := fun i h h' st k => by
    obtain ⟨q1, q2, ⟨_, _, q3⟩, q4, q5⟩ := st
    exact ⟨k _ (by simp) _ q1, k _ (by simp) _ q2, ⟨_, _, k _ (by simp) _ q3⟩, Sk.keep q4 (k _ (by simp)), Sk.keep q5 (k _ (by simp))⟩
  item := by
    intro X hP hw hK hc i pins s σ H E I hf st hg
    subst hP hw hK
    obtain ⟨q1, q2, ⟨_, _, q3⟩, q4, q5⟩ := st
    obtain ⟨xs, ys, hx, hy, l1, l2⟩ := hg
    have hh := I.ok.hd hc
    have fr : ∀ b, b ∈ [z, TI, TO, i1, i2] → H b = none := fun b hb => (hf b hb).1
    obtain ⟨fp1, P1, St1, D1, m1, o1, s1, r1, t1⟩ := Sk.draws I hh hx q4 (fr _ (by simp))
    obtain ⟨fp2, P2, St2, D2, m2, o2, s2, r2, t2⟩ := Sk.draws I hh hy q5 (fr _ (by simp))
    have out1 : ∀ b, b ∈ [z, TI, TO, i1, i2] → b ≠ i1 → b ∉ fp1 := fun b hb hne hm => o1 b hm hne (fr b hb)
    have out2 : ∀ b, b ∈ [z, TI, TO, i1, i2] → b ≠ i2 → b ∉ fp2 := fun b hb hne hm => o2 b hm hne (fr b hb)
    have S : ZipSep2 z TI TO i1 i2 fp1 fp2 := ⟨n1, n2, n3, n4, m1, out1 z (by simp) n6, out1 TO (by simp) n8, n5, m2, out2 z (by simp) n7, out2 TO (by simp) n9, out2 i1 (by simp) n0, out1 i2 (by simp) (Ne.symm n0)⟩
    have lz : z < s.heap.objs.size := Heap.lt_size q1
    refine wpAny_pyNext_zipD2_item S D1 D2 q1 q2 q3 s1 s2 l1 l2 fun u1 u2 h' tk p1 p2 z' TO' st1' st2' hT hsz hk => ?_
    refine ⟨_, rfl, wpAny_letOwnedTupleGo_zip (s := { s with heap := h', toks := tk }) z' fun h'' z'' sb => ?_⟩
    obtain ⟨x, ex, rx⟩ := r1 i u1 l1 p1
    obtain ⟨y, ey, ry⟩ := r2 i u2 l2 p2
    have hT2 : h''.get? s.heap.objs.size = some { cls := .type "tuple", data := .seq #[u1, u2] } := (sb.2 _ (Nat.ne_of_gt lz)).trans hT
    have new : ObjOk X.prog X.w (upd H s.heap.objs.size (.tup [x, y])) h'' s.heap.objs.size (.tup [x, y]) :=
      ⟨by rw [lim_eq]; exact (by decide : 2 ≤ lim), [u1, u2], .cons rx (.cons ry .nil), ⟨_, hT2, rfl, _, rfl⟩⟩
    have I1 := I.turnedNew (t' := tk) (ch := [z, TI, TO, i1, i2]) (h' := h'') (fun c o hb q => (sb.2 c (fun q' => hb (by simp [q']))).trans (hk c o (fun q' => hb (by simp [q'])) (fun q' => hb (by simp [q'])) (fun q' => hb (by simp [q'])) (fun q' => hb (by simp [q'])) q)) hf (Nat.le_refl _) new
    have up : ∀ b o, b ≠ z → h'.get? b = some o → h''.get? b = some o := fun b o hb e => (sb.2 b hb).trans e
    refine ⟨.ref s.heap.objs.size, _, I1, rfl, ⟨_, x, y, rfl, I.hok.fresh (Nat.le_refl _), rfl, ⟨xs, hx, ex⟩, ys, hy, ey⟩, ⟨z'', up _ _ n1 (hk _ _ n1 n3 n4 n5 q2), ⟨u1, u2, up _ _ n2 TO'⟩, Sk.keep (t1 _ _ st1') fun o e => up _ _ (Ne.symm n6) e, Sk.keep (t2 _ _ st2') fun o e => up _ _ (Ne.symm n7) e⟩, fun c hcm => ?_⟩
    have hlt : c < s.heap.objs.size := by
      have e' : c = z ∨ c = TI ∨ c = TO ∨ c = i1 ∨ c = i2 := by simpa using hcm
      rcases e' with rfl | rfl | rfl | rfl | rfl
      · exact lz
      · exact Heap.lt_size q2
      · exact Heap.lt_size q3
      · obtain ⟨_, _, e, _⟩ := Sk.live q4; exact Heap.lt_size e
      · obtain ⟨_, _, e, _⟩ := Sk.live q5; exact Heap.lt_size e
    rw [upd_ne (Nat.ne_of_lt hlt)]
    exact fr c hcm
  done := by
    intro X hP hw hK hc i pins s σ H E I hf st hg
    subst hP hw hK
    obtain ⟨q1, q2, ⟨_, _, q3⟩, q4, q5⟩ := st
    obtain ⟨xs, ys, hx, hy, l1, l2, hend⟩ := hg
    have hh := I.ok.hd hc
    have fr : ∀ b, b ∈ [z, TI, TO, i1, i2] → H b = none := fun b hb => (hf b hb).1
    obtain ⟨fp1, P1, St1, D1, m1, o1, s1, r1, t1⟩ := Sk.draws I hh hx q4 (fr _ (by simp))
    obtain ⟨fp2, P2, St2, D2, m2, o2, s2, r2, t2⟩ := Sk.draws I hh hy q5 (fr _ (by simp))
    have out1 : ∀ b, b ∈ [z, TI, TO, i1, i2] → b ≠ i1 → b ∉ fp1 := fun b hb hne hm => o1 b hm hne (fr b hb)
    have out2 : ∀ b, b ∈ [z, TI, TO, i1, i2] → b ≠ i2 → b ∉ fp2 := fun b hb hne hm => o2 b hm hne (fr b hb)
    have S : ZipSep2 z TI TO i1 i2 fp1 fp2 := ⟨n1, n2, n3, n4, m1, out1 z (by simp) n6, out1 TO (by simp) n8, n5, m2, out2 z (by simp) n7, out2 TO (by simp) n9, out2 i1 (by simp) n0, out1 i2 (by simp) (Ne.symm n0)⟩
    exact wpAny_pyNext_zipD2_end S D1 D2 q1 q2 q3 s1 s2 l1 l2 hend fun h' tk hk => ⟨rfl, I.turnedL (t' := tk) (ch := [z, TI, TO, i1, i2]) (fun c o hb q =>
      hk c o (fun q' => hb (by simp [q'])) (fun q' => hb (by simp [q'])) (fun q' => hb (by simp [q'])) (fun q' => hb (by simp [q'])) q) hf⟩
  self := fun A i s Q E st h => wpAny_pyIter_zip st.1 h
theorem turn_c2 {P : Program} {w : World} {K : PySem.W.Frag} {elts : List Expr} {kk : Nat} {tpos : Pos} (k : Sk) {e it : Addr} (ne : e ≠ it) :
    Turn P w K (.Tuple elts kk tpos) (Itc2 k) [e, it] e (fun i h => (∃ old, IsEnum h e it ((i : Nat) : Int) old) ∧ k.here it i h) where
  mem := List.mem_cons_self
  obj := fun i h st c hc => by
    obtain ⟨⟨old, q1⟩, q4⟩ := st
    have e' : c = e ∨ c = it := by simpa using hc
    rcases e' with rfl | rfl
    · exact ⟨_, q1, fun v q => nomatch q⟩
    · obtain ⟨o, vs, e, d⟩ := Sk.live q4
      exact ⟨o, e, fun v q => by rw [d] at q; cases q⟩
  keep := fun i h h' st k => by
    obtain ⟨⟨old, q1⟩, q4⟩ := st
    exact ⟨⟨old, k _ (by simp) _ q1⟩, Sk.keep q4 (k _ (by simp))⟩
  item := by
    intro X hP hw hK hc i pins s σ H E I hf st hg
    subst hP hw hK
    obtain ⟨⟨old, q1⟩, q4⟩ := st
    obtain ⟨xs, hx, l1⟩ := hg
    have hh := I.ok.hd hc
    have fr : ∀ b, b ∈ [e, it] → H b = none := fun b hb => (hf b hb).1
    obtain ⟨fp1, P1, St1, D1, m1, o1, s1, r1, t1⟩ := Sk.draws I hh hx q4 (fr _ (by simp))
    have oe : e ∉ fp1 := fun hm => o1 e hm ne (fr e (by simp))
    have lz : e < s.heap.objs.size := Heap.lt_size q1
    have li : it < s.heap.objs.size := by obtain ⟨_, _, e, _⟩ := Sk.live q4; exact Heap.lt_size e
    refine wpAny_pyNext_enum_itemC D1 q1 s1 l1 ne oe fun u h' tk p1 ho st1' hT hsz hk => ?_
    refine ⟨_, rfl, wpAny_letOwnedTupleGo_enum (s := { s with heap := h', toks := tk + 1 }) ho fun h'' z'' sb => ?_⟩
    obtain ⟨x, ex, rx⟩ := r1 i u l1 p1
    have hT2 : h''.get? s.heap.objs.size = some { cls := .type "tuple", data := .seq #[.int i tk, u] } := (sb.2 _ (Nat.ne_of_gt lz)).trans hT
    have new : ObjOk X.prog X.w (upd H s.heap.objs.size (.tup [.int (i : Nat), x])) h'' s.heap.objs.size (.tup [.int (i : Nat), x]) :=
      ⟨by rw [lim_eq]; exact (by decide : 2 ≤ lim), [.int i tk, u], .cons ⟨_, rfl⟩ (.cons rx .nil), ⟨_, hT2, rfl, _, rfl⟩⟩
    have I1 := I.turnedNew (t' := tk + 1) (ch := [e, it]) (h' := h'') (fun c o hb q => (sb.2 c (fun q' => hb (by simp [q']))).trans (hk c o (fun q' => hb (by simp [q'])) (fun q' => hb (by simp [q'])) q)) hf (Nat.le_refl _) new
    refine ⟨.ref s.heap.objs.size, _, I1, rfl, ⟨_, x, rfl, I.hok.fresh (Nat.le_refl _), rfl, xs, hx, ex⟩, ⟨⟨u, ?_⟩, Sk.keep (t1 _ _ st1') fun o q => (sb.2 it (Ne.symm ne)).trans q⟩, fun c hcm => ?_⟩
    · have e1 : ((i + 1 : Nat) : Int) = (i : Int) + 1 := Int.natCast_succ i
      rw [e1]; exact z''
    · have hlt : c < s.heap.objs.size := by
        have e' : c = e ∨ c = it := by simpa using hcm
        rcases e' with rfl | rfl
        · exact lz
        · exact li
      rw [upd_ne (Nat.ne_of_lt hlt)]
      exact fr c hcm
  done := by
    intro X hP hw hK hc i pins s σ H E I hf st hg
    subst hP hw hK
    obtain ⟨⟨old, q1⟩, q4⟩ := st
    obtain ⟨xs, hx, hend⟩ := hg
    have hh := I.ok.hd hc
    obtain ⟨fp1, P1, St1, D1, m1, o1, s1, r1, t1⟩ := Sk.draws I hh hx q4 (hf it (by simp)).1
    obtain ⟨f0, f1, f2, f3, f4, f5⟩ := hf it (by simp)
    rw [hend] at s1
    exact wpAny_pyNext_enum_endD D1 q1 s1 fun h' eb => ⟨rfl, I.turned (t' := s.toks) (fun b o hb q => eb b o hb q) f0 f1 f3 f4 f5⟩
  self := fun A i s Q E st h => let ⟨⟨_, he⟩, _⟩ := st; wpAny_pyIter_enum he h

/-! ### the computations -/
def pairsOf : List D → List D → List D
  | a :: as, b :: bs => .tup [a, b] :: pairsOf as bs
  | _, _ => []
def countOf : Nat → List D → List D
  | _, [] => []
  | n, a :: as => .tup [.int (n : Nat), a] :: countOf (n + 1) as
def srcZip (a : Env → M (List D)) : Env → M Src := fun env st => (a env st).bind fun ds st => match ds with
  | [x, y] => (match itemsOf x st, itemsOf y st with
    | some u, some v => .ok (pairsOf u.1 v.1, fun st => u.2 st && v.2 st) st
    | _, _ => .bad)
  | _ => .bad
def isTup : D → Bool
  | .tup _ => true
  | _ => false
def srcEnum (a : Env → M (List D)) : Env → M Src := fun env st => (a env st).bind fun ds st => match ds with
  | [x] => if isTup x then .bad else (match itemsOf x st with
    | some u => .ok (countOf 0 u.1, u.2) st
    | none => .bad)
  | _ => .bad
theorem pairs_get : ∀ (as bs : List D) (i : Nat), (pairsOf as bs)[i]? = (match as[i]?, bs[i]? with | some a, some b => some (.tup [a, b]) | _, _ => none)
  | [], bs, i => by simp [pairsOf]
  | a :: as, [], i => by
    cases h : (a :: as)[i]? <;> simp [pairsOf, h]
  | a :: as, b :: bs, 0 => by simp [pairsOf]
  | a :: as, b :: bs, i + 1 => by
    have ih := pairs_get as bs i
    simpa [pairsOf] using ih
theorem pairs_len : ∀ (as bs : List D), (pairsOf as bs).length = min as.length bs.length
  | [], bs => by simp [pairsOf]
  | a :: as, [] => by simp [pairsOf]
  | a :: as, b :: bs => by
    have ih := pairs_len as bs
    simp [pairsOf, ih]
theorem count_get : ∀ (n : Nat) (as : List D) (i : Nat), (countOf n as)[i]? = as[i]?.map fun a => .tup [.int ((n + i : Nat) : Int), a]
  | n, [], i => by simp [countOf]
  | n, a :: as, 0 => by simp [countOf]
  | n, a :: as, i + 1 => by
    have ih := count_get (n + 1) as i
    have e : n + 1 + i = n + (i + 1) := by omega
    rw [e] at ih
    simpa [countOf] using ih
theorem count_len : ∀ (n : Nat) (as : List D), (countOf n as).length = as.length
  | n, [] => rfl
  | n, a :: as => by simp [countOf, count_len (n + 1) as]
section
variable {G : Wd} {X : Cx} {E : XK} {elts : List Expr} {kk : Nat} {tpos : Pos} {ρ : List Addr} {H : Hp} {st : Sto}
/-- what is walked, as a source: its items at every state later -/
theorem src_sk (s : Sim G ρ st H) {d : D} {u : Src} (e : itemsOf d st = some u) {x : V} {v : Value} (r : RelD G ρ H d x) (rv : RelV x v) : ∃ k : Sk, k.val = v ∧
    (∀ (ρ2 : List Addr) (st2 : Sto) (H2 : Hp), Ext ρ H ρ2 H2 → Sim G ρ2 st2 H2 → u.2 st2 = true → ∃ vs, k.items H2 vs ∧ RelDs G ρ2 H2 u.1 vs) ∧ (∃ vs, k.items H vs ∧ ∀ H2 vs2 vs3, k.items H2 vs2 → k.items H2 vs3 → vs2 = vs3) ∧ ∀ a, k = .tup a → isTup d = true := by
  have inj1 : ∀ {a : Addr} (H2 : Hp) (vs2 vs3 : List V), Rd H2 a (.lst vs2) → Rd H2 a (.lst vs3) → vs2 = vs3 := fun H2 vs2 vs3 h1 h2 => by
    rcases h1 with h1 | ⟨o, h1⟩ <;> rcases h2 with h2 | ⟨o2, h2⟩ <;> rw [h1] at h2 <;> cases h2 <;> rfl
  have inj2 : ∀ {a : Addr} (H2 : Hp) (vs2 vs3 : List V), Rd H2 a (.tup vs2) → Rd H2 a (.tup vs3) → vs2 = vs3 := fun H2 vs2 vs3 h1 h2 => by
    rcases h1 with h1 | ⟨o, h1⟩ <;> rcases h2 with h2 | ⟨o2, h2⟩ <;> rw [h1] at h2 <;> cases h2 <;> rfl
  have rd_of : ∀ {ρ2 : List Addr} {st2 : Sto} {H2 : Hp} {i : Nat} {ds : List D} {a : Addr}, Sim G ρ2 st2 H2 → lstAt st2 i = some ds → ρ2[i]? = some a → ∃ vs, Rd H2 a (.lst vs) ∧ RelDs G ρ2 H2 ds vs := fun {ρ2 st2 H2 i ds a} s2 e2 ea => by
    unfold lstAt at e2
    split at e2
    · rename_i q
      cases e2
      obtain ⟨a', ho, e1, e2, vs, e3, rr⟩ := s2.at q
      rw [ea] at e1; cases e1
      exact ⟨vs, .inl (by rw [e2, e3]), rr⟩
    · cases e2
  cases d with
  | ref i =>
    obtain ⟨ds, e1, e2⟩ := Option.map_eq_some_iff.mp (show (lstAt st i).map (fun ds => (ds, stands i ds)) = some u from e)
    subst e2
    obtain ⟨a, ea, ev⟩ := r
    subst ev
    refine ⟨.lst a, (show v = .ref a from rv).symm, fun ρ2 st2 H2 x2 s2 g2 => rd_of s2 (stands_iff.mp g2) (getElem?_pre x2.pre ea), ?_, fun _ z => nomatch z⟩
    obtain ⟨vs, h1, _⟩ := rd_of s e1 ea
    exact ⟨vs, h1, inj1⟩
  | tup ds =>
    cases e
    obtain ⟨a, vs, ev, ha, rd⟩ := r
    subst ev
    exact ⟨.tup a, (show v = .ref a from rv).symm, fun ρ2 st2 H2 x2 s2 g2 => ⟨vs, .inl (s.tups x2 a (.tup vs) trivial ha), s.relDs x2 rd⟩, ⟨vs, .inl ha, inj2⟩, fun _ _ => rfl⟩
  | str z =>
    cases e
    rw [r.str] at rv
    obtain ⟨t, rfl⟩ := rv
    refine ⟨.txt ⟨z.toArray⟩ t, rfl, fun ρ2 st2 H2 x2 s2 g2 => ⟨_, rfl, ?_⟩, ⟨_, rfl, fun H2 vs2 vs3 h1 h2 => (show vs2 = _ from h1).trans (show vs3 = _ from h2).symm⟩, fun _ z => nomatch z⟩
    have : ∀ l : List Nat, RelDs G ρ2 H2 (l.map fun c => D.str [c]) (l.map fun c => V.str ⟨#[c]⟩) := by
      intro l
      induction l with
      | nil => rfl
      | cons c l ih => exact ⟨_, _, rfl, rfl, ih⟩
    simpa using this z
  | _ => cases e
theorem itw_it {ρ : List Addr} {H : Hp} {k1 k2 : Sk} {u1 u2 : Src} (h1 : ∀ (ρ2 : List Addr) (st2 : Sto) (H2 : Hp), Ext ρ H ρ2 H2 → Sim G ρ2 st2 H2 → u1.2 st2 = true → ∃ vs, k1.items H2 vs ∧ RelDs G ρ2 H2 u1.1 vs)
    (h2 : ∀ (ρ2 : List Addr) (st2 : Sto) (H2 : Hp), Ext ρ H ρ2 H2 → Sim G ρ2 st2 H2 → u2.2 st2 = true → ∃ vs, k2.items H2 vs ∧ RelDs G ρ2 H2 u2.1 vs)
    (j1 : ∀ H2 vs2 vs3, k1.items H2 vs2 → k1.items H2 vs3 → vs2 = vs3) (j2 : ∀ H2 vs2 vs3, k2.items H2 vs2 → k2.items H2 vs3 → vs2 = vs3) :
    ItR G ρ H (Itw k1 k2) (pairsOf u1.1 u2.1, fun st => u1.2 st && u2.2 st) := fun i ρ2 st2 H2 x2 s2 g2 => by
  have g2 : (u1.2 st2 && u2.2 st2) = true := g2
  rw [Bool.and_eq_true] at g2
  obtain ⟨xs, hx, rx⟩ := h1 ρ2 st2 H2 x2 s2 g2.1
  obtain ⟨ys, hy, ry⟩ := h2 ρ2 st2 H2 x2 s2 g2.2
  have l1 := rx.length
  have l2 := ry.length
  refine ⟨fun d hd => ?_, fun hle => ?_⟩
  · have hd' := hd
    rw [show (pairsOf u1.1 u2.1, fun st => u1.2 st && u2.2 st).1 = pairsOf u1.1 u2.1 from rfl, pairs_get] at hd'
    cases ea : u1.1[i]? with
    | none => rw [ea] at hd'; cases hd'
    | some a =>
      cases eb : u2.1[i]? with
      | none => rw [ea, eb] at hd'; cases hd'
      | some b =>
        rw [ea, eb] at hd'
        have hd' := Option.some.inj hd'
        subst hd'
        have i1 := (List.getElem?_eq_some_iff.mp ea).1
        have i2 := (List.getElem?_eq_some_iff.mp eb).1
        refine ⟨⟨xs, ys, hx, hy, by omega, by omega⟩, fun v H' yl => ?_⟩
        obtain ⟨T, x, y, rfl, nT, rfl, ⟨xs', hx', ex⟩, ys', hy', ey⟩ := yl
        rw [j1 _ _ _ hx' hx] at ex
        rw [j2 _ _ _ hy' hy] at ey
        obtain ⟨x', ex', rx'⟩ := rx.get ea
        obtain ⟨y', ey', ry'⟩ := ry.get eb
        rw [ex] at ex'; cases ex'
        rw [ey] at ey'; cases ey'
        exact ⟨Ext.laid nT, s2.laid nT, T, [x, y], rfl, upd_same, s2.relDs (Ext.laid nT) (.two rx' ry')⟩
  · have hle : i = (pairsOf u1.1 u2.1).length := hle
    rw [pairs_len] at hle
    exact ⟨xs, ys, hx, hy, by omega, by omega, by omega⟩
theorem itc_it {ρ : List Addr} {H : Hp} {k1 : Sk} {u1 : Src} (h1 : ∀ (ρ2 : List Addr) (st2 : Sto) (H2 : Hp), Ext ρ H ρ2 H2 → Sim G ρ2 st2 H2 → u1.2 st2 = true → ∃ vs, k1.items H2 vs ∧ RelDs G ρ2 H2 u1.1 vs)
    (j1 : ∀ H2 vs2 vs3, k1.items H2 vs2 → k1.items H2 vs3 → vs2 = vs3) : ItR G ρ H (Itc2 k1) (countOf 0 u1.1, u1.2) := fun i ρ2 st2 H2 x2 s2 g2 => by
  obtain ⟨xs, hx, rx⟩ := h1 ρ2 st2 H2 x2 s2 g2
  have l1 := rx.length
  refine ⟨fun d hd => ?_, fun hle => ?_⟩
  · have hd' : (countOf 0 u1.1)[i]? = some d := hd
    rw [count_get] at hd'
    obtain ⟨a, ea, hd'⟩ := Option.map_eq_some_iff.mp hd'
    subst hd'
    have i1 := (List.getElem?_eq_some_iff.mp ea).1
    refine ⟨⟨xs, hx, by omega⟩, fun v H' yl => ?_⟩
    obtain ⟨T, x, rfl, nT, rfl, xs', hx', ex⟩ := yl
    rw [j1 _ _ _ hx' hx] at ex
    obtain ⟨x', ex', rx'⟩ := rx.get ea
    rw [ex] at ex'; cases ex'
    refine ⟨Ext.laid nT, s2.laid nT, T, [.int (i : Nat), x], rfl, upd_same, s2.relDs (Ext.laid nT) (.two ?_ rx')⟩
    rw [Nat.zero_add]; rfl
  · have hle : i = (countOf 0 u1.1).length := hle
    rw [count_len] at hle
    exact ⟨xs, hx, by omega⟩
variable {a b : Expr} {ma : Env → M (List D)} {p pos : Pos}
theorem r_izip (hm : X.mg "zip" = none) (hg : Gl X "zip") (ha : PA X [a, b] (dA G E ma))
    (hs : starEach [a, b] X.env = (false, eval a X.env) :: starEach [b] X.env := by rfl) (hpl : (backTo pos (starEach [b] X.env)).any (·.1) = false := by rfl) :
    PI X (.Tuple elts kk tpos) (.Call (.Name "zip" p) [a, b] [] pos) (dI G E (srcZip ma)) := ⟨fun pins s σ H R I h => by
  refine Call_ (ld_blt I hg hm PyProof.Rows.boot_zip (PyProof.Rows.callWith_type1 (thn (ha.run pos pins s σ H _ I (dA_src h)) fun us s1 ⟨vs, H1, I1, rr, ρ1, st1, ds, sm, r, pp⟩ => ?_) hs hpl))
  split at pp
  · split at pp
    · rename_i u v eu ev
      obtain ⟨x, y, rfl, rx, ry⟩ := two_rel r
      obtain ⟨w1, w2, rfl, q1, q2⟩ := Vals.two rr
      obtain ⟨k1, e1, f1, ⟨vs1, i1, j1⟩, _⟩ := src_sk sm eu rx q1
      obtain ⟨k2, e2, f2, ⟨vs2, i2, j2⟩, _⟩ := src_sk sm ev ry q2
      obtain ⟨P1, B1, b1⟩ := Sk.begins I1 i1
      obtain ⟨P2, B2, b2⟩ := Sk.begins I1 i2
      rw [e1] at B1
      rw [e2] at B2
      refine zip_begins2 B1 B2 b1 b2 fun h' hz hTI hTO o1 o2 hsz hk => wpAny_pyIter_zip hz ?_
      have I2 : L2.Inv X pins σ H1 { s1 with heap := h' } := I1.kept (t' := s1.toks) hk
      generalize hN : s1.heap.objs.size = N at *
      have ne : ∀ c d : Nat, c ≠ d → (N + c : Nat) ≠ N + d := fun c d h z => h (Nat.add_left_cancel z)
      refine ⟨N + 4, [N + 4, N + 2, N + 3, N, N + 1], _, _, H1, rfl, I2, turn_w k1 k2 (ne 2 4 (by decide)) (ne 3 4 (by decide)) (ne 2 3 (by decide)) (ne 2 0 (by decide)) (ne 2 1 (by decide)) (ne 4 0 (by decide)) (ne 4 1 (by decide)) (ne 3 0 (by decide)) (ne 3 1 (by decide)) (ne 0 1 (by decide)), ⟨hz, hTI, ⟨_, _, hTO⟩, Sk.first o1, Sk.first o2⟩, fun c hcm => ?_, pp ρ1 H1 _ (Ext.refl _ _) sm (itw_it f1 f2 j1 j2)⟩
      have e' : c = N + 4 ∨ c = N + 2 ∨ c = N + 3 ∨ c = N ∨ c = N + 1 := by simpa using hcm
      have hle : s1.heap.objs.size ≤ c := by
        rw [hN]
        rcases e' with z | z | z | z | z <;> rw [z] <;> first | exact Nat.le_refl _ | exact Nat.le_add_right _ _
      exact I1.fpOk hle (I1.hok.fresh hle)
    · exact pp.elim
  · exact pp.elim⟩
theorem r_ienum (hm : X.mg "enumerate" = none) (hg : Gl X "enumerate") (ha : PA X [a] (dA G E ma)) (hs : starEach [a] X.env = [(false, eval a X.env)] := by rfl) :
    PI X (.Tuple elts kk tpos) (.Call (.Name "enumerate" p) [a] [] pos) (dI G E (srcEnum ma)) := ⟨fun pins s σ H R I h => by
  refine Call_ (ld_blt I hg hm boot_enumerate (PyProof.Rows.callWith_type1 (thn (ha.run pos pins s σ H _ I (dA_src h)) fun us s1 ⟨vs, H1, I1, rr, ρ1, st1, ds, sm, r, pp⟩ => ?_) hs rfl))
  split at pp
  · split at pp
    · exact pp.elim
    · rename_i ht
      split at pp
      · rename_i u eu
        obtain ⟨x, rfl, rx⟩ := one_rel r
        obtain ⟨w1, rfl, q1⟩ := Vals.one rr
        obtain ⟨k1, e1, f1, ⟨vs1, i1, j1⟩, tno⟩ := src_sk sm eu rx q1
        have fin : ∀ (h' : Heap), IsEnum h' (s1.heap.objs.size + 1) s1.heap.objs.size 0 .none → k1.here s1.heap.objs.size 0 h' → (∀ b o, s1.heap.get? b = some o → h'.get? b = some o) →
            PIE X pins σ (.Tuple elts kk tpos) R (.ref (s1.heap.objs.size + 1)) { s1 with heap := h' } := fun h' he ho hk => by
          refine ⟨s1.heap.objs.size + 1, [s1.heap.objs.size + 1, s1.heap.objs.size], _, _, H1, rfl, I1.kept (t' := s1.toks) hk, turn_c2 k1 (Nat.succ_ne_self _), ⟨⟨_, he⟩, ho⟩, fun c hcm => ?_, pp ρ1 H1 _ (Ext.refl _ _) sm (itc_it f1 j1)⟩
          have e' : c = s1.heap.objs.size + 1 ∨ c = s1.heap.objs.size := by simpa using hcm
          have hle : s1.heap.objs.size ≤ c := by
            rcases e' with z | z <;> rw [z] <;> first | exact Nat.le_refl _ | exact Nat.le_add_right _ _
          exact I1.fpOk hle (I1.hok.fresh hle)
        cases k1 with
        | lst a =>
          obtain ⟨its, rv, p', _⟩ := I1.list (show SqL X.K H1 a vs1 from .inl i1)
          subst e1
          exact call_enumerate_list p'.isList fun h' he hit hsz hk => wpAny_pyIter_enum he (fin h' he hit hk)
        | txt z t =>
          subst e1
          exact call_enumerate_str fun h' he hit hsz hk => wpAny_pyIter_enum he (fin h' he hit hk)
        | tup a => exact absurd (tno a rfl) ht
      · exact pp.elim
  · exact pp.elim⟩
end
end MM

/-! More rules: names of the text, isinstance, stores, steps; the end of a law. -/
namespace MM
open PySem PySem.Spec PyProof.Rows L2

def gW (K : PySem.W.Frag) : Wd := ⟨K, fun _ => 0, fun _ => 0, fun _ => ""⟩
theorem hu65 {k : Nat} {A : Around} (r : Room k A) : A.units + 65 < cLine := by have := r.un; omega
/-- anything, where nothing is promised -/
def eBad : Env → M D := fun _ => M.bad
section
variable {X : Cx} {G : Wd} {E : XK}
theorem r_ebad {e : Expr} : PE X e (dE G E eBad) := ⟨fun pins s σ H Q I ⟨ρ, st, env, sm, re, p⟩ => p.elim⟩
theorem r_sbad {e : Stmt} : PS X e (dS G E sBad) := ⟨fun pins s σ H Q I ⟨ρ, st, env, sm, re, p⟩ => p.elim⟩
theorem r_gbad {e : Expr} : PG X e (dG G E fun _ _ => M.bad) := ⟨fun pins s σ H v u Q I r ⟨ρ, st, env, d, sm, re, rd, p⟩ => p.elim⟩
theorem r_ibad {tg e : Expr} : PI X tg e (dI G E fun _ => M.bad) := ⟨fun pins s σ H Q I ⟨ρ, st, env, sm, re, p⟩ => p.elim⟩
/-- a text of the module -/
theorem r_gstr {x y : Str} {s : List Nat} {pos : Pos} (hm : ∃ t, X.mg x = some (.str y t)) (hg : Gl X x := by rfl) (hy : y = ⟨s.toArray⟩ := by decide +kernel) (hd : (x == ("__debug__" : Str)) = false := by decide) : PE X (.Name x pos) (dE G E (eC (.str s))) := by
  obtain ⟨t, hm⟩ := hm
  exact r_c (pe_glob hg hm (v := .str y) ⟨t, rfl⟩ hd) fun _ _ => by simp only [RelD, hy]
/-- a built-in class as a value -/
theorem r_ty {x : Str} {n : String} {pos : Pos} (hm : X.mg x = none) (hv : bootBuiltins x = some (.type n)) (hg : Gl X x := by rfl) (hn : x ≠ "__name__" := by decide) (hd : (x == ("__debug__" : Str)) = false := by decide) : PE X (.Name x pos) (dE G E (eC (.ty n))) :=
  r_c (pe_bltn hg hm hv (v := .ty n) rfl hn hd) fun _ _ => by simp only [RelD]
end
section
variable {P : Program} {w : World} {K : PySem.W.Frag} {mg : Str → Option Value} {base : Heap} {G : Wd} {x : Str} {stm : Stmt} {ps N : List Str} {k : Nat} {f : Addr} {fd : FuncData}
theorem def_bad (F : FnP K x stm f fd) (hm : mg x = some (.ref f)) (S : FnScope N ps (defScope stm)) : DefOk P w K mg base G x stm ps k (fun _ => M.bad) := by
  refine ⟨f, fd, F, hm, ⟨fun vs H Q E h => h.1, fun A outer s H args us vs Q E hr he hb hv h => ?_⟩⟩
  obtain ⟨_, ρ, st, ds, sm, rd, p⟩ := h
  exact p.elim
end

/-! ### isinstance -/
inductive Ty where
  | non | bl | int | str | tup | lst | dic
deriving DecidableEq
def Ty.s : Ty → String
  | .non => "NoneType" | .bl => "bool" | .int => "int" | .str => "str" | .tup => "tuple" | .lst => "list" | .dic => "dict"
def Ty.of (s : String) : Option Ty := if s = "list" then some .lst else if s = "tuple" then some .tup else if s = "int" then some .int else if s = "bool" then some .bl else if s = "str" then some .str else if s = "dict" then some .dic else none
def Ty.is : Ty → Ty → Bool
  | .bl, .int => true
  | .non, .non => true | .bl, .bl => true | .int, .int => true | .str, .str => true | .tup, .tup => true | .lst, .lst => true | .dic, .dic => true
  | _, _ => false
theorem Ty.kit : ∀ a b : Ty, kitB a.s b.s = some (a.is b) := by
  intro a b
  cases a <;> cases b <;> decide +kernel
theorem Ty.of_s {s : String} {t : Ty} (h : Ty.of s = some t) : s = t.s := by
  unfold Ty.of at h
  repeat' split at h
  all_goals first
    | (cases h; assumption)
    | cases h
def tyO : Option O → Option Ty
  | some (.lst _) => some .lst
  | some (.dicK _) => some .dic
  | some (.dicT _) => some .dic
  | _ => none
def tyOf (st : Sto) : D → Option Ty
  | .non => some .non
  | .bl _ => some .bl
  | .int _ => some .int
  | .str _ => some .str
  | .tup _ => some .tup
  | .ref i => tyO st[i]?
  | _ => none
def clsOf : D → Option (List Ty)
  | .ty n => (Ty.of n).map fun t => [t]
  | .tup ds => ds.mapM fun d => match d with
    | .ty n => Ty.of n
    | _ => none
  | _ => none
def fIsi : List D → M D
  | [x, c] => fun st => (match tyOf st x, clsOf c with
    | some t, some cs => .ok (.bl (cs.any t.is)) st
    | _, _ => .bad)
  | _ => M.bad
section
variable {G : Wd} {ρ : List Addr} {H : Hp} {st : Sto} {X : Cx} {E : XK} {Q : VK}
theorem tyOf_rel (K : PySem.W.Frag) (s : Sim G ρ st H) {d : D} {v : V} {t : Ty} (h : tyOf st d = some t) (r : RelD G ρ H d v) : TyX K H v (.type t.s) := by
  cases d with
  | non => cases h; rw [r.non]; exact .base .non
  | bl b => cases h; rw [r.bl]; exact .base (.bl b)
  | int b => cases h; rw [r.int]; exact .base (.int b)
  | str b => cases h; rw [r.str]; exact .base (.str _)
  | tup ds => cases h; obtain ⟨a, vs, e, q, _⟩ := r; rw [e]; exact .base (.tup q)
  | ref i =>
    obtain ⟨a, ha, e⟩ := r
    rw [e]
    have h : tyO st[i]? = some t := h
    unfold tyO at h
    split at h
    · rename_i ds ho
      cases h
      obtain ⟨ho', e1, vs, e2, _⟩ := s.ok i a _ ha ho
      rw [e2] at e1; exact .base (.lst e1)
    · rename_i ds ho
      cases h
      obtain ⟨ho', e1, vs, e2, _⟩ := s.ok i a _ ha ho
      rw [e2] at e1; exact .base (.dK e1)
    · rename_i ds ho
      cases h
      obtain ⟨ho', e1, vs, e2, _⟩ := s.ok i a _ ha ho
      rw [e2] at e1; exact .base (.dT e1)
    · cases h
  | ty n => cases h
  | fn k c => cases h
  | scr is => cases h
theorem cls_all (K : PySem.W.Frag) (t : Ty) : ∀ {ds : List D} {vs : List V} {cs : List Ty}, RelDs G ρ H ds vs → (ds.mapM fun d => match d with
    | .ty n => Ty.of n
    | _ => none) = some cs → ∃ us, Paired ClsV vs us ∧ PySem.W.kitAny K (.type t.s) us = some (cs.any t.is)
  | [], vs, cs, r, h => by
    rw [show vs = [] from r]
    cases h
    exact ⟨[], .nil, kitAny_nil⟩
  | d :: ds, vs, cs, r, h => by
    obtain ⟨v, vr, rfl, r1, r2⟩ := r
    rw [List.mapM_cons] at h
    obtain ⟨c, e1, h⟩ := Option.bind_eq_some_iff.mp h
    obtain ⟨cr, e2, h⟩ := Option.bind_eq_some_iff.mp h
    cases h
    obtain ⟨us, p, e⟩ := cls_all K t r2 e2
    cases d with
    | ty n =>
      have en := Ty.of_s e1
      have ev : v = .ty n := r1
      subst ev; subst en
      refine ⟨.type c.s :: us, .cons (.ty _) p, ?_⟩
      rw [List.any_cons]
      refine kitAny_cons (b := t.is c) (kit_ty (Ty.kit t c)) (fun hb => ?_) (fun hb => ?_)
      · rw [hb]; exact e
      · rw [hb]; rfl
    | _ => cases e1
theorem c_isi : CallR X (.builtin "isinstance") (dC G E fIsi) := (call_isi.or call_isiT).imp fun xs H Q ⟨ρ, st, ds, s, r, p⟩ => by
  unfold fIsi at p
  split at p
  · rename_i x c
    split at p
    · rename_i t cs h1 h2
      obtain ⟨v, u, rfl, r1, r2⟩ := two_rel r
      have ty := tyOf_rel X.K s h1 r1
      have q : Q (.bl (cs.any t.is)) H := PostV.here p s rfl
      unfold clsOf at h2
      split at h2
      · rename_i n
        obtain ⟨b, e1, e2⟩ := Option.map_eq_some_iff.mp h2
        subst e2
        have ev : u = .ty n := r2
        have en := Ty.of_s e1
        subst ev; subst en
        refine .inl ⟨v, _, _, _, _, rfl, .ty _, ty, kit_ty (Ty.kit t b), ?_⟩
        simpa using q
      · rename_i ds
        obtain ⟨a, vs, ev, ha, rd⟩ := r2
        subst ev
        obtain ⟨us, h5, h6⟩ := cls_all X.K t rd h2
        exact .inr ⟨v, a, vs, _, us, _, rfl, ha, h5, ty, h6, q⟩
      · cases h2
    · exact p.elim
  · exact p.elim
end

/-! ### xs[i] = v -/
def opSet (o i v : D) : M Unit := match o, i with
  | .ref a, .int k => fun st => (match st[a]? with
    | some (.lst ds) => (match ixN ds.length k with
      | some j => .ok () (st.set a (.lst (ds.set j v)))
      | none => .bad)
    | _ => .bad)
  | _, _ => M.bad
section
variable {G : Wd} {ρ : List Addr} {H : Hp} {st : Sto} {X : Cx} {E : XK} {Q : VK}
theorem RelDs.set : ∀ {ds : List D} {vs : List V} {j : Nat} {d : D} {v : V}, RelDs G ρ H ds vs → RelD G ρ H d v → RelDs G ρ H (ds.set j d) (vs.set j v)
  | [], vs, j, d, v, h, _ => by rw [show vs = [] from h]; exact rfl
  | x :: ds, vs, 0, d, v, h, r => by
    obtain ⟨u, ur, rfl, h1, h2⟩ := h
    exact ⟨v, ur, rfl, r, h2⟩
  | x :: ds, vs, j + 1, d, v, h, r => by
    obtain ⟨u, ur, rfl, h1, h2⟩ := h
    exact ⟨u, _, rfl, h1, RelDs.set h2 r⟩
theorem o_set : PSet X (dSet G E opSet) := set_list.imp fun o i v H Q ⟨ρ, st, d1, d2, d3, s, r1, r2, r3, p⟩ => by
  unfold opSet at p
  split at p
  · rename_i a k
    split at p
    · rename_i ds hd
      split at p
      · rename_i j hj
        obtain ⟨b, hb, e⟩ := r1
        obtain ⟨ho, e1, vs, e2, rd⟩ := s.ok a b _ hb hd
        subst e2
        refine ⟨b, vs, k, j, e, r2.int, e1, by rw [← rd.length]; exact hj, ?_⟩
        exact p ρ _ (Ext.write (List.mem_of_getElem? hb) s) (s.write hb ⟨_, rfl, RelDs.set rd r3⟩)
      · exact p.elim
    · exact p.elim
  · exact p.elim
end

/-! ### xs[::-1], texts too -/
section
variable {G : Wd} {ρ : List Addr} {H : Hp} {st : Sto} {X : Cx} {E : XK} {Q : VK}
theorem RelDs.reverse : ∀ {ds : List D} {vs : List V}, RelDs G ρ H ds vs → RelDs G ρ H ds.reverse vs.reverse
  | [], vs, h => by rw [show vs = [] from h]; exact rfl
  | d :: ds, vs, h => by
    obtain ⟨u, ur, rfl, h1, h2⟩ := h
    rw [List.reverse_cons, List.reverse_cons]
    exact (RelDs.reverse h2).append (.one h1)
/-- the places of x[::-1] -/
theorem back_places (n : Nat) : Builtin.Str.strSliceIndices none none (-1) n = (List.range n).map fun k => n - 1 - k := by
  unfold Builtin.Str.strSliceIndices
  show sliceRange ((n : Int) - 1) (-1) (-1) = _
  unfold sliceRange
  have hc : (if (-1 : Int) > 0 then (if (n : Int) - 1 < -1 then (-1 - ((n : Int) - 1) + -1 - 1) / -1 else 0) else (if (n : Int) - 1 > -1 then ((n : Int) - 1 - -1 - -1 - 1) / (- -1) else 0)).toNat = n := by
    rw [if_neg (by decide)]
    by_cases h : (n : Int) - 1 > -1
    · rw [if_pos h, show (- -1 : Int) = 1 from rfl, Int.ediv_one]; omega
    · rw [if_neg h]; omega
  dsimp only
  rw [hc]
  refine List.map_congr_left fun k hk => ?_
  have := List.mem_range.mp hk
  omega
theorem fm_all {α β : Type} {f : α → Option β} {g : α → β} : ∀ l : List α, (∀ a ∈ l, f a = some (g a)) → l.filterMap f = l.map g
  | [], _ => rfl
  | a :: l, h => by rw [List.filterMap_cons, h a List.mem_cons_self, List.map_cons, fm_all l fun b hb => h b (List.mem_cons_of_mem _ hb)]
theorem back_pick (s : List Nat) : ((List.range s.length).map fun k => s.length - 1 - k).filterMap (fun i => s[i]?) = s.reverse := by
  rw [List.filterMap_map]
  have h : ∀ k ∈ List.range s.length, ((fun i => s[i]?) ∘ fun k => s.length - 1 - k) k = some (s.reverse[k]?.getD 0) := by
    intro k hk
    have hk := List.mem_range.mp hk
    show s[s.length - 1 - k]? = _
    rw [List.getElem?_reverse hk, List.getElem?_eq_getElem (by omega)]
    rfl
  rw [fm_all _ h]
  refine List.ext_getElem (by simp) fun i h1 h2 => ?_
  simp only [List.getElem_map, List.getElem_range]
  rw [List.getElem?_eq_getElem h2]
  rfl
def tRevS (te : TE) : TE := fun σ H Q => te σ H fun x H1 => ∃ s : List Nat, x = .str ⟨s.toArray⟩ ∧ s.length ≤ lim ∧ Q (.str ⟨s.reverse.toArray⟩) H1
theorem pe_revS {e : Expr} {te : TE} {k : Nat} {p1 p2 p3 pos : Pos} (he : PE X e te) : PE X (.Subscript e (.Slice none none (some (.UnaryOp .USub (.Constant (.int 1) k p1) p2)) p3) pos) (tRevS te) := by
  constructor
  intro pins s σ H Q I h
  refine Subscript_ (thn (he.run pins s σ H _ I h) fun v0 s0 w0 => ?_)
  obtain ⟨x0, H0, I0, r0, z, ez, hz, q0⟩ := w0
  subst ez
  obtain ⟨t, ev⟩ := r0
  subst ev
  have step : PO X (some (.UnaryOp .USub (.Constant (.int 1) k p1) p2)) (tPart (tUn (rU fun i => .int (-i)) (tC (.int 1)))) := po_some (pe_un un_neg pe_int)
  refine wpAny_Slice (thn (po_none.run pins s0 σ H0 (fun o H' => o = none ∧ H' = H0) I0 ⟨rfl, rfl⟩) fun a1 s1 w1 => ?_)
  obtain ⟨o1, H1, I1, g1, f1, f1'⟩ := w1
  subst f1 f1'
  refine thn (po_none.run pins s1 σ H1 (fun o H' => o = none ∧ H' = H1) I1 ⟨rfl, rfl⟩) fun a2 s2 w2 => ?_
  obtain ⟨o2, H2, I2, g2, f2, f2'⟩ := w2
  subst f2 f2'
  refine thn (step.run pins s2 σ H2 (fun o H' => o = some (-1) ∧ H' = H2) I2 ⟨1, rfl, -1, rfl, rfl, rfl⟩) fun a3 s3 w3 => ?_
  obtain ⟨o3, H3, I3, g3, f3, f3'⟩ := w3
  subst f3 f3'
  obtain ⟨l, el, ql⟩ := IsPart.raw g1
  obtain ⟨u, eu, qu⟩ := IsPart.raw g2
  obtain ⟨w, ew, qw⟩ := IsPart.raw g3
  subst el eu ew
  have I4 : Inv X pins σ H3 { s3 with heap := s3.heap.push { cls := .type "slice", data := .fields #[partValue l, partValue u, partValue w] } } := I3.kept (t' := s3.toks) fun b ob q => Heap.get?_push_of_some _ q
  refine tail_any (ops := [.str ⟨z.toArray⟩ t, .ref s3.heap.objs.size]) (typeIs_str _ _ _) PySem.F.slot_str_getitem.lookup ?_ (by with_unfolding_all rfl)
  have hw : (w.map (·.1)).getD 1 = -1 := by rw [qw]; rfl
  refine wpAny_getItem_str_slice (l := l) (u := u) (st := w) ⟨_, Heap.get?_push_size _ rfl, rfl, rfl⟩ (by rw [hw]; decide) ?_
  unfold sliceMade slicePicked
  rw [hw, ql, qu]
  rw [if_neg (by simp)]
  have hn : (⟨z.toArray⟩ : Str).length = z.length := by simp [Str.length]
  rw [hn, back_places]
  have hp : ((List.range z.length).map fun k => z.length - 1 - k).filterMap (fun i => (⟨z.toArray⟩ : Str).cps[i]?) = z.reverse := by
    rw [← back_pick z]
    have hf : (fun i : Nat => (⟨z.toArray⟩ : Str).cps[i]?) = fun i : Nat => z[i]? := by funext i; simp
    rw [hf]
  rw [hp]
  exact ⟨by rw [lim_eq]; simpa [Str.length] using hz, .str ⟨z.reverse.toArray⟩, H3, I4.tok _, ⟨_, rfl⟩, q0⟩
theorem r_rev {e : Expr} {me : Env → M D} {k : Nat} {p1 p2 p3 pos : Pos} (he : PE X e (dE G E me)) : PE X (.Subscript e (.Slice none none (some (.UnaryOp .USub (.Constant (.int 1) k p1) p2)) p3) pos) (dE G E (eUn opRev me)) := ⟨fun pins s σ H Q I h => by
  obtain ⟨ρ, st, env, sm, re, p⟩ := h
  have p := Post.bind p
  have stay : ∀ {R : VK}, Post G E ρ H (fun d st' => PostV G ρ H st' d R) (me env st) → dE G E me σ H R := fun q => ⟨ρ, st, env, sm, re, q⟩
  cases hm : me env st with
  | bad => rw [hm] at p; exact p.elim
  | ex c d st1 =>
    refine (pe_revL he).run pins s σ H Q I (stay ?_)
    rw [hm] at p ⊢
    exact p
  | ok d st1 =>
    rw [hm] at p
    cases d with
    | str z =>
      have p : Post G E ρ H (fun d st' => PostV G ρ H st' d Q) (if z.length ≤ lim then Res.ok (.str z.reverse) st1 else .bad) := p
      split at p
      · rename_i hl
        refine (pe_revS he).run pins s σ H Q I (stay ?_)
        rw [hm]
        exact fun ρ' v H' x' s' r' => ⟨z, r'.str, hl, PostV.here (PostV.of x' p) s' rfl⟩
      · exact p.elim
    | ref i =>
      have p : Post G E ρ H (fun d st' => PostV G ρ H st' d Q) (match lstAt st1 i with | some ds => alloc (.lst ds.reverse) st1 | none => .bad) := p
      split at p
      · rename_i ds hd
        refine (pe_revL he).run pins s σ H Q I (stay ?_)
        rw [hm]
        intro ρ' v H' x' s' r'
        obtain ⟨a, vs, ev, hs, rd⟩ := lst_rel X.K s' hd r'
        exact ⟨a, vs, ev, hs, fun q hq => PostV.alloc (PostV.of x' p) s' ⟨_, rfl, rd.reverse⟩ hq⟩
      · exact p.elim
    | _ => exact p.elim⟩
end

/-! ### starred items -/
def aStar (a : Env → M D) (r : Env → M (List D)) : Env → M (List D) := fun env st => (a env st).bind fun x st => match seqOf st x with
  | some xs => (r env st).bind fun ys => M.ret (xs ++ ys)
  | none => .bad
section
variable {G : Wd} {X : Cx} {E : XK}
theorem r_astar {e : Expr} {es : List Expr} {p : Pos} {me : Env → M D} {mr : Env → M (List D)} (he : PE X e (dE G E me)) (hr : PA X es (dA G E mr)) (hs : starEach (.Starred e p :: es) X.env = (true, eval e X.env) :: starEach es X.env := by rfl) : PA X (.Starred e p :: es) (dA G E (aStar me mr)) :=
  (StX.pa_star he hr hs).imp fun σ H Q ⟨ρ, st, env, s, re, p⟩ => by
    refine ⟨ρ, st, env, s, re, (Post.bind p).imp fun d st1 q ρ1 v H1 x1 s1 r1 => ?_⟩
    split at q
    · rename_i xs e
      obtain ⟨a, vs, ev, hs, rd⟩ := seq_rel X.K s1 e r1
      refine ⟨a, vs, ev, hs.symm, ρ1, st1, env, s1, s.relEnv x1 re, (Post.bind (Post.on x1 q fun ds st' z ρ2 vs2 H2 x2 => z ρ2 vs2 H2 (x1.trans x2))).imp fun ds st2 q2 ρ2 vs2 H2 x2 s2 r2 => ?_⟩
      exact q2 ρ2 _ H2 x2 s2 ((s1.relDs x2 rd).append r2)
    · exact q.elim
end

/-! ### the end of a law -/
/-- the law's promise, at its start -/
def sp_law (G : Wd) (g : List D → M D) : Sp := dF G 1 g
section
variable {X : Cx}
theorem sp_of {G : Wd} {g : List D → M D} {H : Hp} {a : Addr} {ns : List Int} {st' : Sto} (hg : g [.scr ns] [] = .ok (.bl true) st') (hO : Only H) (hS : SqL G.K H a (ns.map V.int)) :
    sp_law G g [.ref a] H (fun v _ => v = .bl true) fun _ _ _ => False := by
  refine ⟨rfl, [], [], [.scr ns], ⟨rfl, List.nodup_nil, fun i a o e => by simp at e⟩, ⟨.ref a, [], rfl, ⟨a, rfl, ?_⟩, rfl⟩, ?_⟩
  · rcases hS with (h | ⟨o, h⟩) | h
    · rcases hO a with z | ⟨o, xs, z⟩
      · rw [h] at z; cases z
      · rw [h] at z; cases z
    · exact .inl ⟨o, h⟩
    · exact .inr fun H' => .inr h
  · rw [hg]
    exact fun ρ' v H' x s r => r
end
theorem walk_law {l : PySem.W.OpenLaw} {n k : Nat} {q : Program} {loose : List Str} {XP : (Str → Option Value) → Heap → Prop} {YP : World → Heap → Prop} {d : DefRec} {g : List D → M D} {stm : Stmt} {x : Str}
    (hn : l.most = some n) (hn2 : n ≤ sizeLine) (hdf : d.params.defaults = []) (hr : Room k callerA) (hb : BindsH "law" stm [x])
    (ht : ∀ ns : List Int, ns.length ≤ n → (∀ z ∈ ns, Builtin.Int.intBits z ≤ 1048576) → ∃ st', g [.scr ns] [] = .ok (.bl true) st')
    (F : ∀ (w : World) (mg : Str → Option Value) (h : Heap), YP w h → h.Ns mainGlobals mg → ∃ (K : PySem.W.Frag) (G : Wd), K.In h ∧ G.K = K ∧ (∀ base, DefOk l.prog w K mg base G "law" stm [x] k g))
    (hnm : d.name = ("law" : Str)) :
    PySem.W.WalkO q loose XP YP l.row.toRowW d [] (fun f vs => PySem.call f vs) := by
  refine Att.attach_callB hn hdf fun w s₀ s₁ mg mb fa o pm cd doc a vs ns G Y ho hd hcd hmg hobj hints hlen hbits hg => ?_
  obtain ⟨K, W, KX, hK, ok⟩ := F w mg _ Y G.T.g
  subst hK
  obtain ⟨f, fd, FP, hm, _⟩ := (ok s₁.heap).ex
  rw [hnm, hm] at hmg
  cases hmg
  obtain ⟨st', ht⟩ := ht ns hlen hbits
  refine law_call (K := W.K) (CX := L2.CX l.prog w) (fd := fd) (x := x) (sp := sp_law W g) KX G.T.g G.T.b G.T.builtins G.T.nolimit hg hobj hints (Nat.le_trans hlen hn2) hr (fun base kb nb => ?_) (fun s u => ?_) (fun H hO hS => sp_of ht hO hS) fun H e s' => ?_
  · obtain ⟨f', fd', FP', hm', ok'⟩ := (ok base).ex
    rw [hm] at hm'
    cases hm'
    have e : fd = fd' := by
      obtain ⟨_, _, _, _, _, _, _, _, _, _, _, l1, _⟩ := FP.ex
      obtain ⟨_, _, _, _, _, _, _, _, _, _, _, l2, _⟩ := FP'.ex
      rw [l1] at l2
      cases l2
      rfl
    rw [e]
    exact ok'
  · exact FP.bindsA hb s [u] rfl
  · intro z
    obtain ⟨_, _, _, _, _, _, _, _, _, _, _, _, _, _, _, _, z⟩ := z
end MM

/-! A reading by plain values: no store, but for the stream; what ties it to the computations over the store. -/
namespace MM

/-! ### plain values -/
inductive P where
  | non | bl (b : Bool) | int (i : Int) | str (s : List Nat) | tup (vs : List P) | lst (vs : List P) | strm | ty (n : String)
/-- a stream of drawn numbers: the script's numbers that are left, the digits, how many were drawn, the mixed number -/
structure Strm where
  is : List Int
  dg : Int
  cnt : Int
  mx : Int
abbrev SS := Option Strm
abbrev VM (α : Type) := SS → Option (α × SS)
def bd {α β : Type} (r : Option (α × SS)) (f : α → SS → Option (β × SS)) : Option (β × SS) := match r with
  | some (a, s) => f a s
  | none => none
@[simp] theorem bd_some {α β : Type} {a : α} {s : SS} {f : α → SS → Option (β × SS)} : bd (some (a, s)) f = f a s := rfl
@[simp] theorem bd_none {α β : Type} {f : α → SS → Option (β × SS)} : bd none f = none := rfl
theorem bd_inv {α β : Type} {r : Option (α × SS)} {f : α → SS → Option (β × SS)} {c : β × SS} (h : bd r f = some c) : ∃ a s, r = some (a, s) ∧ f a s = some c := by
  match r, h with
  | some (a, s), h => exact ⟨a, s, rfl, h⟩
def lift {α : Type} (o : Option α) (s : SS) : Option (α × SS) := match o with
  | some a => some (a, s)
  | none => none
@[simp] theorem lift_some {α : Type} {a : α} {s : SS} : lift (some a) s = some (a, s) := rfl
@[simp] theorem lift_none {α : Type} {s : SS} : lift (none : Option α) s = none := rfl
theorem lift_inv {α : Type} {o : Option α} {s : SS} {a : α} {s' : SS} (h : lift o s = some (a, s')) : o = some a ∧ s' = s := by
  cases o with
  | some b =>
    have e := Option.some.inj (show some (b, s) = some (a, s') from h)
    exact ⟨by rw [(Prod.mk.inj e).1], (Prod.mk.inj e).2.symm⟩
  | none => cases h
abbrev VEnv := List (Option P)

/-! ### what ties values to the store -/
mutual
def RV (A : List Nat) (st : Sto) : P → D → Prop
  | .non, d => d = .non
  | .bl x, d => d = .bl x
  | .int x, d => d = .int x
  | .str x, d => d = .str x
  | .ty x, d => d = .ty x
  | .strm, d => d = .ref 1
  | .tup vs, d => ∃ ds, d = .tup ds ∧ RVs A st vs ds
  | .lst vs, d => ∃ a ds, d = .ref a ∧ a ∉ A ∧ st[a]? = some (.lst ds) ∧ RVs A st vs ds
def RVs (A : List Nat) (st : Sto) : List P → List D → Prop
  | [], ds => ds = []
  | v :: vs, ds => ∃ d r, ds = d :: r ∧ RV A st v d ∧ RVs A st vs r
end
/-- the stream in the store; b: how many places are kept for it -/
def Str (b : Nat) (st : Sto) : SS → Prop
  | none => b = 0
  | some s => b = 2 ∧ st[0]? = some (.lst (s.is.map .int)) ∧ st[1]? = some (.lst [.ref 0, .int s.dg, .int s.cnt, .int s.mx])
/-- all but the stream and A stands -/
def KpA (b : Nat) (A : List Nat) (st st' : Sto) : Prop := st.length ≤ st'.length ∧ ∀ i, b ≤ i → i < st.length → i ∉ A → st'[i]? = st[i]?
abbrev Kp (b : Nat) (st st' : Sto) : Prop := KpA b [] st st'
structure AOk (b : Nat) (A : List Nat) (st : Sto) : Prop where
  lo : ∀ i, i < b → i ∈ A
  hi : ∀ a, a ∈ A → a < st.length
def Fr (n : Nat) (d : D) : Prop := ∀ a, d = .ref a → n ≤ a
section
variable {b : Nat} {A A' B : List Nat} {st st' st1 st2 : Sto} {s s' : SS} {n : Nat}
theorem KpA.refl : KpA b A st st := ⟨Nat.le_refl _, fun _ _ _ _ => rfl⟩
theorem KpA.trans (h : KpA b A st st1) (k : KpA b A st1 st2) : KpA b A st st2 := ⟨Nat.le_trans h.1 k.1, fun i hb hi hn => (k.2 i hb (Nat.lt_of_lt_of_le hi h.1) hn).trans (h.2 i hb hi hn)⟩
theorem KpA.any (h : KpA b [] st st') : KpA b A st st' := ⟨h.1, fun i hb hi _ => h.2 i hb hi (by simp)⟩
theorem KpA.app {t : Sto} : KpA b A st (st ++ t) := ⟨by simp, fun i _ hi _ => by rw [List.getElem?_append_left hi]⟩
theorem AOk.mono (h : AOk b A st) (k : st.length ≤ st'.length) : AOk b A st' := ⟨h.lo, fun a ha => Nat.lt_of_lt_of_le (h.hi a ha) k⟩
theorem lt_of_get {α : Type} {l : List α} {i : Nat} {x : α} (h : l[i]? = some x) : i < l.length := (List.getElem?_eq_some_iff.mp h).1
theorem KpA.get (k : KpA b A st st') (lo : ∀ i, i < b → i ∈ A) {a : Nat} {o : O} (n : a ∉ A) (h : st[a]? = some o) : st'[a]? = some o := by
  rw [k.2 a (Nat.le_of_not_lt fun z => n (lo a z)) (lt_of_get h) n]; exact h
mutual
theorem RV.mono (k : KpA b A st st') (lo : ∀ i, i < b → i ∈ A) : ∀ (x : P) (d : D), RV A st x d → RV A st' x d
  | .non, _, h => h
  | .bl _, _, h => h
  | .int _, _, h => h
  | .str _, _, h => h
  | .ty _, _, h => h
  | .strm, _, h => h
  | .tup vs, d, ⟨ds, e, r⟩ => ⟨ds, e, RVs.mono k lo vs ds r⟩
  | .lst vs, d, ⟨a, ds, e, n, g, r⟩ => ⟨a, ds, e, n, k.get lo n g, RVs.mono k lo vs ds r⟩
theorem RVs.mono (k : KpA b A st st') (lo : ∀ i, i < b → i ∈ A) : ∀ (x : List P) (d : List D), RVs A st x d → RVs A st' x d
  | [], _, h => h
  | v :: vs, ds, ⟨d, r, e, h1, h2⟩ => ⟨d, r, e, RV.mono k lo v d h1, RVs.mono k lo vs r h2⟩
end
mutual
theorem RV.sub (h : ∀ a, a ∈ A' → a ∈ A) : ∀ (x : P) (d : D), RV A st x d → RV A' st x d
  | .non, _, h => h
  | .bl _, _, h => h
  | .int _, _, h => h
  | .str _, _, h => h
  | .ty _, _, h => h
  | .strm, _, h => h
  | .tup vs, d, ⟨ds, e, r⟩ => ⟨ds, e, RVs.sub h vs ds r⟩
  | .lst vs, d, ⟨a, ds, e, n, g, r⟩ => ⟨a, ds, e, fun z => n (h a z), g, RVs.sub h vs ds r⟩
theorem RVs.sub (h : ∀ a, a ∈ A' → a ∈ A) : ∀ (x : List P) (d : List D), RVs A st x d → RVs A' st x d
  | [], _, h => h
  | v :: vs, ds, ⟨d, r, e, h1, h2⟩ => ⟨d, r, e, RV.sub h v d h1, RVs.sub h vs r h2⟩
end
mutual
theorem RV.sup (n : Nat) (hn : st.length ≤ n) (h : ∀ a, a ∈ A' → a ∈ A ∨ n ≤ a) : ∀ (x : P) (d : D), RV A st x d → RV A' st x d
  | .non, _, h => h
  | .bl _, _, h => h
  | .int _, _, h => h
  | .str _, _, h => h
  | .ty _, _, h => h
  | .strm, _, h => h
  | .tup vs, d, ⟨ds, e, r⟩ => ⟨ds, e, RVs.sup n hn h vs ds r⟩
  | .lst vs, d, ⟨a, ds, e, m, g, r⟩ => ⟨a, ds, e, fun z => (h a z).elim m fun q => by have := lt_of_get g; omega, g, RVs.sup n hn h vs ds r⟩
theorem RVs.sup (n : Nat) (hn : st.length ≤ n) (h : ∀ a, a ∈ A' → a ∈ A ∨ n ≤ a) : ∀ (x : List P) (d : List D), RVs A st x d → RVs A' st x d
  | [], _, h => h
  | v :: vs, ds, ⟨d, r, e, h1, h2⟩ => ⟨d, r, e, RV.sup n hn h v d h1, RVs.sup n hn h vs r h2⟩
end
mutual
/-- no list within -/
def flat : P → Bool
  | .lst _ => false
  | .tup vs => flats vs
  | _ => true
def flats : List P → Bool
  | [] => true
  | v :: vs => flat v && flats vs
end
mutual
theorem RV.flat : ∀ (x : P) (d : D), flat x = true → RV A st x d → RV A' st' x d
  | .non, _, _, h => h
  | .bl _, _, _, h => h
  | .int _, _, _, h => h
  | .str _, _, _, h => h
  | .ty _, _, _, h => h
  | .strm, _, _, h => h
  | .tup vs, d, f, ⟨ds, e, r⟩ => ⟨ds, e, RVs.flat vs ds f r⟩
  | .lst vs, d, f, _ => nomatch f
theorem RVs.flat : ∀ (x : List P) (d : List D), flats x = true → RVs A st x d → RVs A' st' x d
  | [], _, _, h => h
  | v :: vs, ds, f, ⟨d, r, e, h1, h2⟩ => by
    have f' : (MM.flat v && flats vs) = true := f
    rw [Bool.and_eq_true] at f'
    exact ⟨d, r, e, RV.flat v d f'.1 h1, RVs.flat vs r f'.2 h2⟩
end
theorem RVs.length : ∀ {vs : List P} {ds : List D}, RVs A st vs ds → ds.length = vs.length
  | [], ds, h => by rw [show ds = [] from h]; rfl
  | v :: vs, ds, ⟨d, r, e, h1, h2⟩ => by rw [e, List.length_cons, List.length_cons, RVs.length h2]
theorem RVs.append : ∀ {vs us : List P} {ds es : List D}, RVs A st vs ds → RVs A st us es → RVs A st (vs ++ us) (ds ++ es)
  | [], us, ds, es, h, k => by rw [show ds = [] from h]; exact k
  | v :: vs, us, ds, es, ⟨d, r, e, h1, h2⟩, k => ⟨d, r ++ es, by rw [e]; rfl, h1, RVs.append h2 k⟩
theorem RVs.one {v : P} {d : D} (h : RV A st v d) : RVs A st [v] [d] := ⟨d, [], rfl, h, rfl⟩
theorem RVs.get : ∀ {vs : List P} {ds : List D} {i : Nat} {v : P}, RVs A st vs ds → vs[i]? = some v → ∃ d, ds[i]? = some d ∧ RV A st v d
  | [], _, i, v, _, e => by simp at e
  | v :: vs, ds, 0, x, ⟨d, r, e1, h1, h2⟩, e => by
    cases e
    exact ⟨d, by rw [e1]; rfl, h1⟩
  | v :: vs, ds, i + 1, x, ⟨d, r, e1, h1, h2⟩, e => by
    obtain ⟨d', e2, h⟩ := RVs.get (i := i) h2 (by simpa using e)
    exact ⟨d', by rw [e1]; simpa using e2, h⟩
theorem RVs.none : ∀ {vs : List P} {ds : List D} {i : Nat}, RVs A st vs ds → vs[i]? = none → ds[i]? = none := fun {vs ds i} h e => by
  rw [List.getElem?_eq_none_iff] at e ⊢
  rw [h.length]; exact e
theorem RVs.drop : ∀ (n : Nat) {vs : List P} {ds : List D}, RVs A st vs ds → RVs A st (vs.drop n) (ds.drop n)
  | 0, _, _, h => h
  | n + 1, [], ds, h => by rw [show ds = [] from h]; exact rfl
  | n + 1, v :: vs, ds, ⟨d, r, e, h1, h2⟩ => by rw [e]; exact RVs.drop n h2
theorem RVs.take : ∀ (n : Nat) {vs : List P} {ds : List D}, RVs A st vs ds → RVs A st (vs.take n) (ds.take n)
  | 0, _, _, h => rfl
  | n + 1, [], ds, h => by rw [show ds = [] from h]; exact rfl
  | n + 1, v :: vs, ds, ⟨d, r, e, h1, h2⟩ => by rw [e]; exact ⟨d, r.take n, rfl, h1, RVs.take n h2⟩
theorem RVs.reverse : ∀ {vs : List P} {ds : List D}, RVs A st vs ds → RVs A st vs.reverse ds.reverse
  | [], ds, h => by rw [show ds = [] from h]; exact rfl
  | v :: vs, ds, ⟨d, r, e, h1, h2⟩ => by
    rw [e, List.reverse_cons, List.reverse_cons]
    exact (RVs.reverse h2).append (.one h1)
theorem RVs.rep {vs : List P} {ds : List D} (h : RVs A st vs ds) : ∀ n, RVs A st (rep n vs) (rep n ds)
  | 0 => rfl
  | n + 1 => by
    unfold MM.rep
    rw [List.replicate_succ, List.replicate_succ, List.flatten_cons, List.flatten_cons]
    exact h.append (RVs.rep h n)
theorem RVs.strs : ∀ (cs : List Nat), RVs A st (cs.map fun c => P.str [c]) (cs.map fun c => D.str [c])
  | [] => rfl
  | c :: cs => ⟨.str [c], _, rfl, rfl, RVs.strs cs⟩
theorem RVs.ints : ∀ (cs : List Int), RVs A st (cs.map P.int) (cs.map D.int)
  | [] => rfl
  | c :: cs => ⟨.int c, _, rfl, rfl, RVs.ints cs⟩
theorem Str.app (h : Str b st s) {t : Sto} : Str b (st ++ t) s := by
  cases s with
  | none => exact h
  | some s => exact ⟨h.1, by rw [List.getElem?_append_left (lt_of_get h.2.1)]; exact h.2.1, by rw [List.getElem?_append_left (lt_of_get h.2.2)]; exact h.2.2⟩

/-! ### results -/
def Got {α : Type} (b : Nat) (st : Sto) (s' : SS) (r : Res α) (R : α → Sto → Prop) : Prop := ∃ a st', r = .ok a st' ∧ Kp b st st' ∧ Str b st' s' ∧ R a st'
theorem Got.bind {α β : Type} {b : Nat} {st : Sto} {s1 s2 : SS} {r : Res α} {R : α → Sto → Prop} {f : α → M β} {R' : β → Sto → Prop} (h : Got b st s1 r R)
    (k : ∀ a st1, Kp b st st1 → Str b st1 s1 → R a st1 → Got b st1 s2 (f a st1) R') : Got b st s2 (r.bind f) R' := by
  obtain ⟨a, st1, e, k1, z1, h1⟩ := h
  obtain ⟨a2, st2, e2, k2, z2, h2⟩ := k a st1 k1 z1 h1
  exact ⟨a2, st2, by rw [e]; exact e2, k1.trans k2, z2, h2⟩
theorem Got.imp {α : Type} {r : Res α} {R R' : α → Sto → Prop} (h : Got b st s' r R) (i : ∀ a st', Kp b st st' → R a st' → R' a st') : Got b st s' r R' := by
  obtain ⟨a, st1, e, k1, z1, h1⟩ := h
  exact ⟨a, st1, e, k1, z1, i a st1 k1 h1⟩
theorem Got.same {α : Type} {a : α} {R : α → Sto → Prop} (z : Str b st s') (h : R a st) : Got b st s' (.ok a st) R := ⟨a, st, rfl, .refl, z, h⟩
end
abbrev RF (A : List Nat) (n : Nat) (fr : Bool) (x : P) : D → Sto → Prop := fun d st' => RV A st' x d ∧ (fr = true → Fr n d)
def REv (A : List Nat) (st : Sto) (venv : VEnv) (env : Env) : Prop := venv.length = env.length ∧ ∀ (i : Nat) (x : P), venv[i]? = some (some x) → ∃ d, env[i]? = some (some d) ∧ RV A st x d
theorem REv.mono {b : Nat} {A : List Nat} {st st' : Sto} {venv : VEnv} {env : Env} (h : REv A st venv env) (k : Kp b st st') (lo : ∀ i, i < b → i ∈ A) : REv A st' venv env :=
  ⟨h.1, fun i x e => let ⟨d, e1, r⟩ := h.2 i x e; ⟨d, e1, r.mono k.any lo⟩⟩
theorem REv.set {A : List Nat} {st : Sto} {venv : VEnv} {env : Env} (h : REv A st venv env) (i : Nat) {x : P} {d : D} (r : RV A st x d) : REv A st (venv.set i (some x)) (env.set i (some d)) := by
  refine ⟨by simp [h.1], fun j y e => ?_⟩
  by_cases hj : i = j
  · subst hj
    by_cases hi : i < venv.length
    · rw [List.getElem?_set_self hi] at e
      cases e
      exact ⟨d, by rw [List.getElem?_set_self (by rw [← h.1]; exact hi)], r⟩
    · rw [List.getElem?_eq_none (by simpa using hi)] at e; cases e
  · rw [List.getElem?_set_ne hj] at e
    obtain ⟨d', e1, r1⟩ := h.2 j y e
    exact ⟨d', by rw [List.getElem?_set_ne hj]; exact e1, r1⟩
theorem REv.wipe1 {A : List Nat} {st : Sto} {venv : VEnv} {env : Env} (h : REv A st venv env) (i : Nat) : REv A st (venv.set i none) (env.set i none) := by
  refine ⟨by simp [h.1], fun j y e => ?_⟩
  by_cases hj : i = j
  · subst hj
    by_cases hi : i < venv.length
    · rw [List.getElem?_set_self hi] at e
      cases e
    · rw [List.getElem?_eq_none (by simpa using hi)] at e; cases e
  · rw [List.getElem?_set_ne hj] at e
    obtain ⟨d', e1, r1⟩ := h.2 j y e
    exact ⟨d', by rw [List.getElem?_set_ne hj]; exact e1, r1⟩

/-- an expression, its values; fr: a list that it gives is a new one -/
def OkE (m : Env → M D) (v : VEnv → VM P) (fr : Bool) : Prop := ∀ (b : Nat) (A : List Nat) (st : Sto) (env : Env) (venv : VEnv) (s : SS) (x : P) (s' : SS), AOk b A st → REv A st venv env → Str b st s → v venv s = some (x, s') →
  Got b st s' (m env st) (RF A st.length fr x)
def OkT (m : Env → M Bool) (v : VEnv → VM Bool) : Prop := ∀ (b : Nat) (A : List Nat) (st : Sto) (env : Env) (venv : VEnv) (s : SS) (x : Bool) (s' : SS), AOk b A st → REv A st venv env → Str b st s → v venv s = some (x, s') →
  Got b st s' (m env st) (fun c _ => c = x)
def OkA (m : Env → M (List D)) (v : VEnv → VM (List P)) : Prop := ∀ (b : Nat) (A : List Nat) (st : Sto) (env : Env) (venv : VEnv) (s : SS) (x : List P) (s' : SS), AOk b A st → REv A st venv env → Str b st s → v venv s = some (x, s') →
  Got b st s' (m env st) (fun ds st' => RVs A st' x ds)
/-- an operator that draws nothing: it only lays new objects -/
def OkU (f : D → M D) (g : P → Option P) (fr : Bool) : Prop := ∀ (A : List Nat) (st : Sto) (x : P) (d : D) (z : P), (∀ a ∈ A, a < st.length) → RV A st x d → g x = some z → ∃ d' t, f d st = .ok d' (st ++ t) ∧ RV A (st ++ t) z d' ∧ (fr = true → Fr st.length d')
def OkO (f : D → D → M D) (g : P → P → Option P) (fr : Bool) : Prop := ∀ (A : List Nat) (st : Sto) (x y : P) (d e : D) (z : P), (∀ a ∈ A, a < st.length) → RV A st x d → RV A st y e → g x y = some z → ∃ d' t, f d e st = .ok d' (st ++ t) ∧ RV A (st ++ t) z d' ∧ (fr = true → Fr st.length d')
def OkC (f : List D → M D) (g : List P → Option P) (fr : Bool) : Prop := ∀ (A : List Nat) (st : Sto) (xs : List P) (ds : List D) (z : P), (∀ a ∈ A, a < st.length) → RVs A st xs ds → g xs = some z → ∃ d' t, f ds st = .ok d' (st ++ t) ∧ RV A (st ++ t) z d' ∧ (fr = true → Fr st.length d')
/-- a def -/
def OkF (m : List D → M D) (v : List P → VM P) (fr : Bool) : Prop := ∀ (b : Nat) (A : List Nat) (st : Sto) (ds : List D) (vs : List P) (s : SS) (x : P) (s' : SS), AOk b A st → RVs A st vs ds → Str b st s → v vs s = some (x, s') →
  Got b st s' (m ds st) (RF A st.length fr x)
/-- what is walked; ng: nothing is watched -/
def OkI (m : Env → M Src) (v : VEnv → VM (List P)) (ng : Bool) : Prop := ∀ (b : Nat) (A : List Nat) (st : Sto) (env : Env) (venv : VEnv) (s : SS) (x : List P) (s' : SS), AOk b A st → REv A st venv env → Str b st s → v venv s = some (x, s') →
  Got b st s' (m env st) (fun src st' => RVs A st' x src.1 ∧ (∀ st'', KpA b A st' st'' → src.2 st'' = true) ∧ (ng = true → ∀ st'', src.2 st'' = true))

/-! ### computations on values -/
namespace VV
def eC (d : P) : VEnv → VM P := fun _ s => some (d, s)
def eVar (i : Nat) : VEnv → VM P := fun env s => match env[i]? with
  | some (some d) => some (d, s)
  | _ => none
def eBad : VEnv → VM P := fun _ _ => none
def eUn (f : P → Option P) (a : VEnv → VM P) : VEnv → VM P := fun env s => bd (a env s) fun x s => lift (f x) s
def eBin (f : P → P → Option P) (a b : VEnv → VM P) : VEnv → VM P := fun env s => bd (a env s) fun x s => bd (b env s) fun y s => lift (f x y) s
def aNil : VEnv → VM (List P) := fun _ s => some ([], s)
def aCons (a : VEnv → VM P) (r : VEnv → VM (List P)) : VEnv → VM (List P) := fun env s => bd (a env s) fun x s => bd (r env s) fun xs s => some (x :: xs, s)
def eArgs (f : List P → Option P) (a : VEnv → VM (List P)) : VEnv → VM P := fun env s => bd (a env s) fun x s => lift (f x) s
def asB : P → Option Bool
  | .bl b => some b
  | _ => none
def tVal (a : VEnv → VM P) : VEnv → VM Bool := fun env s => bd (a env s) fun x s => lift (asB x) s
def tNot (t : VEnv → VM Bool) : VEnv → VM Bool := fun env s => bd (t env s) fun b s => some (!b, s)
def tAnd (t u : VEnv → VM Bool) : VEnv → VM Bool := fun env s => bd (t env s) fun b s => if b then u env s else some (false, s)
def tOr (t u : VEnv → VM Bool) : VEnv → VM Bool := fun env s => bd (t env s) fun b s => if b then some (true, s) else u env s
def eIf (t : VEnv → VM Bool) (a b : VEnv → VM P) : VEnv → VM P := fun env s => bd (t env s) fun c s => if c then a env s else b env s
def eAnd (a b : VEnv → VM P) : VEnv → VM P := fun env s => bd (a env s) fun x s => bd (lift (asB x) s) fun c s => if c then b env s else some (.bl false, s)
def eOr (a b : VEnv → VM P) : VEnv → VM P := fun env s => bd (a env s) fun x s => bd (lift (asB x) s) fun c s => if c then some (.bl true, s) else b env s
def eNot (a : VEnv → VM P) : VEnv → VM P := fun env s => bd (a env s) fun x s => bd (lift (asB x) s) fun c s => some (.bl (!c), s)
def eChain (f g : P → P → Option P) (a b c : VEnv → VM P) : VEnv → VM P := fun env s => bd (a env s) fun x s => bd (b env s) fun y s => bd (lift ((f x y).bind asB) s) fun k s =>
  if k then bd (c env s) fun z s => lift (g y z) s else some (.bl false, s)
def mkTup (ds : List P) : Option P := if ds.length ≤ lim then some (.tup ds) else none
def mkLst (ds : List P) : Option P := if ds.length ≤ lim then some (.lst ds) else none
def seqOf : P → Option (List P)
  | .lst vs => some vs
  | .tup vs => some vs
  | _ => none
def aStar (a : VEnv → VM P) (r : VEnv → VM (List P)) : VEnv → VM (List P) := fun env s => bd (a env s) fun x s => bd (lift (seqOf x) s) fun xs s => bd (r env s) fun ys s => some (xs ++ ys, s)
end VV

/-! ### rules -/
section
variable {m m1 m2 m3 : Env → M D} {v v1 v2 v3 : VEnv → VM P} {f f1 f2 fr : Bool} {t u : Env → M Bool} {vt vu : VEnv → VM Bool} {ma : Env → M (List D)} {va : VEnv → VM (List P)}
theorem OkE.any (h : OkE m v f) : OkE m v false := fun b A st env venv s x s' a r z e => (h b A st env venv s x s' a r z e).imp fun d st' _ q => ⟨q.1, fun z => nomatch z⟩
theorem q_var {i : Nat} : OkE (eVar i) (VV.eVar i) false := fun b A st env venv s x s' a r z e => by
  unfold VV.eVar at e
  split at e
  · rename_i d h
    cases e
    obtain ⟨d', e1, r1⟩ := r.2 i _ h
    refine ⟨d', st, ?_, .refl, z, r1, fun z => nomatch z⟩
    unfold eVar
    rw [e1]
  · cases e
theorem q_c {d : D} {x : P} (h : ∀ A st, RV A st x d) (n : ∀ a, d ≠ .ref a) : OkE (eC d) (VV.eC x) true := fun b A st env venv s y s' a r z e => by
  cases e
  exact ⟨d, st, rfl, .refl, z, h A st, fun _ a e => absurd e (n a)⟩
theorem q_int {i : Int} : OkE (eC (.int i)) (VV.eC (.int i)) true := q_c (fun _ _ => rfl) fun _ z => nomatch z
theorem q_bl {i : Bool} : OkE (eC (.bl i)) (VV.eC (.bl i)) true := q_c (fun _ _ => rfl) fun _ z => nomatch z
theorem q_str {i : List Nat} : OkE (eC (.str i)) (VV.eC (.str i)) true := q_c (fun _ _ => rfl) fun _ z => nomatch z
theorem q_ty {i : String} : OkE (eC (.ty i)) (VV.eC (.ty i)) true := q_c (fun _ _ => rfl) fun _ z => nomatch z
theorem q_non : OkE (eC .non) (VV.eC .non) true := q_c (fun _ _ => rfl) fun _ z => nomatch z
theorem q_ebad : OkE m VV.eBad true := fun b A st env venv s y s' a r z e => nomatch e
theorem Got.lift {b : Nat} {A : List Nat} {st : Sto} {s : SS} {r : Res D} {z : P} {n : Nat} (hn : n ≤ st.length) (h : ∃ d' t, r = .ok d' (st ++ t) ∧ RV A (st ++ t) z d' ∧ (fr = true → Fr st.length d')) (k : Str b st s) : Got b st s r (RF A n fr z) := by
  obtain ⟨d', t, e, r1, q⟩ := h
  exact ⟨d', st ++ t, e, .app, k.app, r1, fun g a ea => Nat.le_trans hn (q g a ea)⟩
theorem q_un {g : D → M D} {vg : P → Option P} (hg : OkU g vg fr) (h : OkE m v f) : OkE (eUn g m) (VV.eUn vg v) fr := fun b A st env venv s x s' a r z e => by
  obtain ⟨x1, s1, e1, e2⟩ := bd_inv e
  obtain ⟨e3, e4⟩ := lift_inv e2
  subst e4
  exact (h _ _ _ _ _ _ _ _ a r z e1).bind fun d st1 k z1 q => .lift k.1 (hg _ _ _ _ _ (a.mono k.1).hi q.1 e3) z1
theorem q_bin {g : D → D → M D} {vg : P → P → Option P} (hg : OkO g vg fr) (h1 : OkE m1 v1 f1) (h2 : OkE m2 v2 f2) : OkE (eBin g m1 m2) (VV.eBin vg v1 v2) fr := fun b A st env venv s x s' a r z e => by
  obtain ⟨x1, s1, e1, e⟩ := bd_inv e
  obtain ⟨x2, s2, e2, e⟩ := bd_inv e
  obtain ⟨e3, e4⟩ := lift_inv e
  subst e4
  refine (h1 _ _ _ _ _ _ _ _ a r z e1).bind fun d st1 k z1 q => (h2 _ _ _ _ _ _ _ _ (a.mono k.1) (r.mono k a.lo) z1 e2).bind fun d2 st2 k2 z2 q2 => ?_
  exact .lift (Nat.le_trans k.1 k2.1) (hg _ _ _ _ _ _ _ (a.mono (k.trans k2).1).hi (q.1.mono k2.any a.lo) q2.1 e3) z2
theorem q_anil : OkA aNil VV.aNil := fun b A st env venv s x s' a r z e => by
  cases e
  exact ⟨[], st, rfl, .refl, z, rfl⟩
theorem q_acons (h1 : OkE m v f) (h2 : OkA ma va) : OkA (aCons m ma) (VV.aCons v va) := fun b A st env venv s x s' a r z e => by
  obtain ⟨x1, s1, e1, e⟩ := bd_inv e
  obtain ⟨x2, s2, e2, e⟩ := bd_inv e
  cases e
  refine (h1 _ _ _ _ _ _ _ _ a r z e1).bind fun d st1 k z1 q => (h2 _ _ _ _ _ _ _ _ (a.mono k.1) (r.mono k a.lo) z1 e2).bind fun d2 st2 k2 z2 q2 => ?_
  exact .same z2 ⟨d, d2, rfl, q.1.mono k2.any a.lo, q2⟩
theorem q_args {g : List D → M D} {vg : List P → Option P} (hg : OkC g vg fr) (h : OkA ma va) : OkE (eArgs g ma) (VV.eArgs vg va) fr := fun b A st env venv s x s' a r z e => by
  obtain ⟨x1, s1, e1, e⟩ := bd_inv e
  obtain ⟨e3, e4⟩ := lift_inv e
  subst e4
  exact (h _ _ _ _ _ _ _ _ a r z e1).bind fun d st1 k z1 q => .lift k.1 (hg _ _ _ _ _ (a.mono k.1).hi q e3) z1
theorem asB_inv {x : P} {c : Bool} (h : VV.asB x = some c) : x = .bl c := by
  cases x <;> first | cases h; done | skip
  cases h; rfl
theorem q_tval (h : OkE m v f) : OkT (tVal m) (VV.tVal v) := fun b A st env venv s x s' a r z e => by
  obtain ⟨x1, s1, e1, e⟩ := bd_inv e
  obtain ⟨e3, e4⟩ := lift_inv e
  subst e4
  refine (h _ _ _ _ _ _ _ _ a r z e1).bind fun d st1 k z1 q => ?_
  have e5 := asB_inv e3
  subst e5
  have e6 : d = .bl x := q.1
  subst e6
  exact .same z1 rfl
theorem q_tnot (h : OkT t vt) : OkT (tNot t) (VV.tNot vt) := fun b A st env venv s x s' a r z e => by
  obtain ⟨x1, s1, e1, e⟩ := bd_inv e
  cases e
  exact (h _ _ _ _ _ _ _ _ a r z e1).bind fun d st1 k z1 q => .same z1 (by rw [q])
theorem q_tand (h1 : OkT t vt) (h2 : OkT u vu) : OkT (tAnd t u) (VV.tAnd vt vu) := fun b A st env venv s x s' a r z e => by
  obtain ⟨x1, s1, e1, e⟩ := bd_inv e
  refine (h1 _ _ _ _ _ _ _ _ a r z e1).bind fun d st1 k z1 q => ?_
  subst q
  cases d with
  | true => exact h2 _ _ _ _ _ _ _ _ (a.mono k.1) (r.mono k a.lo) z1 e
  | false => cases e; exact .same z1 rfl
theorem q_tor (h1 : OkT t vt) (h2 : OkT u vu) : OkT (tOr t u) (VV.tOr vt vu) := fun b A st env venv s x s' a r z e => by
  obtain ⟨x1, s1, e1, e⟩ := bd_inv e
  refine (h1 _ _ _ _ _ _ _ _ a r z e1).bind fun d st1 k z1 q => ?_
  subst q
  cases d with
  | false => exact h2 _ _ _ _ _ _ _ _ (a.mono k.1) (r.mono k a.lo) z1 e
  | true => cases e; exact .same z1 rfl
theorem RF.le {A : List Nat} {n n' : Nat} {x : P} {d : D} {st : Sto} (h : RF A n fr x d st) (k : n' ≤ n) : RF A n' fr x d st := ⟨h.1, fun z a e => Nat.le_trans k (h.2 z a e)⟩
theorem q_if (h : OkT t vt) (h1 : OkE m1 v1 f1) (h2 : OkE m2 v2 f2) : OkE (eIf t m1 m2) (VV.eIf vt v1 v2) (f1 && f2) := fun b A st env venv s x s' a r z e => by
  obtain ⟨x1, s1, e1, e⟩ := bd_inv e
  refine (h _ _ _ _ _ _ _ _ a r z e1).bind fun d st1 k z1 q => ?_
  subst q
  cases d with
  | true => exact (h1 _ _ _ _ _ _ _ _ (a.mono k.1) (r.mono k a.lo) z1 e).imp fun d st' k' q => ⟨q.1, fun g a e => Nat.le_trans k.1 (q.2 (by cases f1 <;> simp_all) a e)⟩
  | false => exact (h2 _ _ _ _ _ _ _ _ (a.mono k.1) (r.mono k a.lo) z1 e).imp fun d st' k' q => ⟨q.1, fun g a e => Nat.le_trans k.1 (q.2 (by cases f2 <;> simp_all) a e)⟩
theorem q_one (h : OkE m v f) : OkE m v f := h
theorem bl_new {n : Nat} {c : Bool} : Fr n (.bl c) := fun a e => nomatch e
theorem q_and (h1 : OkE m1 v1 f1) (h2 : OkE m2 v2 f2) : OkE (eAnd m1 m2) (VV.eAnd v1 v2) f2 := fun b A st env venv s x s' a r z e => by
  obtain ⟨x1, s1, e1, e⟩ := bd_inv e
  obtain ⟨c, s2, e2, e⟩ := bd_inv e
  obtain ⟨e3, e4⟩ := lift_inv e2
  subst e4
  have e5 := asB_inv e3
  subst e5
  refine (h1 _ _ _ _ _ _ _ _ a r z e1).bind fun d st1 k z1 q => ?_
  have e6 : d = .bl c := q.1
  subst e6
  cases c with
  | true => exact (h2 _ _ _ _ _ _ _ _ (a.mono k.1) (r.mono k a.lo) z1 e).imp fun d st' _ q => q.le k.1
  | false => cases e; exact .same z1 ⟨rfl, fun _ => bl_new⟩
theorem q_or (h1 : OkE m1 v1 f1) (h2 : OkE m2 v2 f2) : OkE (eOr m1 m2) (VV.eOr v1 v2) f2 := fun b A st env venv s x s' a r z e => by
  obtain ⟨x1, s1, e1, e⟩ := bd_inv e
  obtain ⟨c, s2, e2, e⟩ := bd_inv e
  obtain ⟨e3, e4⟩ := lift_inv e2
  subst e4
  have e5 := asB_inv e3
  subst e5
  refine (h1 _ _ _ _ _ _ _ _ a r z e1).bind fun d st1 k z1 q => ?_
  have e6 : d = .bl c := q.1
  subst e6
  cases c with
  | false => exact (h2 _ _ _ _ _ _ _ _ (a.mono k.1) (r.mono k a.lo) z1 e).imp fun d st' _ q => q.le k.1
  | true => cases e; exact .same z1 ⟨rfl, fun _ => bl_new⟩
theorem q_not (h1 : OkE m1 v1 f1) : OkE (eNot m1) (VV.eNot v1) true := fun b A st env venv s x s' a r z e => by
  obtain ⟨x1, s1, e1, e⟩ := bd_inv e
  obtain ⟨c, s2, e2, e⟩ := bd_inv e
  obtain ⟨e3, e4⟩ := lift_inv e2
  subst e4
  have e5 := asB_inv e3
  subst e5
  cases e
  refine (h1 _ _ _ _ _ _ _ _ a r z e1).bind fun d st1 k z1 q => ?_
  have e6 : d = .bl c := q.1
  subst e6
  exact .same z1 ⟨rfl, fun _ => bl_new⟩
theorem q_chain {g1 g2 : D → D → M D} {w1 w2 : P → P → Option P} (hg1 : OkO g1 w1 true) (hg2 : OkO g2 w2 true) (h1 : OkE m1 v1 f1) (h2 : OkE m2 v2 f2) (h3 : OkE m3 v3 f) : OkE (eChain g1 g2 m1 m2 m3) (VV.eChain w1 w2 v1 v2 v3) true := fun b A st env venv s x s' a r z e => by
  obtain ⟨x1, s1, e1, e⟩ := bd_inv e
  obtain ⟨x2, s2, e2, e⟩ := bd_inv e
  obtain ⟨c, s3, e0, e⟩ := bd_inv e
  obtain ⟨e3, e4⟩ := lift_inv e0
  subst e4
  obtain ⟨y, e5, e6⟩ := Option.bind_eq_some_iff.mp e3
  have e7 := asB_inv e6
  subst e7
  refine (h1 _ _ _ _ _ _ _ _ a r z e1).bind fun d st1 k z1 q => (h2 _ _ _ _ _ _ _ _ (a.mono k.1) (r.mono k a.lo) z1 e2).bind fun d2 st2 k2 z2 q2 => ?_
  have a2 := a.mono (k.trans k2).1
  obtain ⟨d', t, e8, r8, _⟩ := hg1 _ _ _ _ _ _ _ a2.hi (q.1.mono k2.any a.lo) q2.1 e5
  have e9 : d' = .bl c := r8
  subst e9
  rw [e8]
  have k3 : Kp b st2 (st2 ++ t) := .app
  show Got b st2 s' (match D.bl c with | .bl true => (m3 env (st2 ++ t)).bind fun z => g2 d2 z | .bl false => .ok (.bl false) (st2 ++ t) | _ => .bad) _
  cases c with
  | true =>
    obtain ⟨x3, s4, e10, e⟩ := bd_inv e
    obtain ⟨e11, e12⟩ := lift_inv e
    subst e12
    obtain ⟨d3, st3, e13, k4, z4, q4⟩ := h3 _ _ _ _ _ _ _ _ (a2.mono k3.1) ((r.mono (k.trans k2) a.lo).mono k3 a.lo) z2.app e10
    obtain ⟨d4, t4, e14, r14, n14⟩ := hg2 _ _ _ _ _ _ _ ((a2.mono k3.1).mono k4.1).hi (q2.1.mono (k3.trans k4).any a.lo) q4.1 e11
    refine ⟨d4, st3 ++ t4, ?_, (k3.trans k4).trans .app, z4.app, r14, fun g a ea => ?_⟩
    · show ((m3 env (st2 ++ t)).bind fun z => g2 d2 z) = _
      rw [e13]; exact e14
    · exact Nat.le_trans (((k.trans k2).trans k3).trans k4).1 (n14 g a ea)
  | false => cases e; exact ⟨.bl false, st2 ++ t, rfl, k3, z2.app, rfl, fun _ => bl_new⟩
theorem seq_get {A : List Nat} {st : Sto} {x : P} {d : D} {vs : List P} (h : VV.seqOf x = some vs) (r : RV A st x d) : ∃ ds, seqOf st d = some ds ∧ RVs A st vs ds := by
  cases x <;> first | cases h; done | skip
  · cases h
    obtain ⟨ds, e, q⟩ := r
    exact ⟨ds, by rw [e]; rfl, q⟩
  · cases h
    obtain ⟨a, ds, e, _, g, q⟩ := r
    refine ⟨ds, ?_, q⟩
    rw [e]
    show lstAt st a = some ds
    unfold lstAt
    rw [g]
theorem q_astar (h1 : OkE m v f) (h2 : OkA ma va) : OkA (aStar m ma) (VV.aStar v va) := fun b A st env venv s x s' a r z e => by
  obtain ⟨x1, s1, e1, e⟩ := bd_inv e
  obtain ⟨xs, s2, e2, e8⟩ := bd_inv e
  obtain ⟨e3, e4⟩ := lift_inv e2
  subst e4
  obtain ⟨ys, s3, e5, e7⟩ := bd_inv e8
  cases e7
  refine (h1 _ _ _ _ _ _ _ _ a r z e1).bind fun d st1 k z1 q => ?_
  obtain ⟨ds, e6, r6⟩ := seq_get e3 q.1
  show Got b st1 _ (match seqOf st1 d with | some xs => (ma env st1).bind fun ys => M.ret (xs ++ ys) | none => .bad) _
  rw [e6]
  exact (h2 _ _ _ _ _ _ _ _ (a.mono k.1) (r.mono k a.lo) z1 e5).bind fun d2 st2 k2 z2 q2 => .same z2 ((r6.mono k2.any a.lo).append q2)
theorem p_mktup : OkC mkTup VV.mkTup true := fun A st xs ds z a r e => by
  unfold VV.mkTup at e
  split at e
  · rename_i hl
    cases e
    refine ⟨.tup ds, [], ?_, by rw [List.append_nil]; exact ⟨ds, rfl, r⟩, fun _ _ e => nomatch e⟩
    unfold mkTup
    rw [if_pos (by rw [r.length]; exact hl), List.append_nil]
  · cases e
/-- a new list -/
theorem new_lst {A : List Nat} {st : Sto} {vs : List P} {ds : List D} (a : ∀ a ∈ A, a < st.length) (r : RVs A st vs ds) : RV A (st ++ [.lst ds]) (.lst vs) (.ref st.length) ∧ Fr st.length (.ref st.length) :=
  ⟨⟨st.length, ds, rfl, fun z => Nat.lt_irrefl _ (a _ z), by simp, r.mono (b := 0) .app fun i z => nomatch z⟩, fun a e => by cases e; exact Nat.le_refl _⟩
theorem p_mklst : OkC mkLst VV.mkLst true := fun A st xs ds z a r e => by
  unfold VV.mkLst at e
  split at e
  · rename_i hl
    cases e
    refine ⟨.ref st.length, [.lst ds], ?_, (new_lst a r).1, fun _ => (new_lst a r).2⟩
    unfold mkLst
    rw [if_pos (by rw [r.length]; exact hl)]
  · cases e
end
end MM

/-! Operators and functions on plain values. -/
namespace MM
open PySem PySem.Spec PyProof.Rows L2

namespace VV
def opAdd : P → P → Option P
  | .int i, .int j => some (.int (i + j))
  | .str a, .str b => if a.length + b.length ≤ lim then some (.str (a ++ b)) else none
  | .tup a, .tup b => if a.length + b.length ≤ lim then some (.tup (a ++ b)) else none
  | .lst a, .lst b => if a.length + b.length ≤ lim then some (.lst (a ++ b)) else none
  | _, _ => none
def opSub : P → P → Option P
  | .int i, .int j => some (.int (i - j))
  | _, _ => none
def opMul : P → P → Option P
  | .int i, .int j => if i.natAbs < 2 ^ 64 ∨ j.natAbs < 2 ^ 64 then some (.int (i * j)) else none
  | .lst a, .int k => if -(2 ^ 63) ≤ k ∧ k < 2 ^ 63 ∧ a.length * k.toNat ≤ lim then some (.lst (rep k.toNat a)) else none
  | .str a, .int k => if -(2 ^ 63) ≤ k ∧ k < 2 ^ 63 ∧ a.length * k.toNat ≤ lim then some (.str (rep k.toNat a)) else none
  | _, _ => none
def opDiv : P → P → Option P
  | .int i, .int j => if j ≠ 0 ∧ j.natAbs < 1073741824 then some (.int (i.fdiv j)) else none
  | _, _ => none
def opMod : P → P → Option P
  | .int i, .int j => if j ≠ 0 then some (.int (i.fmod j)) else none
  | _, _ => none
def opPow : P → P → Option P
  | .int i, .int j => if 0 ≤ j ∧ j ≤ 1000000 ∧ i.natAbs < 2 ^ 64 then some (.int (i ^ j.toNat)) else none
  | _, _ => none
def opNeg : P → Option P
  | .int i => some (.int (-i))
  | _ => none
def opLt : P → P → Option P
  | .int i, .int j => some (.bl (decide (i < j)))
  | .str a, .str b => some (.bl (decide (a < b)))
  | _, _ => none
def opLe : P → P → Option P
  | .int i, .int j => some (.bl (decide (i ≤ j)))
  | .str a, .str b => some (.bl (!decide (b < a)))
  | _, _ => none
def opGt : P → P → Option P
  | .int i, .int j => some (.bl (decide (j < i)))
  | .str a, .str b => some (.bl (decide (b < a)))
  | _, _ => none
def opGe : P → P → Option P
  | .int i, .int j => some (.bl (decide (j ≤ i)))
  | .str a, .str b => some (.bl (!decide (a < b)))
  | _, _ => none
def toPy : Nat → P → Option PyData
  | 0, _ => none
  | _ + 1, .non => some .none
  | _ + 1, .bl b => some (.bool b)
  | _ + 1, .int i => some (.int i)
  | _ + 1, .str s => some (.str ⟨s.toArray⟩)
  | n + 1, .tup ds => (ds.mapM (toPy n)).map .tuple
  | n + 1, .lst ds => (ds.mapM (toPy n)).map .list
  | _ + 1, _ => none
def eqS : P → P → Option Bool
  | .non, .non => some true
  | .non, .int _ => some false | .int _, .non => some false
  | .non, .bl _ => some false | .bl _, .non => some false
  | .non, .str _ => some false | .str _, .non => some false
  | .int i, .int j => some (decide (i = j))
  | .bl i, .bl j => some (decide (i = j))
  | .str i, .str j => some (decide (i = j))
  | .int _, .str _ => some false | .str _, .int _ => some false
  | .bl _, .str _ => some false | .str _, .bl _ => some false
  | _, _ => none
def eqP (d e : P) : Option Bool := match eqS d e with
  | some b => some b
  | none => match toPy 60 d, toPy 60 e with
    | some x, some y => if SeqAt.shaped x && SeqAt.shaped y then some (PyData.eqv x y) else none
    | _, _ => none
def opEq (d e : P) : Option P := (eqP d e).map .bl
def opNe (d e : P) : Option P := (eqP d e).map fun b => .bl (!b)
def isNon : P → Bool
  | .non => true
  | _ => false
def opIs (d e : P) : Option P := match e with
  | .non => some (.bl (isNon d))
  | _ => none
def opIsNot (d e : P) : Option P := match e with
  | .non => some (.bl (!isNon d))
  | _ => none
def flatD : P → Bool
  | .non => true
  | .bl _ => true
  | .int _ => true
  | .str _ => true
  | _ => false
def eqF : P → P → Bool
  | .non, .non => true
  | .bl a, .bl b => a == b
  | .bl a, .int b => (if a then 1 else 0) == b
  | .int a, .bl b => a == (if b then 1 else 0)
  | .int a, .int b => a == b
  | .str a, .str b => a == b
  | _, _ => false
def inD (d e : P) : Option Bool := match e with
  | .str s => (match d with
    | .str [c] => some (decide (c ∈ s))
    | _ => none)
  | e => (seqOf e).bind fun ds => if flatD d && ds.all flatD then some (ds.any fun y => eqF y d) else
      (match toPy 60 d, toPy 60 e with
        | some x, some (.list ys) => if SeqAt.shaped x && SeqAt.shaped (.list ys) then some (ys.any fun z => PyData.eqv z x) else none
        | _, _ => none)
def opIn (d e : P) : Option P := (inD d e).map .bl
def opNotIn (d e : P) : Option P := (inD d e).map fun b => .bl (!b)
def opIx (d e : P) : Option P := match e with
  | .int i => (match d with
    | .str s => if s.length ≤ lim then (atI s i).map fun c => .str [c] else none
    | d => (seqOf d).bind fun ds => atI ds i)
  | _ => none
def opSl (d : P) (lo hi : Option Int) : Option P := match d with
  | .str s => if s.length ≤ lim then some (.str (cutL s lo hi)) else none
  | .tup ds => some (.tup (cutL ds lo hi))
  | .lst ds => some (.lst (cutL ds lo hi))
  | _ => none
def asI : P → Option Int
  | .int i => some i
  | _ => none
def pNone : VEnv → VM (Option Int) := fun _ s => some (none, s)
def pSome (e : VEnv → VM P) : VEnv → VM (Option Int) := fun env s => bd (e env s) fun d s => bd (lift (asI d) s) fun i s => some (some i, s)
def eSl (a : VEnv → VM P) (lo hi : VEnv → VM (Option Int)) : VEnv → VM P := fun env s => bd (a env s) fun x s => bd (lo env s) fun l s => bd (hi env s) fun h s => lift (opSl x l h) s
def opRev : P → Option P
  | .str s => if s.length ≤ lim then some (.str s.reverse) else none
  | .lst ds => some (.lst ds.reverse)
  | _ => none
def fLen : List P → Option P
  | [.str s] => if s.length ≤ lim then some (.int s.length) else none
  | [d] => (seqOf d).map fun ds => .int ds.length
  | _ => none
def fList : List P → Option P
  | [d] => (seqOf d).map .lst
  | _ => none
def fTuple : List P → Option P
  | [d] => (seqOf d).map .tup
  | _ => none
def fAbs : List P → Option P
  | [.int i] => some (.int (if i < 0 then -i else i))
  | _ => none
def fInt : List P → Option P
  | [.int i] => some (.int i)
  | [.bl k] => some (.int (if k then 1 else 0))
  | _ => none
def intsOf : List P → Option (List Int)
  | [] => some []
  | .int i :: ds => (intsOf ds).map (i :: ·)
  | _ => none
def blsOf : List P → Option (List Bool)
  | [] => some []
  | .bl i :: ds => (blsOf ds).map (i :: ·)
  | _ => none
def strsOf : List P → Option (List (List Nat))
  | [] => some []
  | .str i :: ds => (strsOf ds).map (i :: ·)
  | _ => none
def lstOf : P → Option (List P)
  | .lst ds => some ds
  | _ => none
def fMax : List P → Option P
  | [.int i, .int j] => some (.int (if j > i then j else i))
  | [d] => match (lstOf d).bind intsOf with | some (i :: is) => some (.int (maxL i is)) | _ => none
  | _ => none
def fMin : List P → Option P
  | [.int i, .int j] => some (.int (if j < i then j else i))
  | [d] => match (lstOf d).bind intsOf with | some (i :: is) => some (.int (minL i is)) | _ => none
  | _ => none
def fSum : List P → Option P
  | [d] => ((lstOf d).bind intsOf).map fun is => .int is.sum
  | _ => none
def fAll : List P → Option P
  | [d] => ((lstOf d).bind blsOf).map fun is => .bl (is.all id)
  | _ => none
def fAny : List P → Option P
  | [d] => ((lstOf d).bind blsOf).map fun is => .bl (is.any id)
  | _ => none
def tyOf : P → Option Ty
  | .non => some .non
  | .bl _ => some .bl
  | .int _ => some .int
  | .str _ => some .str
  | .tup _ => some .tup
  | .lst _ => some .lst
  | _ => none
def clsOf : P → Option (List Ty)
  | .ty n => (Ty.of n).map fun t => [t]
  | .tup ds => ds.mapM fun d => match d with
    | .ty n => Ty.of n
    | _ => none
  | _ => none
def fIsi : List P → Option P
  | [x, c] => match tyOf x, clsOf c with
    | some t, some cs => some (.bl (cs.any t.is))
    | _, _ => none
  | _ => none
def mJoin (o : P) (a : List P) : Option P := match o, a with
  | .str s, [d] => (match (seqOf d).bind strsOf with
    | some ss => if (ss.map (·.length)).sum + ss.length * s.length ≤ lim then some (.str (joinL s ss)) else none
    | none => none)
  | _, _ => none
def isTy (T : String) : P → Bool
  | .str _ => T == "str"
  | _ => false
/-- a method of a text -/
def eMeth (T : String) (f : P → List P → Option P) (o : VEnv → VM P) (a : VEnv → VM (List P)) : VEnv → VM P := fun env s => bd (o env s) fun x s => if isTy T x then bd (a env s) fun ds s => lift (f x ds) s else none
end VV

section
variable {A : List Nat} {st : Sto}
theorem done {α : Type} {r : D} {st : Sto} {z : P} {fr : Bool} (h : RV A st z r) (n : fr = true → Fr st.length r) : ∃ d' t, (Res.ok r st : Res D) = .ok d' (st ++ t) ∧ RV A (st ++ t) z d' ∧ (fr = true → Fr st.length d') :=
  ⟨r, [], by rw [List.append_nil], by rw [List.append_nil]; exact h, n⟩
theorem int_new {n : Nat} {i : Int} : Fr n (.int i) := fun _ e => nomatch e
theorem str_new {n : Nat} {i : List Nat} : Fr n (.str i) := fun _ e => nomatch e
theorem tup_new {n : Nat} {i : List D} : Fr n (.tup i) := fun _ e => nomatch e
theorem done_int {i : Int} {fr : Bool} : ∃ d' t, (Res.ok (.int i) st : Res D) = .ok d' (st ++ t) ∧ RV A (st ++ t) (.int i) d' ∧ (fr = true → Fr st.length d') := done (α := Unit) rfl fun _ => int_new
theorem done_bl {i : Bool} {fr : Bool} : ∃ d' t, (Res.ok (.bl i) st : Res D) = .ok d' (st ++ t) ∧ RV A (st ++ t) (.bl i) d' ∧ (fr = true → Fr st.length d') := done (α := Unit) rfl fun _ => bl_new
theorem done_str {i : List Nat} {fr : Bool} : ∃ d' t, (Res.ok (.str i) st : Res D) = .ok d' (st ++ t) ∧ RV A (st ++ t) (.str i) d' ∧ (fr = true → Fr st.length d') := done (α := Unit) rfl fun _ => str_new
theorem done_lst {vs : List P} {ds : List D} {fr : Bool} (a : ∀ a ∈ A, a < st.length) (r : RVs A st vs ds) : ∃ d' t, alloc (.lst ds) st = .ok d' (st ++ t) ∧ RV A (st ++ t) (.lst vs) d' ∧ (fr = true → Fr st.length d') :=
  ⟨.ref st.length, [.lst ds], rfl, (new_lst a r).1, fun _ => (new_lst a r).2⟩
theorem mutAt_of {a : Nat} {ds : List D} (h : st[a]? = some (.lst ds)) : mutAt st a = some ds := by unfold mutAt; rw [h]
theorem lstAt_of {a : Nat} {ds : List D} (h : st[a]? = some (.lst ds)) : lstAt st a = some ds := by unfold lstAt; rw [h]
theorem p_add : OkO opAdd VV.opAdd true := fun A st x y d e z a r1 r2 h => by
  unfold VV.opAdd at h
  split at h
  · cases h
    obtain rfl : d = .int _ := r1
    obtain rfl : e = .int _ := r2
    exact done_int
  · split at h
    · rename_i hl
      cases h
      obtain rfl : d = .str _ := r1
      obtain rfl : e = .str _ := r2
      unfold opAdd
      dsimp only
      rw [if_pos hl]
      exact done_str
    · cases h
  · split at h
    · rename_i hl
      cases h
      obtain ⟨d1, rfl, q1⟩ := r1
      obtain ⟨d2, rfl, q2⟩ := r2
      unfold opAdd
      dsimp only
      rw [if_pos (by rw [q1.length, q2.length]; exact hl)]
      exact done (α := Unit) ⟨_, rfl, q1.append q2⟩ fun _ => tup_new
    · cases h
  · split at h
    · rename_i hl
      cases h
      obtain ⟨a1, d1, rfl, n1, g1, q1⟩ := r1
      obtain ⟨a2, d2, rfl, n2, g2, q2⟩ := r2
      unfold opAdd
      dsimp only
      rw [mutAt_of g1, mutAt_of g2]
      dsimp only
      rw [if_pos (by rw [q1.length, q2.length]; exact hl)]
      exact done_lst a (q1.append q2)
    · cases h
  · cases h
theorem p_sub : OkO opSub VV.opSub true := fun A st x y d e z a r1 r2 h => by
  unfold VV.opSub at h
  split at h
  · cases h
    obtain rfl : d = .int _ := r1
    obtain rfl : e = .int _ := r2
    exact done_int
  · cases h
theorem p_mul : OkO opMul VV.opMul true := fun A st x y d e z a r1 r2 h => by
  unfold VV.opMul at h
  split at h
  · split at h
    · rename_i hl
      cases h
      obtain rfl : d = .int _ := r1
      obtain rfl : e = .int _ := r2
      unfold opMul
      dsimp only
      rw [if_pos hl]
      exact done_int
    · cases h
  · split at h
    · rename_i hl
      cases h
      obtain ⟨a1, d1, rfl, n1, g1, q1⟩ := r1
      obtain rfl : e = .int _ := r2
      unfold opMul
      dsimp only
      rw [mutAt_of g1]
      dsimp only
      rw [if_pos (by rw [q1.length]; exact hl)]
      exact done_lst a (q1.rep _)
    · cases h
  · split at h
    · rename_i hl
      cases h
      obtain rfl : d = .str _ := r1
      obtain rfl : e = .int _ := r2
      unfold opMul
      dsimp only
      rw [if_pos hl]
      exact done_str
    · cases h
  · cases h
theorem p_div : OkO opDiv VV.opDiv true := fun A st x y d e z a r1 r2 h => by
  unfold VV.opDiv at h
  split at h
  · split at h
    · rename_i hl
      cases h
      obtain rfl : d = .int _ := r1
      obtain rfl : e = .int _ := r2
      unfold opDiv
      dsimp only
      rw [if_pos hl]
      exact done_int
    · cases h
  · cases h
theorem p_mod : OkO opMod VV.opMod true := fun A st x y d e z a r1 r2 h => by
  unfold VV.opMod at h
  split at h
  · split at h
    · rename_i hl
      cases h
      obtain rfl : d = .int _ := r1
      obtain rfl : e = .int _ := r2
      unfold opMod
      dsimp only
      rw [if_pos hl]
      exact done_int
    · cases h
  · cases h
theorem p_pow : OkO opPow VV.opPow true := fun A st x y d e z a r1 r2 h => by
  unfold VV.opPow at h
  split at h
  · split at h
    · rename_i hl
      cases h
      obtain rfl : d = .int _ := r1
      obtain rfl : e = .int _ := r2
      unfold opPow
      dsimp only
      rw [if_pos hl]
      exact done_int
    · cases h
  · cases h
theorem p_neg : OkU opNeg VV.opNeg true := fun A st x d z a r1 h => by
  unfold VV.opNeg at h
  split at h
  · cases h
    obtain rfl : d = .int _ := r1
    exact done_int
  · cases h
theorem p_lt : OkO opLt VV.opLt true := fun A st x y d e z a r1 r2 h => by
  unfold VV.opLt at h
  split at h <;> first | (cases h; done) | skip
  · cases h
    obtain rfl : d = .int _ := r1
    obtain rfl : e = .int _ := r2
    exact done_bl
  · cases h
    obtain rfl : d = .str _ := r1
    obtain rfl : e = .str _ := r2
    exact done_bl
theorem p_le : OkO opLe VV.opLe true := fun A st x y d e z a r1 r2 h => by
  unfold VV.opLe at h
  split at h <;> first | (cases h; done) | skip
  · cases h
    obtain rfl : d = .int _ := r1
    obtain rfl : e = .int _ := r2
    exact done_bl
  · cases h
    obtain rfl : d = .str _ := r1
    obtain rfl : e = .str _ := r2
    exact done_bl
theorem p_gt : OkO opGt VV.opGt true := fun A st x y d e z a r1 r2 h => by
  unfold VV.opGt at h
  split at h <;> first | (cases h; done) | skip
  · cases h
    obtain rfl : d = .int _ := r1
    obtain rfl : e = .int _ := r2
    exact done_bl
  · cases h
    obtain rfl : d = .str _ := r1
    obtain rfl : e = .str _ := r2
    exact done_bl
theorem p_ge : OkO opGe VV.opGe true := fun A st x y d e z a r1 r2 h => by
  unfold VV.opGe at h
  split at h <;> first | (cases h; done) | skip
  · cases h
    obtain rfl : d = .int _ := r1
    obtain rfl : e = .int _ := r2
    exact done_bl
  · cases h
    obtain rfl : d = .str _ := r1
    obtain rfl : e = .str _ := r2
    exact done_bl
/-! equality -/
theorem toPys_of {n : Nat} (ih : ∀ (x : P) (d : D) (u : PyData), VV.toPy n x = some u → RV A st x d → toPy st n d = some u) : ∀ (vs : List P) (ds : List D) (us : List PyData), vs.mapM (VV.toPy n) = some us → RVs A st vs ds → ds.mapM (toPy st n) = some us
  | [], ds, us, e, r => by
    rw [show ds = [] from r]
    have e1 : us = [] := by simpa using e.symm
    rw [e1]; rfl
  | v :: vs, ds, us, e, ⟨d, r, e1, h1, h2⟩ => by
    rw [List.mapM_cons] at e
    cases hx : VV.toPy n v with
    | none => rw [hx] at e; cases e
    | some x =>
      cases hy : vs.mapM (VV.toPy n) with
      | none => rw [hx, hy] at e; cases e
      | some ys =>
        rw [hx, hy] at e
        rw [e1, List.mapM_cons, ih v d x hx h1, toPys_of ih vs r ys hy h2]
        exact e
theorem toPy_of : ∀ (n : Nat) (x : P) (d : D) (u : PyData), VV.toPy n x = some u → RV A st x d → toPy st n d = some u
  | 0, _, _, _, e, _ => nomatch e
  | n + 1, .non, d, u, e, r => by rw [show d = .non from r]; exact e
  | n + 1, .bl b, d, u, e, r => by rw [show d = .bl b from r]; exact e
  | n + 1, .int b, d, u, e, r => by rw [show d = .int b from r]; exact e
  | n + 1, .str b, d, u, e, r => by rw [show d = .str b from r]; exact e
  | n + 1, .strm, d, u, e, r => nomatch e
  | n + 1, .ty _, d, u, e, r => nomatch e
  | n + 1, .tup vs, d, u, e, ⟨ds, e1, r⟩ => by
    obtain ⟨xs, e2, e3⟩ := Option.map_eq_some_iff.mp (show (vs.mapM (VV.toPy n)).map PyData.tuple = some u from e)
    rw [e1]
    show (ds.mapM (toPy st n)).map PyData.tuple = some u
    rw [toPys_of (toPy_of n) vs ds xs e2 r, ← e3]; rfl
  | n + 1, .lst vs, d, u, e, ⟨a, ds, e1, _, g, r⟩ => by
    obtain ⟨xs, e2, e3⟩ := Option.map_eq_some_iff.mp (show (vs.mapM (VV.toPy n)).map PyData.list = some u from e)
    rw [e1]
    show ((lstAt st a).bind fun ds => (ds.mapM (toPy st n)).map .list) = some u
    rw [lstAt_of g]
    show (ds.mapM (toPy st n)).map PyData.list = some u
    rw [toPys_of (toPy_of n) vs ds xs e2 r, ← e3]; rfl
theorem eqS_of {x y : P} {d e : D} (r1 : RV A st x d) (r2 : RV A st y e) : eqS d e = VV.eqS x y := by
  have sc : ∀ (x : P) (d : D), RV A st x d → (d = match x with | .non => .non | .bl b => .bl b | .int i => .int i | .str s => .str s | .ty n => .ty n | _ => d) ∧ ((∃ vs, x = .tup vs) → ∃ ds, d = .tup ds) ∧ ((∃ vs, x = .lst vs) → ∃ a, d = .ref a) ∧ (x = .strm → d = .ref 1) := by
    intro x d r
    cases x with
    | tup vs => obtain ⟨ds, e, _⟩ := r; exact ⟨rfl, fun _ => ⟨ds, e⟩, fun ⟨_, z⟩ => (nomatch z), fun z => nomatch z⟩
    | lst vs => obtain ⟨a, ds, e, _⟩ := r; exact ⟨rfl, fun ⟨_, z⟩ => (nomatch z), fun _ => ⟨a, e⟩, fun z => nomatch z⟩
    | strm => exact ⟨rfl, fun ⟨_, z⟩ => (nomatch z), fun ⟨_, z⟩ => (nomatch z), fun _ => r⟩
    | _ => exact ⟨r, fun ⟨_, z⟩ => (nomatch z), fun ⟨_, z⟩ => (nomatch z), fun z => nomatch z⟩
  obtain ⟨a1, a2, a3, a4⟩ := sc x d r1
  obtain ⟨b1, b2, b3, b4⟩ := sc y e r2
  cases x <;> cases y <;> first
    | (rw [a1, b1]; rfl)
    | (obtain ⟨_, h⟩ := a2 ⟨_, rfl⟩; obtain ⟨_, k⟩ := b2 ⟨_, rfl⟩; rw [h, k]; rfl)
    | (obtain ⟨_, h⟩ := a2 ⟨_, rfl⟩; obtain ⟨_, k⟩ := b3 ⟨_, rfl⟩; rw [h, k]; rfl)
    | (obtain ⟨_, h⟩ := a3 ⟨_, rfl⟩; obtain ⟨_, k⟩ := b2 ⟨_, rfl⟩; rw [h, k]; rfl)
    | (obtain ⟨_, h⟩ := a3 ⟨_, rfl⟩; obtain ⟨_, k⟩ := b3 ⟨_, rfl⟩; rw [h, k]; rfl)
    | (obtain ⟨_, h⟩ := a2 ⟨_, rfl⟩; rw [h, b1]; rfl)
    | (obtain ⟨_, h⟩ := a3 ⟨_, rfl⟩; rw [h, b1]; rfl)
    | (obtain ⟨_, k⟩ := b2 ⟨_, rfl⟩; rw [a1, k]; rfl)
    | (obtain ⟨_, k⟩ := b3 ⟨_, rfl⟩; rw [a1, k]; rfl)
    | (obtain ⟨_, h⟩ := a2 ⟨_, rfl⟩; rw [h, b4 rfl]; rfl)
    | (obtain ⟨_, h⟩ := a3 ⟨_, rfl⟩; rw [h, b4 rfl]; rfl)
    | (obtain ⟨_, k⟩ := b2 ⟨_, rfl⟩; rw [a4 rfl, k]; rfl)
    | (obtain ⟨_, k⟩ := b3 ⟨_, rfl⟩; rw [a4 rfl, k]; rfl)
    | (rw [a4 rfl, b4 rfl]; rfl)
    | (rw [a4 rfl, b1]; rfl)
    | (rw [a1, b4 rfl]; rfl)
theorem eqD_some {st : Sto} {d e : D} {c : Bool} (h : eqS d e = some c) : eqD st d e = some c := by
  simp only [eqD, h]
theorem eqD_none {st : Sto} {d e : D} {u w : PyData} (h : eqS d e = none) (h1 : toPy st 60 d = some u) (h2 : toPy st 60 e = some w) : eqD st d e = if SeqAt.shaped u && SeqAt.shaped w then some (PyData.eqv u w) else none := by
  simp only [eqD, h, h1, h2]
theorem eqP_of {x y : P} {d e : D} {c : Bool} (r1 : RV A st x d) (r2 : RV A st y e) (h : VV.eqP x y = some c) : eqD st d e = some c := by
  have hs := eqS_of r1 r2
  rcases h0 : VV.eqS x y with _ | b
  · rcases h1 : VV.toPy 60 x with _ | u
    · simp [VV.eqP, h0, h1] at h
    · rcases h2 : VV.toPy 60 y with _ | w
      · simp [VV.eqP, h0, h1, h2] at h
      · rw [eqD_none (hs.trans h0) (toPy_of 60 x d u h1 r1) (toPy_of 60 y e w h2 r2)]
        simpa only [VV.eqP, h0, h1, h2] using h
  · rw [eqD_some (hs.trans h0)]
    simpa only [VV.eqP, h0] using h
theorem p_eq : OkO opEq VV.opEq true := fun A st x y d e z a r1 r2 h => by
  obtain ⟨c, h1, h2⟩ := Option.map_eq_some_iff.mp h
  subst h2
  unfold opEq
  rw [eqP_of r1 r2 h1]
  exact done_bl
theorem p_ne : OkO opNe VV.opNe true := fun A st x y d e z a r1 r2 h => by
  obtain ⟨c, h1, h2⟩ := Option.map_eq_some_iff.mp h
  subst h2
  unfold opNe
  rw [eqP_of r1 r2 h1]
  exact done_bl
theorem isNon_of {x : P} {d : D} (r : RV A st x d) : isNon d = VV.isNon x := by
  cases x with
  | tup vs => obtain ⟨ds, e, _⟩ := r; rw [e]; rfl
  | lst vs => obtain ⟨a, ds, e, _⟩ := r; rw [e]; rfl
  | _ => rw [show d = _ from r]; rfl
theorem p_is : OkO opIs VV.opIs true := fun A st x y d e z a r1 r2 h => by
  unfold VV.opIs at h
  split at h
  · cases h
    obtain rfl : e = .non := r2
    rw [← isNon_of r1]
    exact done_bl
  · cases h
theorem p_isnot : OkO opIsNot VV.opIsNot true := fun A st x y d e z a r1 r2 h => by
  unfold VV.opIsNot at h
  split at h
  · cases h
    obtain rfl : e = .non := r2
    rw [← isNon_of r1]
    exact done_bl
  · cases h
theorem flatD_of {x : P} {d : D} (r : RV A st x d) : flatD d = VV.flatD x := by
  cases x with
  | tup vs => obtain ⟨ds, e, _⟩ := r; rw [e]; rfl
  | lst vs => obtain ⟨a, ds, e, _⟩ := r; rw [e]; rfl
  | _ => rw [show d = _ from r]; rfl
theorem flatDs_of : ∀ {vs : List P} {ds : List D}, RVs A st vs ds → ds.all flatD = vs.all VV.flatD
  | [], ds, h => by rw [show ds = [] from h]; rfl
  | v :: vs, ds, ⟨d, r, e, h1, h2⟩ => by rw [e, List.all_cons, List.all_cons, flatD_of h1, flatDs_of h2]
theorem eqF_of {x y : P} {d e : D} (r1 : RV A st x d) (r2 : RV A st y e) (f1 : VV.flatD x = true) (f2 : VV.flatD y = true) : eqF d e = VV.eqF x y := by
  cases x <;> first | (cases f1; done) | skip
  all_goals cases y <;> first | (cases f2; done) | skip
  all_goals
    rw [show d = _ from r1, show e = _ from r2]
    rfl
theorem anyF_of {y : P} {e : D} (r2 : RV A st y e) (f2 : VV.flatD y = true) : ∀ {vs : List P} {ds : List D}, RVs A st vs ds → vs.all VV.flatD = true → (ds.any fun z => eqF z e) = vs.any fun z => VV.eqF z y
  | [], ds, h, _ => by rw [show ds = [] from h]; rfl
  | v :: vs, ds, ⟨d, r, e1, h1, h2⟩, f => by
    rw [List.all_cons, Bool.and_eq_true] at f
    rw [e1, List.any_cons, List.any_cons, eqF_of h1 r2 f.1 f2, anyF_of r2 f2 h2 f.2]
theorem inD_of {x y : P} {d e : D} {c : Bool} (r1 : RV A st x d) (r2 : RV A st y e) (h : VV.inD x y = some c) : inD st d e = some c := by
  unfold VV.inD at h
  split at h
  · obtain rfl : e = .str _ := r2
    split at h
    · obtain rfl : d = .str _ := r1
      exact h
    · cases h
  · rename_i _ hy
    obtain ⟨vs, e1, h⟩ := Option.bind_eq_some_iff.mp h
    obtain ⟨ds, e2, r3⟩ := seq_get e1 r2
    have ne : ∀ s, e ≠ .str s := by
      intro s he
      rw [he] at e2
      cases e2
    unfold inD
    split
    · exact absurd rfl (ne _)
    · rw [e2]
      show (if (flatD d && ds.all flatD) = true then _ else _) = _
      rw [flatD_of r1, flatDs_of r3]
      split at h
      · rename_i hf
        rw [if_pos hf]
        rw [Bool.and_eq_true] at hf
        rw [anyF_of r1 hf.1 r3 hf.2]
        exact h
      · rename_i hf
        rw [if_neg hf]
        split at h
        · rename_i u w h1 h2
          rw [toPy_of 60 x d u h1 r1, toPy_of 60 _ e _ h2 r2]
          exact h
        · cases h
theorem p_in : OkO opIn VV.opIn true := fun A st x y d e z a r1 r2 h => by
  obtain ⟨c, h1, h2⟩ := Option.map_eq_some_iff.mp h
  subst h2
  unfold opIn
  rw [inD_of r1 r2 h1]
  exact done_bl
theorem p_notin : OkO opNotIn VV.opNotIn true := fun A st x y d e z a r1 r2 h => by
  obtain ⟨c, h1, h2⟩ := Option.map_eq_some_iff.mp h
  subst h2
  unfold opNotIn
  rw [inD_of r1 r2 h1]
  exact done_bl
/-! subscripts -/
theorem atI_of {vs : List P} {ds : List D} (r : RVs A st vs ds) {i : Int} {x : P} (e : atI vs i = some x) : ∃ d, atI ds i = some d ∧ RV A st x d := by
  unfold atI at e ⊢
  obtain ⟨j, e1, e2⟩ := Option.bind_eq_some_iff.mp e
  obtain ⟨v, h1, h2⟩ := r.get e2
  exact ⟨v, by rw [r.length, e1]; exact h1, h2⟩
theorem p_ix : OkO opIx VV.opIx false := fun A st x y d e z a r1 r2 h => by
  unfold VV.opIx at h
  split at h
  · rename_i i
    obtain rfl : e = .int i := r2
    split at h
    · rename_i s
      obtain rfl : d = .str _ := r1
      split at h
      · rename_i hl
        obtain ⟨c, e1, e2⟩ := Option.map_eq_some_iff.mp h
        subst e2
        unfold opIx
        dsimp only
        rw [if_pos hl, e1]
        exact done_str
      · cases h
    · obtain ⟨vs, e1, h⟩ := Option.bind_eq_some_iff.mp h
      obtain ⟨ds, e2, r3⟩ := seq_get e1 r1
      obtain ⟨d', e3, r4⟩ := atI_of r3 h
      have ne : ∀ s, d ≠ .str s := by
        intro s he
        rw [he] at e2
        cases e2
      unfold opIx
      dsimp only
      split
      · exact absurd rfl (ne _)
      · rw [e2]
        show ∃ d' t, (match atI ds i with | some x => Res.ok x st | none => Res.bad) = _ ∧ _
        rw [e3]
        exact done (α := Unit) r4 fun z => nomatch z
  · cases h
theorem cut_of {vs : List P} {ds : List D} (r : RVs A st vs ds) (lo hi : Option Int) : RVs A st (cutL vs lo hi) (cutL ds lo hi) := by
  unfold cutL
  rw [r.length]
  exact (r.drop _).take _
theorem p_sl {x : P} {d : D} {lo hi : Option Int} {z : P} (a : ∀ a ∈ A, a < st.length) (r1 : RV A st x d) (h : VV.opSl x lo hi = some z) : ∃ d' t, opSl d lo hi st = .ok d' (st ++ t) ∧ RV A (st ++ t) z d' ∧ (true = true → Fr st.length d') := by
  unfold VV.opSl at h
  split at h
  · split at h
    · rename_i hl
      cases h
      obtain rfl : d = .str _ := r1
      unfold opSl
      dsimp only
      rw [if_pos hl]
      exact done_str
    · cases h
  · cases h
    obtain ⟨ds, rfl, r⟩ := r1
    exact done (α := Unit) ⟨_, rfl, cut_of r lo hi⟩ fun _ => tup_new
  · cases h
    obtain ⟨a1, ds, rfl, n, g, r⟩ := r1
    unfold opSl
    dsimp only
    rw [lstAt_of g]
    exact done_lst a (cut_of r lo hi)
  · cases h
theorem p_rev : OkU opRev VV.opRev true := fun A st x d z a r1 h => by
  unfold VV.opRev at h
  split at h
  · split at h
    · rename_i hl
      cases h
      obtain rfl : d = .str _ := r1
      unfold opRev
      dsimp only
      rw [if_pos hl]
      exact done_str
    · cases h
  · cases h
    obtain ⟨a1, ds, rfl, n, g, r⟩ := r1
    unfold opRev
    dsimp only
    rw [lstAt_of g]
    exact done_lst a r.reverse
  · cases h
/-! functions -/
theorem one_of {v : P} {ds : List D} (h : RVs A st [v] ds) : ∃ d, ds = [d] ∧ RV A st v d := by
  obtain ⟨d, r, e, h1, h2⟩ := h
  have e2 : r = [] := h2
  subst e2
  exact ⟨d, e, h1⟩
theorem two_of {v w : P} {ds : List D} (h : RVs A st [v, w] ds) : ∃ d e, ds = [d, e] ∧ RV A st v d ∧ RV A st w e := by
  obtain ⟨d, r, e, h1, h2⟩ := h
  obtain ⟨d2, rfl, h3⟩ := one_of h2
  exact ⟨d, d2, e, h1, h3⟩
theorem fLen_seq {d : D} {es : List D} (h : seqOf st d = some es) : fLen [d] st = .ok (.int es.length) st := by
  cases d <;> first | (cases h; done) | simp [fLen, h]
theorem fList_seq {d : D} {es : List D} (h : seqOf st d = some es) : fList [d] st = alloc (.lst es) st := by
  cases d <;> first | (cases h; done) | simp [fList, h]
theorem fMax_seq {d : D} {i : Int} {is : List Int} (h : (lstOf st d).bind intsOf = some (i :: is)) : fMax [d] st = .ok (.int (maxL i is)) st := by
  cases d <;> first | (cases h; done) | simp [fMax, h]
theorem fMin_seq {d : D} {i : Int} {is : List Int} (h : (lstOf st d).bind intsOf = some (i :: is)) : fMin [d] st = .ok (.int (minL i is)) st := by
  cases d <;> first | (cases h; done) | simp [fMin, h]
theorem c_len' : OkC fLen VV.fLen true := fun A st xs ds z a r0 h => by
  unfold VV.fLen at h
  split at h
  · obtain ⟨d, rfl, r⟩ := one_of r0
    split at h
    · rename_i hl
      cases h
      obtain rfl : d = .str _ := r
      unfold fLen
      dsimp only
      rw [if_pos hl]
      exact done_int
    · cases h
  · obtain ⟨d, rfl, r⟩ := one_of r0
    obtain ⟨vs, e1, e2⟩ := Option.map_eq_some_iff.mp h
    subst e2
    obtain ⟨es, e2, r3⟩ := seq_get e1 r
    rw [fLen_seq e2, r3.length]
    exact done_int
  · cases h
theorem c_list' : OkC fList VV.fList true := fun A st xs ds z a r0 h => by
  unfold VV.fList at h
  split at h
  · obtain ⟨d, rfl, r⟩ := one_of r0
    obtain ⟨vs, e1, e2⟩ := Option.map_eq_some_iff.mp h
    subst e2
    obtain ⟨es, e2, r3⟩ := seq_get e1 r
    rw [fList_seq e2]
    exact done_lst a r3
  · cases h
theorem c_tuple' : OkC fTuple VV.fTuple true := fun A st xs ds z a r0 h => by
  unfold VV.fTuple at h
  split at h
  · obtain ⟨d, rfl, r⟩ := one_of r0
    obtain ⟨vs, e1, e2⟩ := Option.map_eq_some_iff.mp h
    subst e2
    obtain ⟨es, e2, r3⟩ := seq_get e1 r
    unfold fTuple
    dsimp only
    rw [e2]
    exact done (α := Unit) ⟨_, rfl, r3⟩ fun _ => tup_new
  · cases h
theorem c_abs' : OkC fAbs VV.fAbs true := fun A st xs ds z a r0 h => by
  unfold VV.fAbs at h
  split at h
  · obtain ⟨d, rfl, r⟩ := one_of r0
    cases h
    obtain rfl : d = .int _ := r
    exact done_int
  · cases h
theorem c_int' : OkC fInt VV.fInt true := fun A st xs ds z a r0 h => by
  unfold VV.fInt at h
  split at h
  · obtain ⟨d, rfl, r⟩ := one_of r0
    cases h
    obtain rfl : d = .int _ := r
    exact done_int
  · obtain ⟨d, rfl, r⟩ := one_of r0
    cases h
    obtain rfl : d = .bl _ := r
    exact done_int
  · cases h
theorem ints_of' : ∀ {vs : List P} {is : List Int} {ds : List D}, VV.intsOf vs = some is → RVs A st vs ds → intsOf ds = some is
  | [], is, ds, e, r => by rw [show ds = [] from r]; exact e
  | .int i :: vs, is, ds, e, ⟨d, r, e1, h1, h2⟩ => by
    obtain ⟨js, e2, e3⟩ := Option.map_eq_some_iff.mp (show (VV.intsOf vs).map (i :: ·) = some is from e)
    rw [e1, show d = .int i from h1]
    show (intsOf r).map (i :: ·) = some is
    rw [ints_of' e2 h2, ← e3]; rfl
theorem bls_of' : ∀ {vs : List P} {is : List Bool} {ds : List D}, VV.blsOf vs = some is → RVs A st vs ds → blsOf ds = some is
  | [], is, ds, e, r => by rw [show ds = [] from r]; exact e
  | .bl i :: vs, is, ds, e, ⟨d, r, e1, h1, h2⟩ => by
    obtain ⟨js, e2, e3⟩ := Option.map_eq_some_iff.mp (show (VV.blsOf vs).map (i :: ·) = some is from e)
    rw [e1, show d = .bl i from h1]
    show (blsOf r).map (i :: ·) = some is
    rw [bls_of' e2 h2, ← e3]; rfl
theorem strs_of' : ∀ {vs : List P} {is : List (List Nat)} {ds : List D}, VV.strsOf vs = some is → RVs A st vs ds → strsOf ds = some is
  | [], is, ds, e, r => by rw [show ds = [] from r]; exact e
  | .str i :: vs, is, ds, e, ⟨d, r, e1, h1, h2⟩ => by
    obtain ⟨js, e2, e3⟩ := Option.map_eq_some_iff.mp (show (VV.strsOf vs).map (i :: ·) = some is from e)
    rw [e1, show d = .str i from h1]
    show (strsOf r).map (i :: ·) = some is
    rw [strs_of' e2 h2, ← e3]; rfl
theorem lstOf_of {x : P} {d : D} {vs : List P} (h : VV.lstOf x = some vs) (r : RV A st x d) : ∃ ds, lstOf st d = some ds ∧ RVs A st vs ds := by
  cases x <;> first | cases h; done | skip
  cases h
  obtain ⟨a, ds, e, _, g, q⟩ := r
  exact ⟨ds, by rw [e]; exact lstAt_of g, q⟩
theorem lst_ints {x : P} {d : D} {is : List Int} (h : (VV.lstOf x).bind VV.intsOf = some is) (r : RV A st x d) : (lstOf st d).bind intsOf = some is := by
  obtain ⟨vs, e1, e2⟩ := Option.bind_eq_some_iff.mp h
  obtain ⟨ds, e3, r3⟩ := lstOf_of e1 r
  rw [e3]
  exact ints_of' e2 r3
theorem lst_bls {x : P} {d : D} {is : List Bool} (h : (VV.lstOf x).bind VV.blsOf = some is) (r : RV A st x d) : (lstOf st d).bind blsOf = some is := by
  obtain ⟨vs, e1, e2⟩ := Option.bind_eq_some_iff.mp h
  obtain ⟨ds, e3, r3⟩ := lstOf_of e1 r
  rw [e3]
  exact bls_of' e2 r3
theorem c_max' : OkC fMax VV.fMax true := fun A st xs ds z a r0 h => by
  unfold VV.fMax at h
  split at h
  · cases h
    obtain ⟨d, e, rfl, r1, r2⟩ := two_of r0
    obtain rfl : d = .int _ := r1
    obtain rfl : e = .int _ := r2
    exact done_int
  · obtain ⟨d, rfl, r⟩ := one_of r0
    split at h
    · rename_i i is e
      cases h
      rw [fMax_seq (lst_ints e r)]
      exact done_int
    · cases h
  · cases h
theorem c_min' : OkC fMin VV.fMin true := fun A st xs ds z a r0 h => by
  unfold VV.fMin at h
  split at h
  · cases h
    obtain ⟨d, e, rfl, r1, r2⟩ := two_of r0
    obtain rfl : d = .int _ := r1
    obtain rfl : e = .int _ := r2
    exact done_int
  · obtain ⟨d, rfl, r⟩ := one_of r0
    split at h
    · rename_i i is e
      cases h
      rw [fMin_seq (lst_ints e r)]
      exact done_int
    · cases h
  · cases h
theorem c_sum' : OkC fSum VV.fSum true := fun A st xs ds z a r0 h => by
  unfold VV.fSum at h
  split at h
  · obtain ⟨d, rfl, r⟩ := one_of r0
    obtain ⟨is, e1, e2⟩ := Option.map_eq_some_iff.mp h
    subst e2
    unfold fSum
    dsimp only
    rw [lst_ints e1 r]
    exact done_int
  · cases h
theorem c_all' : OkC fAll VV.fAll true := fun A st xs ds z a r0 h => by
  unfold VV.fAll at h
  split at h
  · obtain ⟨d, rfl, r⟩ := one_of r0
    obtain ⟨is, e1, e2⟩ := Option.map_eq_some_iff.mp h
    subst e2
    unfold fAll
    dsimp only
    rw [lst_bls e1 r]
    exact done_bl
  · cases h
theorem c_any' : OkC fAny VV.fAny true := fun A st xs ds z a r0 h => by
  unfold VV.fAny at h
  split at h
  · obtain ⟨d, rfl, r⟩ := one_of r0
    obtain ⟨is, e1, e2⟩ := Option.map_eq_some_iff.mp h
    subst e2
    unfold fAny
    dsimp only
    rw [lst_bls e1 r]
    exact done_bl
  · cases h
theorem tyOf_of {x : P} {d : D} {t : Ty} (h : VV.tyOf x = some t) (r : RV A st x d) : tyOf st d = some t := by
  cases x with
  | tup vs => cases h; obtain ⟨ds, e, _⟩ := r; rw [e]; rfl
  | lst vs =>
    cases h
    obtain ⟨a, ds, e, _, g, _⟩ := r
    rw [e]
    show tyO st[a]? = _
    rw [g]; rfl
  | strm => cases h
  | ty _ => cases h
  | _ => rw [show d = _ from r]; exact h
theorem cls_of' : ∀ {vs : List P} {ds : List D} {cs : List Ty}, (vs.mapM fun d => match d with
    | .ty n => Ty.of n
    | _ => none) = some cs → RVs A st vs ds → (ds.mapM fun d => match d with
    | .ty n => Ty.of n
    | _ => none) = some cs
  | [], ds, cs, e, r => by rw [show ds = [] from r]; exact e
  | v :: vs, ds, cs, e, ⟨d, r, e1, h1, h2⟩ => by
    rw [List.mapM_cons] at e
    obtain ⟨c, e2, e7⟩ := Option.bind_eq_some_iff.mp e
    obtain ⟨cr, e3, e8⟩ := Option.bind_eq_some_iff.mp e7
    rw [e1, List.mapM_cons, cls_of' e3 h2]
    cases v <;> first | (cases e2; done) | skip
    rename_i n
    have e9 : Ty.of n = some c := e2
    rw [show d = .ty n from h1]
    show ((Ty.of n).bind fun b => (some cr).bind fun bs => some (b :: bs)) = some cs
    rw [e9]
    exact e8
theorem clsOf_of {x : P} {d : D} {t : List Ty} (h : VV.clsOf x = some t) (r : RV A st x d) : clsOf d = some t := by
  cases x with
  | tup vs => obtain ⟨ds, e, q⟩ := r; rw [e]; exact cls_of' h q
  | lst vs => cases h
  | ty _ => rw [show d = _ from r]; exact h
  | _ => cases h
theorem c_isi' : OkC fIsi VV.fIsi true := fun A st xs ds z a r0 h => by
  unfold VV.fIsi at h
  split at h
  · obtain ⟨d, e, rfl, r1, r2⟩ := two_of r0
    split at h
    · rename_i t cs h1 h2
      cases h
      unfold fIsi
      dsimp only
      rw [tyOf_of h1 r1, clsOf_of h2 r2]
      exact done_bl
    · cases h
  · cases h
theorem p_join {x : P} {d : D} {vs : List P} {ds : List D} {z : P} (r1 : RV A st x d) (r2 : RVs A st vs ds) (h : VV.mJoin x vs = some z) : ∃ d' t, mJoin d ds st = .ok d' (st ++ t) ∧ RV A (st ++ t) z d' ∧ (true = true → Fr st.length d') := by
  unfold VV.mJoin at h
  split at h
  · obtain rfl : d = .str _ := r1
    obtain ⟨d2, rfl, r5⟩ := one_of r2
    split at h
    · rename_i ss e
      split at h
      · rename_i hl
        cases h
        obtain ⟨us, e1, e2⟩ := Option.bind_eq_some_iff.mp e
        obtain ⟨es, e3, r3⟩ := seq_get e1 r5
        unfold mJoin
        dsimp only
        rw [e3]
        rw [show (some es).bind strsOf = some ss from strs_of' e2 r3]
        dsimp only
        rw [if_pos hl]
        exact done_str
      · cases h
    · cases h
  · cases h
end
section
variable {m : Env → M D} {v : VEnv → VM P} {f : Bool} {ma : Env → M (List D)} {va : VEnv → VM (List P)}
def OkP (m : Env → M (Option Int)) (v : VEnv → VM (Option Int)) : Prop := ∀ (b : Nat) (A : List Nat) (st : Sto) (env : Env) (venv : VEnv) (s : SS) (x : Option Int) (s' : SS), AOk b A st → REv A st venv env → Str b st s → v venv s = some (x, s') →
  Got b st s' (m env st) (fun c _ => c = x)
theorem q_pnone : OkP pNone VV.pNone := fun b A st env venv s x s' a r z e => by
  cases e
  exact .same z rfl
theorem q_psome (h : OkE m v f) : OkP (pSome m) (VV.pSome v) := fun b A st env venv s x s' a r z e => by
  obtain ⟨x1, s1, e1, e2⟩ := bd_inv e
  obtain ⟨i, s2, e3, e4⟩ := bd_inv e2
  obtain ⟨e5, e6⟩ := lift_inv e3
  subst e6
  cases e4
  refine (h _ _ _ _ _ _ _ _ a r z e1).bind fun d st1 k z1 q => ?_
  cases x1 <;> first | (cases e5; done) | skip
  cases e5
  have e7 : d = .int i := q.1
  subst e7
  exact .same z1 rfl
theorem q_sl {ml mh : Env → M (Option Int)} {vl vh : VEnv → VM (Option Int)} (h : OkE m v f) (h1 : OkP ml vl) (h2 : OkP mh vh) : OkE (eSl m ml mh) (VV.eSl v vl vh) true := fun b A st env venv s x s' a r z e => by
  obtain ⟨x1, s1, e1, e2⟩ := bd_inv e
  obtain ⟨l, s2, e3, e4⟩ := bd_inv e2
  obtain ⟨u, s3, e5, e6⟩ := bd_inv e4
  obtain ⟨e7, e8⟩ := lift_inv e6
  subst e8
  refine (h _ _ _ _ _ _ _ _ a r z e1).bind fun d st1 k z1 q => (h1 _ _ _ _ _ _ _ _ (a.mono k.1) (r.mono k a.lo) z1 e3).bind fun l' st2 k2 z2 q2 =>
    (h2 _ _ _ _ _ _ _ _ ((a.mono k.1).mono k2.1) ((r.mono k a.lo).mono k2 a.lo) z2 e5).bind fun u' st3 k3 z3 q3 => ?_
  subst q2 q3
  exact .lift (((k.trans k2).trans k3).1) (p_sl (a.mono ((k.trans k2).trans k3).1).hi (q.1.mono (k2.trans k3).any a.lo) e7) z3
theorem q_join {me : Env → M D} {ve : VEnv → VM P} (h : OkE me ve f) (h2 : OkA ma va) : OkE (eMeth "str" mJoin me ma) (VV.eMeth "str" VV.mJoin ve va) true := fun b A st env venv s x s' a r z e => by
  obtain ⟨x1, s1, e1, e2⟩ := bd_inv e
  split at e2
  · rename_i ht
    obtain ⟨xs, s2, e3, e4⟩ := bd_inv e2
    obtain ⟨e7, e8⟩ := lift_inv e4
    subst e8
    refine (h _ _ _ _ _ _ _ _ a r z e1).bind fun d st1 k z1 q => ?_
    have hd : isTy "str" st1 d = true := by
      cases x1 <;> first | (cases ht; done) | skip
      rw [show d = .str _ from q.1]; rfl
    rw [if_pos hd]
    refine (h2 _ _ _ _ _ _ _ _ (a.mono k.1) (r.mono k a.lo) z1 e3).bind fun ds st2 k2 z2 q2 => ?_
    exact .lift ((k.trans k2).1) (p_join (q.1.mono k2.any a.lo) q2 e7) z2
  · cases e2
end
end MM

/-! What is walked, comprehensions, calls, statements on plain values. -/
namespace MM
open PySem PySem.Spec PyProof.Rows L2

namespace VV
def itemsOf : P → Option (List P)
  | .lst vs => some vs
  | .tup vs => some vs
  | .str s => some (s.map fun c => .str [c])
  | _ => none
def srcSeq (e : VEnv → VM P) : VEnv → VM (List P) := fun env s => bd (e env s) fun d s => lift (itemsOf d) s
def rngL (lo : Int) (n : Nat) : List P := (List.range n).map fun i => .int (lo + (i : Nat))
def srcRange1 (a : VEnv → VM (List P)) : VEnv → VM (List P) := fun env s => bd (a env s) fun ds s => match ds with
  | [.int j] => if small j then some (rngL 0 j.toNat, s) else none
  | _ => none
def srcRange2 (a : VEnv → VM (List P)) : VEnv → VM (List P) := fun env s => bd (a env s) fun ds s => match ds with
  | [.int i, .int j] => if small i && small j then some (rngL i (j - i).toNat, s) else none
  | _ => none
def pairsOf : List P → List P → List P
  | a :: as, b :: bs => .tup [a, b] :: pairsOf as bs
  | _, _ => []
def countOf : Nat → List P → List P
  | _, [] => []
  | n, a :: as => .tup [.int (n : Nat), a] :: countOf (n + 1) as
def srcZip (a : VEnv → VM (List P)) : VEnv → VM (List P) := fun env s => bd (a env s) fun ds s => match ds with
  | [x, y] => (match itemsOf x, itemsOf y with
    | some u, some v => some (pairsOf u v, s)
    | _, _ => none)
  | _ => none
def isTup : P → Bool
  | .tup _ => true
  | _ => false
def srcEnum (a : VEnv → VM (List P)) : VEnv → VM (List P) := fun env s => bd (a env s) fun ds s => match ds with
  | [x] => if isTup x then none else (match itemsOf x with
    | some u => some (countOf 0 u, s)
    | none => none)
  | _ => none
/-! targets: what is bound -/
abbrev VT := P → Option (List (Nat × P))
def tName (i : Nat) : VT := fun x => some [(i, x)]
def tsNil : List P → Option (List (Nat × P)) := fun ds => match ds with
  | [] => some []
  | _ => none
def tsCons (t : VT) (r : List P → Option (List (Nat × P))) : List P → Option (List (Nat × P)) := fun ds => match ds with
  | d :: ds => (t d).bind fun a => (r ds).map fun b => a ++ b
  | [] => none
def tTup (n : Nat) (r : List P → Option (List (Nat × P))) : VT := fun d => match d with
  | .tup ds => if ds.length = n then r ds else none
  | _ => none
def sets (env : VEnv) : List (Nat × P) → VEnv
  | [] => env
  | (i, x) :: r => sets (env.set i (some x)) r
def wipeE (env : VEnv) (vs : List Nat) : VEnv := vs.foldr (fun v e => e.set v none) env
def lcL (tg : VT) (t : VEnv → VM Bool) (e : VEnv → VM P) (env : VEnv) : List P → VM (List P)
  | [] => fun s => some ([], s)
  | d :: ds => fun s => bd (lift (tg d) s) fun bs s => bd (t (sets env bs) s) fun c s =>
      if c then bd (e (sets env bs) s) fun y s => bd (lcL tg t e env ds s) fun r s => some (y :: r, s) else lcL tg t e env ds s
def eLc (src : VEnv → VM (List P)) (tg : VT) (vs : List Nat) (t : VEnv → VM Bool) (e : VEnv → VM P) : VEnv → VM P := fun env s => bd (src env s) fun x s =>
  if x.length ≤ lim then bd (lcL tg t e (wipeE env vs) x s) fun r s => some (.lst r, s) else none
def tYes : VEnv → VM Bool := fun _ s => some (true, s)
def eCall (n : Nat) (g : List P → VM P) (a : VEnv → VM (List P)) : VEnv → VM P := fun env s => bd (a env s) fun ds s => if ds.length = n then g ds s else none
def eCallK (n m np : Nat) (idx : List Nat) (g : List P → VM P) (a b : VEnv → VM (List P)) : VEnv → VM P := fun env s => bd (a env s) fun ds s => bd (b env s) fun es s =>
  if ds.length = n ∧ es.length = m ∧ (perm idx (ds ++ es)).length = np then g (perm idx (ds ++ es)) s else none
end VV

section
variable {m : Env → M D} {v : VEnv → VM P} {f : Bool} {ma mb : Env → M (List D)} {va vb : VEnv → VM (List P)} {A : List Nat} {st : Sto}
theorem items_of {x : P} {d : D} {vs : List P} {b : Nat} (lo : ∀ i, i < b → i ∈ A) (h : VV.itemsOf x = some vs) (r : RV A st x d) : ∃ u : Src, itemsOf d st = some u ∧ RVs A st vs u.1 ∧ ∀ st'', KpA b A st st'' → u.2 st'' = true := by
  cases x <;> first | (cases h; done) | skip
  · cases h
    obtain rfl : d = .str _ := r
    exact ⟨_, rfl, RVs.strs _, fun _ _ => rfl⟩
  · cases h
    obtain ⟨ds, rfl, q⟩ := r
    exact ⟨_, rfl, q, fun _ _ => rfl⟩
  · cases h
    obtain ⟨a, ds, rfl, n, g, q⟩ := r
    refine ⟨(ds, stands a ds), ?_, q, fun st'' k => stands_iff.mpr (lstAt_of (k.get lo n g))⟩
    show (lstAt st a).map _ = _
    rw [lstAt_of g]; rfl
theorem q_iseq (h : OkE m v f) : OkI (srcSeq m) (VV.srcSeq v) false := fun b A st env venv s x s' a r z e => by
  obtain ⟨x1, s1, e1, e2⟩ := bd_inv e
  obtain ⟨e3, e4⟩ := lift_inv e2
  subst e4
  refine (h _ _ _ _ _ _ _ _ a r z e1).bind fun d st1 k z1 q => ?_
  obtain ⟨u, e5, r5, g5⟩ := items_of a.lo e3 q.1
  rw [e5]
  exact .same z1 ⟨r5, g5, fun z => nomatch z⟩
theorem rng_of (lo : Int) : ∀ n : Nat, RVs A st (VV.rngL lo n) (rngL lo n) := by
  intro n
  unfold VV.rngL rngL
  have h : ∀ l : List Nat, RVs A st (l.map fun i => P.int (lo + (i : Nat))) (l.map fun i => D.int (lo + (i : Nat))) := by
    intro l
    induction l with
    | nil => exact rfl
    | cons i l ih => exact ⟨_, _, rfl, rfl, ih⟩
  exact h _
theorem q_irange1 (h : OkA ma va) : OkI (srcRange1 ma) (VV.srcRange1 va) true := fun b A st env venv s x s' a r z e => by
  obtain ⟨x1, s1, e1, e2⟩ := bd_inv e
  split at e2 <;> first | (cases e2; done) | skip
  split at e2 <;> first | (cases e2; done) | skip
  rename_i hs
  cases e2
  refine (h _ _ _ _ _ _ _ _ a r z e1).bind fun ds st1 k z1 q => ?_
  obtain ⟨d, rfl, q9⟩ := one_of q
  obtain rfl : d = .int _ := q9
  dsimp only
  rw [if_pos hs]
  exact .same z1 ⟨rng_of _ _, fun _ _ => rfl, fun _ _ => rfl⟩
theorem q_irange2 (h : OkA ma va) : OkI (srcRange2 ma) (VV.srcRange2 va) true := fun b A st env venv s x s' a r z e => by
  obtain ⟨x1, s1, e1, e2⟩ := bd_inv e
  split at e2 <;> first | (cases e2; done) | skip
  split at e2 <;> first | (cases e2; done) | skip
  rename_i hs
  cases e2
  refine (h _ _ _ _ _ _ _ _ a r z e1).bind fun ds st1 k z1 q => ?_
  obtain ⟨d, d2, rfl, q, q2⟩ := two_of q
  obtain rfl : d = .int _ := q
  obtain rfl : d2 = .int _ := q2
  dsimp only
  rw [if_pos hs]
  exact .same z1 ⟨rng_of _ _, fun _ _ => rfl, fun _ _ => rfl⟩
theorem pairs_of : ∀ {us vs : List P} {ds es : List D}, RVs A st us ds → RVs A st vs es → RVs A st (VV.pairsOf us vs) (pairsOf ds es)
  | [], vs, ds, es, h, k => by rw [show ds = [] from h]; exact rfl
  | u :: us, [], ds, es, ⟨d, r, e, h1, h2⟩, k => by rw [e, show es = [] from k]; exact rfl
  | u :: us, v :: vs, ds, es, ⟨d, r, e, h1, h2⟩, ⟨d', r', e', k1, k2⟩ => by
    rw [e, e']
    exact ⟨_, _, rfl, ⟨_, rfl, d, _, rfl, h1, d', _, rfl, k1, rfl⟩, pairs_of h2 k2⟩
theorem count_of : ∀ {us : List P} {ds : List D} {n : Nat}, RVs A st us ds → RVs A st (VV.countOf n us) (countOf n ds)
  | [], ds, n, h => by rw [show ds = [] from h]; exact rfl
  | u :: us, ds, n, ⟨d, r, e, h1, h2⟩ => by
    rw [e]
    exact ⟨_, _, rfl, ⟨_, rfl, .int n, _, rfl, rfl, d, _, rfl, h1, rfl⟩, count_of h2⟩
theorem q_izip (h : OkA ma va) : OkI (srcZip ma) (VV.srcZip va) false := fun b A st env venv s x s' a r z e => by
  obtain ⟨x1, s1, e1, e2⟩ := bd_inv e
  split at e2 <;> first | (cases e2; done) | skip
  split at e2 <;> first | (cases e2; done) | skip
  rename_i u v h1 h2
  cases e2
  refine (h _ _ _ _ _ _ _ _ a r z e1).bind fun ds st1 k z1 q => ?_
  obtain ⟨d, d2, rfl, q, q2⟩ := two_of q
  obtain ⟨u1, e5, r5, g5⟩ := items_of a.lo h1 q
  obtain ⟨u2, e6, r6, g6⟩ := items_of a.lo h2 q2
  dsimp only
  rw [e5, e6]
  exact .same z1 ⟨pairs_of r5 r6, fun st'' k'' => by show (u1.2 st'' && u2.2 st'') = true; rw [g5 _ k'', g6 _ k'']; rfl, fun z => nomatch z⟩
theorem isTup_of {x : P} {d : D} (r : RV A st x d) : isTup d = VV.isTup x := by
  cases x with
  | tup vs => obtain ⟨ds, e, _⟩ := r; rw [e]; rfl
  | lst vs => obtain ⟨a, ds, e, _⟩ := r; rw [e]; rfl
  | _ => rw [show d = _ from r]; rfl
theorem q_ienum (h : OkA ma va) : OkI (srcEnum ma) (VV.srcEnum va) false := fun b A st env venv s x s' a r z e => by
  obtain ⟨x1, s1, e1, e2⟩ := bd_inv e
  split at e2 <;> first | (cases e2; done) | skip
  split at e2 <;> first | (cases e2; done) | skip
  rename_i ht
  split at e2 <;> first | (cases e2; done) | skip
  rename_i u h1
  cases e2
  refine (h _ _ _ _ _ _ _ _ a r z e1).bind fun ds st1 k z1 q => ?_
  obtain ⟨d, rfl, q9⟩ := one_of q
  obtain ⟨u1, e5, r5, g5⟩ := items_of a.lo h1 q9
  dsimp only
  rw [if_neg (by rw [isTup_of q9]; exact ht), e5]
  exact .same z1 ⟨count_of r5, g5, fun z => nomatch z⟩
theorem q_ibad {msrc : Env → M Src} : OkI msrc (fun _ _ => none) true := fun b A st env venv s y s' a r z e => nomatch e
end

/-! ### targets -/
def setsD (env : Env) : List (Nat × D) → Env
  | [] => env
  | (i, x) :: r => setsD (env.set i (some x)) r
def RBs (A : List Nat) (st : Sto) : List (Nat × P) → List (Nat × D) → Prop
  | [], ds => ds = []
  | (i, x) :: r, ds => ∃ d q, ds = (i, d) :: q ∧ RV A st x d ∧ RBs A st r q
def OkG (t : Tgt) (vt : VV.VT) : Prop := ∀ (A : List Nat) (st : Sto) (d : D) (x : P) (bs : List (Nat × P)) (env : Env), RV A st x d → vt x = some bs → ∃ ds, t d env st = .ok (setsD env ds) st ∧ RBs A st bs ds
def OkGs (t : List D → Env → M Env) (vt : List P → Option (List (Nat × P))) : Prop := ∀ (A : List Nat) (st : Sto) (d : List D) (x : List P) (bs : List (Nat × P)) (env : Env), RVs A st x d → vt x = some bs → ∃ ds, t d env st = .ok (setsD env ds) st ∧ RBs A st bs ds
section
variable {A : List Nat} {st : Sto} {t : Tgt} {vt : VV.VT} {ts : List D → Env → M Env} {vts : List P → Option (List (Nat × P))}
theorem setsD_app : ∀ (a b : List (Nat × D)) (env : Env), setsD env (a ++ b) = setsD (setsD env a) b
  | [], b, env => rfl
  | (i, x) :: a, b, env => setsD_app a b _
theorem RBs.app : ∀ {a b : List (Nat × P)} {c d : List (Nat × D)}, RBs A st a c → RBs A st b d → RBs A st (a ++ b) (c ++ d)
  | [], b, c, d, h, k => by rw [show c = [] from h]; exact k
  | (i, x) :: a, b, c, d, ⟨d1, q, e, h1, h2⟩, k => by rw [e]; exact ⟨d1, q ++ d, rfl, h1, RBs.app h2 k⟩
theorem q_tname {i : Nat} : OkG (tName i) (VV.tName i) := fun A st d x bs env r e => by
  cases e
  exact ⟨[(i, d)], rfl, d, [], rfl, r, rfl⟩
theorem q_tsnil : OkGs tsNil VV.tsNil := fun A st d x bs env r e => by
  unfold VV.tsNil at e
  split at e
  · cases e
    rw [show d = [] from r]
    exact ⟨[], rfl, rfl⟩
  · cases e
theorem q_tscons (h : OkG t vt) (k : OkGs ts vts) : OkGs (tsCons t ts) (VV.tsCons vt vts) := fun A st d x bs env r e => by
  unfold VV.tsCons at e
  split at e
  · obtain ⟨a, e1, e2⟩ := Option.bind_eq_some_iff.mp e
    obtain ⟨b, e3, e4⟩ := Option.map_eq_some_iff.mp e2
    subst e4
    obtain ⟨d1, r1, e5, h1, h2⟩ := r
    subst e5
    obtain ⟨da, e6, q6⟩ := h A st d1 _ a env h1 e1
    obtain ⟨db, e7, q7⟩ := k A st r1 _ b (setsD env da) h2 e3
    refine ⟨da ++ db, ?_, q6.app q7⟩
    rw [setsD_app]
    unfold tsCons
    dsimp only
    rw [e6]
    exact e7
  · cases e
theorem q_ttup {n : Nat} (k : OkGs ts vts) : OkG (tTup n ts) (VV.tTup n vts) := fun A st d x bs env r e => by
  unfold VV.tTup at e
  split at e
  · split at e
    · rename_i hl
      obtain ⟨ds, rfl, q⟩ := r
      obtain ⟨da, e6, q6⟩ := k A st ds _ bs env q e
      refine ⟨da, ?_, q6⟩
      unfold tTup
      dsimp only
      rw [if_pos (by rw [q.length]; exact hl)]
      exact e6
    · cases e
  · cases e
theorem q_gbad {t : Tgt} : OkG t fun _ => none := fun A st d x bs env r e => nomatch e
theorem REv.sets : ∀ {bs : List (Nat × P)} {ds : List (Nat × D)} {venv : VEnv} {env : Env}, REv A st venv env → RBs A st bs ds → REv A st (VV.sets venv bs) (setsD env ds)
  | [], ds, venv, env, h, k => by rw [show ds = [] from k]; exact h
  | (i, x) :: r, ds, venv, env, h, ⟨d, q, e, h1, h2⟩ => by
    rw [e]
    have h3 : REv A st (VV.sets (venv.set i (some x)) r) (setsD (env.set i (some d)) q) := REv.sets (bs := r) (ds := q) (venv := venv.set i (some x)) (env := env.set i (some d)) (REv.set h i h1) h2
    exact h3
theorem REv.wipe {venv : VEnv} {env : Env} (h : REv A st venv env) : ∀ vs : List Nat, REv A st (VV.wipeE venv vs) (wipeE env vs)
  | [] => h
  | v :: vs => (REv.wipe h vs).wipe1 v
end

/-! ### comprehensions, calls -/
section
variable {m m1 : Env → M D} {v v1 : VEnv → VM P} {f fr ng : Bool} {ma mb : Env → M (List D)} {va vb : VEnv → VM (List P)} {t : Tgt} {vt : VV.VT} {u : Env → M Bool} {vu : VEnv → VM Bool} {ms : Env → M Src} {vs' : VEnv → VM (List P)}
theorem q_yes : OkT tYes VV.tYes := fun b A st env venv s x s' a r z e => by
  cases e
  exact .same z rfl
theorem lc_of (hg : OkG t vt) (hu : OkT u vu) (he : OkE m v f) {b : Nat} {A : List Nat} {env : Env} {venv : VEnv} {g : Sto → Bool} : ∀ (xs : List P) (ds : List D) (st : Sto) (s s' : SS) (ys : List P), AOk b A st → REv A st venv env → Str b st s →
    RVs A st xs ds → (∀ st'', KpA b A st st'' → g st'' = true) → VV.lcL vt vu v venv xs s = some (ys, s') → Got b st s' (lcL g t u m env ds st) (fun es st' => RVs A st' ys es)
  | [], ds, st, s, s', ys, a, r, z, rx, hgd, e => by
    cases e
    rw [show ds = [] from rx]
    unfold lcL
    rw [if_pos (hgd st .refl)]
    exact .same z rfl
  | x :: xs, ds, st, s, s', ys, a, r, z, ⟨d, dr, e0, h1, h2⟩, hgd, e => by
    obtain ⟨bs, s1, e1, e2⟩ := bd_inv e
    obtain ⟨e3, e4⟩ := lift_inv e1
    subst e4
    obtain ⟨c, s2, e5, e6⟩ := bd_inv e2
    subst e0
    unfold lcL
    rw [if_pos (hgd st .refl)]
    obtain ⟨db, e7, q7⟩ := hg A st d x bs env h1 e3
    rw [e7]
    show Got b st s' ((u (setsD env db) st).bind _) _
    have r1 := r.sets q7
    refine (hu _ _ _ _ _ _ _ _ a r1 z e5).bind fun c' st1 k z1 q => ?_
    subst q
    have r2 := r.mono k a.lo
    have hgd1 : ∀ st'', KpA b A st1 st'' → g st'' = true := fun st'' k'' => hgd st'' (k.any.trans k'')
    cases c' with
    | true =>
      obtain ⟨y, s3, e8, e9⟩ := bd_inv e6
      obtain ⟨yr, s4, e10, e11⟩ := bd_inv e9
      cases e11
      refine (he _ _ _ _ _ _ _ _ (a.mono k.1) (r1.mono k a.lo) z1 e8).bind fun d' st2 k2 z2 q2 => ?_
      have k12 := k.trans k2
      refine (lc_of hg hu he xs dr st2 s3 _ yr (a.mono k12.1) (r.mono k12 a.lo) z2 (h2.mono k12.any a.lo) (fun st'' k'' => hgd st'' (k12.any.trans k'')) e10).bind fun es st3 k3 z3 q3 => ?_
      exact .same z3 ⟨d', es, rfl, q2.1.mono k3.any a.lo, q3⟩
    | false => exact lc_of hg hu he xs dr st1 _ _ ys (a.mono k.1) r2 z1 (h2.mono k.any a.lo) hgd1 e6
theorem q_lc {vs : List Nat} (hi : OkI ms vs' ng) (hg : OkG t vt) (hu : OkT u vu) (he : OkE m v f) : OkE (eLc ms t vs u m) (VV.eLc vs' vt vs vu v) true := fun b A st env venv s x s' a r z e => by
  obtain ⟨x1, s1, e1, e2⟩ := bd_inv e
  split at e2 <;> first | (cases e2; done) | skip
  rename_i hl
  obtain ⟨ys, s2, e3, e4⟩ := bd_inv e2
  cases e4
  refine (hi _ _ _ _ _ _ _ _ a r z e1).bind fun src st1 k z1 q => ?_
  rw [if_pos (by rw [q.1.length]; exact hl)]
  obtain ⟨es, st2, e5, k2, z2, q2⟩ := lc_of hg hu he (g := src.2) x1 src.1 st1 s1 _ ys (a.mono k.1) ((r.mono k a.lo).wipe vs) z1 q.1 q.2.1 e3
  have k12 := k.trans k2
  refine ⟨.ref st2.length, st2 ++ [.lst es], ?_, k2.trans .app, z2.app, (new_lst (a.mono k12.1).hi q2).1, fun _ => ?_⟩
  · rw [e5]; rfl
  · intro a' e'; cases e'; exact k12.1
theorem q_call {n : Nat} {g : List D → M D} {vg : List P → VM P} (hg : OkF g vg fr) (h : OkA ma va) : OkE (eCall n g ma) (VV.eCall n vg va) fr := fun b A st env venv s x s' a r z e => by
  obtain ⟨x1, s1, e1, e2⟩ := bd_inv e
  split at e2 <;> first | (cases e2; done) | skip
  rename_i hl
  refine (h _ _ _ _ _ _ _ _ a r z e1).bind fun ds st1 k z1 q => ?_
  rw [if_pos (by rw [q.length]; exact hl)]
  exact (hg _ _ _ _ _ _ _ _ (a.mono k.1) q z1 e2).imp fun d st' k' q' => q'.le k.1
theorem RVs.perm {A : List Nat} {st : Sto} {vs : List P} {ds : List D} (r : RVs A st vs ds) : ∀ idx : List Nat, RVs A st (perm idx vs) (perm idx ds)
  | [] => rfl
  | i :: idx => by
    have ih := RVs.perm r idx
    unfold MM.perm
    rw [List.filterMap_cons, List.filterMap_cons]
    cases e : vs[i]? with
    | some d =>
      obtain ⟨v, e2, r2⟩ := r.get e
      rw [e2]
      exact ⟨v, _, rfl, r2, ih⟩
    | none =>
      rw [r.none e]
      exact ih
theorem q_callK {n m' np : Nat} {idx : List Nat} {g : List D → M D} {vg : List P → VM P} (hg : OkF g vg fr) (h : OkA ma va) (h2 : OkA mb vb) : OkE (eCallK n m' np idx g ma mb) (VV.eCallK n m' np idx vg va vb) fr := fun b A st env venv s x s' a r z e => by
  obtain ⟨x1, s1, e1, e2⟩ := bd_inv e
  obtain ⟨x2, s2, e3, e4⟩ := bd_inv e2
  split at e4 <;> first | (cases e4; done) | skip
  rename_i hl
  refine (h _ _ _ _ _ _ _ _ a r z e1).bind fun ds st1 k z1 q => (h2 _ _ _ _ _ _ _ _ (a.mono k.1) (r.mono k a.lo) z1 e3).bind fun es st2 k2 z2 q2 => ?_
  have q3 := (q.mono k2.any a.lo).append q2
  rw [if_pos (by rw [q.length, q2.length, (RVs.perm q3 idx).length]; exact hl)]
  exact (hg _ _ _ _ _ _ _ _ (a.mono (k.trans k2).1) (RVs.perm q3 idx) z2 e4).imp fun d st' k' q' => q'.le (k.trans k2).1
end
end MM

/-! Statements on plain values: a name holds a value, or a list that is its own. -/
namespace MM
open PySem PySem.Spec PyProof.Rows L2

/-- a name holds a value; a list of its own; something new that may be spoilt -/
inductive Sl where
  | val (x : P) | own (xs : List P) | tmp (x : P)
abbrev VS := List (Option Sl)
inductive VFl where
  | nx (env : VS) | ret (d : P) | brk (env : VS) | ct (env : VS)
abbrev VSM := VS → VM VFl
namespace VV
def vis1 (env : VS) : VEnv := env.map fun o => match o with
  | some (.val x) => some x
  | _ => none
def vis2 (env : VS) : VEnv := env.map fun o => match o with
  | some (.val x) => some x
  | some (.own xs) => some (.lst xs)
  | some (.tmp x) => some x
  | none => none
def vis (b : Bool) (env : VS) : VEnv := if b then vis2 env else vis1 env
/-- what a name takes: o, a list of its own; b, the names' own lists may have been read -/
def mkSl (o b : Bool) (x : P) : Option Sl := match o, b with
  | false, false => some (.val x)
  | false, true => if flat x then some (.val x) else none
  | true, _ => (match x with
    | .lst xs => if flats xs then some (.own xs) else none
    | _ => none)
def sNil : VSM := fun env s => some (.nx env, s)
def sSeq (a b : VSM) : VSM := fun env s => bd (a env s) fun fl s => match fl with
  | .nx env => b env s
  | fl => some (fl, s)
def sl (o b : Bool) (e : VEnv → VM P) (env : VS) : VM Sl := fun s => bd (e (vis b env) s) fun x s => lift (mkSl o b x) s
def sSet (i : Nat) (o b : Bool) (e : VEnv → VM P) : VSM := fun env s => bd (sl o b e env s) fun x s => some (.nx (env.set i (some x)), s)
def sPar (i j : Nat) (o1 b1 : Bool) (e1 : VEnv → VM P) (o2 b2 : Bool) (e2 : VEnv → VM P) : VSM := fun env s => bd (sl o1 b1 e1 env s) fun x s => bd (sl o2 b2 e2 env s) fun y s =>
  some (.nx ((env.set i (some x)).set j (some y)), s)
def frz (i : Nat) (env : VS) : VS := match env[i]? with
  | some (some (.own xs)) => env.set i (some (.val (.lst xs)))
  | _ => env
def sFrz (i : Nat) (b : VSM) : VSM := fun env s => b (frz i env) s
def ownAt (i : Nat) (env : VS) : Option (List P) := match env[i]? with
  | some (some (.own xs)) => some xs
  | _ => none
def sApp (i : Nat) (b : Bool) (e : VEnv → VM P) : VSM := fun env s => bd (e (vis b env) s) fun x s => match ownAt i env with
  | some xs => if (!b || flat x) && decide (xs.length < lim) then some (.nx (env.set i (some (.own (xs ++ [x])))), s) else none
  | none => none
def sExt (i : Nat) (b : Bool) (e : VEnv → VM P) : VSM := fun env s => bd (e (vis b env) s) fun x s => match ownAt i env, x with
  | some xs, .lst ys => if (!b || flats ys) && decide (xs.length + ys.length ≤ lim) then some (.nx (env.set i (some (.own (xs ++ ys)))), s) else none
  | _, _ => none
/-- x[k] = e -/
def sSub (i : Nat) (b : Bool) (e k : VEnv → VM P) : VSM := fun env s => bd (e (vis b env) s) fun x s => bd (k (vis2 env) s) fun y s => match ownAt i env, y with
  | some xs, .int n => (match ixN xs.length n with
    | some j => if !b || flat x then some (.nx (env.set i (some (.own (xs.set j x)))), s) else none
    | none => none)
  | _, _ => none
/-- the place that pop takes -/
def popAt (xs : List P) (k : Int) : Option Nat := if -(2 ^ 63) ≤ k ∧ k < 2 ^ 63 then seqIndex? k xs.length else none
/-- x.append(y.pop(k)) -/
def sAppPop (i j : Nat) (k : VEnv → VM P) : VSM := fun env s => bd (k (vis2 env) s) fun y s => match ownAt i env, ownAt j env, y with
  | some xs, some ys, .int n => (match popAt ys n with
    | some l => (match ys[l]? with
      | some x => if i ≠ j ∧ xs.length < lim then some (.nx ((env.set j (some (.own (ys.eraseIdx l)))).set i (some (.own (xs ++ [x])))), s) else none
      | none => none)
    | none => none)
  | _, _, _ => none
def sExpr (e : VEnv → VM P) : VSM := fun env s => bd (e (vis2 env) s) fun _ s => some (.nx env, s)
def sRet (e : VEnv → VM P) : VSM := fun env s => bd (e (vis2 env) s) fun x s => some (.ret x, s)
def sRetO (i : Nat) : VSM := fun env s => match ownAt i env with
  | some xs => some (.ret (.lst xs), s)
  | none => none
def sRetN : VSM := fun env s => some (.ret .non, s)
def sBrk : VSM := fun env s => some (.brk env, s)
def sCt : VSM := fun env s => some (.ct env, s)
def sBad : VSM := fun _ _ => none
def sIf (t : VEnv → VM Bool) (a b : VSM) : VSM := fun env s => bd (t (vis2 env) s) fun c s => if c then a env s else b env s
def whileN (t : VEnv → VM Bool) (b : VSM) : Nat → VSM
  | 0 => fun _ _ => none
  | n + 1 => fun env s => bd (t (vis2 env) s) fun c s => if c then bd (b env s) fun fl s => (match fl with
      | .nx env => whileN t b n env s
      | .ct env => whileN t b n env s
      | .brk env => some (.nx env, s)
      | .ret d => some (.ret d, s)) else some (.nx env, s)
def sWhile (t : VEnv → VM Bool) (b : VSM) : VSM := whileN t b fuel
def setS (env : VS) : List (Nat × P) → VS
  | [] => env
  | (i, x) :: r => setS (env.set i (some (.val x))) r
def forL (tg : VT) (b : VSM) : List P → VSM
  | [] => fun env s => some (.nx env, s)
  | d :: ds => fun env s => bd (lift (tg d) s) fun bs s => bd (b (setS env bs) s) fun fl s => (match fl with
      | .nx env => forL tg b ds env s
      | .ct env => forL tg b ds env s
      | .brk env => some (.nx env, s)
      | .ret d => some (.ret d, s))
def sFor (b : Bool) (src : VEnv → VM (List P)) (tg : VT) (body : VSM) : VSM := fun env s => bd (src (vis b env) s) fun x s => if !b || flats x then forL tg body x env s else none
def sAsg (b : Bool) (e : VEnv → VM P) (t : VT) : VSM := fun env s => bd (e (vis b env) s) fun x s => if !b || flat x then bd (lift (t x) s) fun bs s => some (.nx (setS env bs), s) else none
def start (n : Nat) (ds : List P) : VS := ds.map (fun d => some (.val d)) ++ List.replicate (n - ds.length) none
def fnM (n : Nat) (b : VSM) : List P → VM P := fun ds s => bd (b (start n ds) s) fun fl s => match fl with
  | .nx _ => some (.non, s)
  | .ret d => some (d, s)
  | _ => none
end VV

/-! ### what ties the names -/
structure Lk (b n0 : Nat) (A0 A : List Nat) (st : Sto) : Prop where
  bn : b ≤ n0
  nl : n0 ≤ st.length
  a0 : ∀ a ∈ A0, a < n0
  lo : ∀ i, i < b → i ∈ A0
  sub : ∀ a ∈ A0, a ∈ A
  hi : ∀ a ∈ A, a < st.length
theorem Lk.ok {b n0 : Nat} {A0 A : List Nat} {st : Sto} (h : Lk b n0 A0 A st) : AOk b A st := ⟨fun i hi => h.sub i (h.lo i hi), h.hi⟩
theorem Lk.ok0 {b n0 : Nat} {A0 A : List Nat} {st : Sto} (h : Lk b n0 A0 A st) : AOk b A0 st := ⟨h.lo, fun a ha => Nat.lt_of_lt_of_le (h.a0 a ha) h.nl⟩
theorem Lk.mono {b n0 : Nat} {A0 A : List Nat} {st st' : Sto} (h : Lk b n0 A0 A st) (k : st.length ≤ st'.length) : Lk b n0 A0 A st' := ⟨h.bn, Nat.le_trans h.nl k, h.a0, h.lo, h.sub, fun a ha => Nat.lt_of_lt_of_le (h.hi a ha) k⟩
theorem Lk.cons {b n0 : Nat} {A0 A : List Nat} {st : Sto} (h : Lk b n0 A0 A st) {a : Nat} (ha : a < st.length) : Lk b n0 A0 (a :: A) st := ⟨h.bn, h.nl, h.a0, h.lo, fun c hc => List.mem_cons_of_mem _ (h.sub c hc), fun c hc => by
  rcases List.mem_cons.mp hc with e | e
  · rw [e]; exact ha
  · exact h.hi c e⟩
mutual
/-- all lists stand at places of C -/
def RT (C : List Nat) (st : Sto) : P → D → Prop
  | .non, d => d = .non
  | .bl x, d => d = .bl x
  | .int x, d => d = .int x
  | .str x, d => d = .str x
  | .ty x, d => d = .ty x
  | .strm, d => d = .ref 1
  | .tup vs, d => ∃ ds, d = .tup ds ∧ RTs C st vs ds
  | .lst vs, d => ∃ a ds, d = .ref a ∧ a ∈ C ∧ st[a]? = some (.lst ds) ∧ RTs C st vs ds
def RTs (C : List Nat) (st : Sto) : List P → List D → Prop
  | [], ds => ds = []
  | v :: vs, ds => ∃ d r, ds = d :: r ∧ RT C st v d ∧ RTs C st vs r
end
section
variable {C C' A : List Nat} {st st' : Sto}
mutual
theorem RT.mono (k : ∀ a o, a ∈ C → st[a]? = some o → st'[a]? = some o) (hc : ∀ a ∈ C, a ∈ C') : ∀ (x : P) (d : D), RT C st x d → RT C' st' x d
  | .non, _, h => h
  | .bl _, _, h => h
  | .int _, _, h => h
  | .str _, _, h => h
  | .ty _, _, h => h
  | .strm, _, h => h
  | .tup vs, d, ⟨ds, e, r⟩ => ⟨ds, e, RTs.mono k hc vs ds r⟩
  | .lst vs, d, ⟨a, ds, e, m, g, r⟩ => ⟨a, ds, e, hc a m, k a _ m g, RTs.mono k hc vs ds r⟩
theorem RTs.mono (k : ∀ a o, a ∈ C → st[a]? = some o → st'[a]? = some o) (hc : ∀ a ∈ C, a ∈ C') : ∀ (x : List P) (d : List D), RTs C st x d → RTs C' st' x d
  | [], _, h => h
  | v :: vs, ds, ⟨d, r, e, h1, h2⟩ => ⟨d, r, e, RT.mono k hc v d h1, RTs.mono k hc vs r h2⟩
end
mutual
theorem RT.rv (hc : ∀ a ∈ C, a ∉ A) : ∀ (x : P) (d : D), RT C st x d → RV A st x d
  | .non, _, h => h
  | .bl _, _, h => h
  | .int _, _, h => h
  | .str _, _, h => h
  | .ty _, _, h => h
  | .strm, _, h => h
  | .tup vs, d, ⟨ds, e, r⟩ => ⟨ds, e, RTs.rv hc vs ds r⟩
  | .lst vs, d, ⟨a, ds, e, m, g, r⟩ => ⟨a, ds, e, hc a m, g, RTs.rv hc vs ds r⟩
theorem RTs.rv (hc : ∀ a ∈ C, a ∉ A) : ∀ (x : List P) (d : List D), RTs C st x d → RVs A st x d
  | [], _, h => h
  | v :: vs, ds, ⟨d, r, e, h1, h2⟩ => ⟨d, r, e, RT.rv hc v d h1, RTs.rv hc vs r h2⟩
end
mutual
theorem RV.rt {st : Sto} : ∀ (x : P) (d : D), flat x = true → RV A st x d → RT C st' x d
  | .non, _, _, h => h
  | .bl _, _, _, h => h
  | .int _, _, _, h => h
  | .str _, _, _, h => h
  | .ty _, _, _, h => h
  | .strm, _, _, h => h
  | .tup vs, d, f, ⟨ds, e, r⟩ => ⟨ds, e, RVs.rt vs ds f r⟩
  | .lst vs, d, f, _ => nomatch f
theorem RVs.rt {st : Sto} : ∀ (x : List P) (d : List D), flats x = true → RVs A st x d → RTs C st' x d
  | [], _, _, h => h
  | v :: vs, ds, f, ⟨d, r, e, h1, h2⟩ => by
    have f' : (MM.flat v && flats vs) = true := f
    rw [Bool.and_eq_true] at f'
    exact ⟨d, r, e, RV.rt v d f'.1 h1, RVs.rt vs r f'.2 h2⟩
end
end
/-- a name's -/
def SlR (n0 : Nat) (A : List Nat) (st : Sto) : Sl → D → Prop
  | .val x, d => RV A st x d
  | .own xs, d => ∃ a ds, d = .ref a ∧ n0 ≤ a ∧ a ∈ A ∧ st[a]? = some (.lst ds) ∧ RVs A st xs ds
  | .tmp x, d => ∃ C, (∀ a ∈ C, n0 ≤ a ∧ a ∈ A ∧ a < st.length) ∧ RT C st x d
structure RSe (n0 : Nat) (A : List Nat) (st : Sto) (venv : VS) (env : Env) : Prop where
  len : venv.length = env.length
  at_ : ∀ (i : Nat) (x : Sl), venv[i]? = some (some x) → ∃ d, env[i]? = some (some d) ∧ SlR n0 A st x d
  ne : ∀ (i j a : Nat) (xs ys : List P), venv[i]? = some (some (.own xs)) → venv[j]? = some (some (.own ys)) → env[i]? = some (some (.ref a)) → env[j]? = some (some (.ref a)) → i = j
  nt : ∀ (i : Nat) (x : P), venv[i]? = some (some (.tmp x)) → ∃ d C, env[i]? = some (some d) ∧ (∀ a ∈ C, n0 ≤ a ∧ a ∈ A ∧ a < st.length) ∧ RT C st x d ∧ ∀ (j a : Nat) (ys : List P), venv[j]? = some (some (.own ys)) → env[j]? = some (some (.ref a)) → a ∉ C
/-- what stands of old -/
def KpS (b n0 : Nat) (A : List Nat) (st st' : Sto) : Prop := st.length ≤ st'.length ∧ ∀ i, b ≤ i → i < st.length → (i < n0 ∨ i ∉ A) → st'[i]? = st[i]?
def New (n : Nat) (A A' : List Nat) : Prop := ∀ a ∈ A', a ∈ A ∨ n ≤ a
section
variable {b n0 n : Nat} {A0 A A' A'' : List Nat} {st st' st1 st2 : Sto} {venv : VS} {env : Env} {x : Sl} {d : D}
theorem KpS.kpa (h : KpS b n0 A st st') : KpA b A st st' := ⟨h.1, fun i a b c => h.2 i a b (.inr c)⟩
theorem KpA.kps (h : KpA b [] st st') : KpS b n0 A st st' := ⟨h.1, fun i a b _ => h.2 i a b (by simp)⟩
theorem KpS.trans (h : KpS b n0 A st st1) (w : New st.length A A') (k : KpS b n0 A' st1 st2) : KpS b n0 A st st2 :=
  ⟨Nat.le_trans h.1 k.1, fun i hb hi hn => (k.2 i hb (Nat.lt_of_lt_of_le hi h.1) (hn.imp id fun z q => (w i q).elim z fun y => absurd y (Nat.not_le_of_lt hi))).trans (h.2 i hb hi hn)⟩
theorem New.refl : New n A A := fun a h => .inl h
theorem New.trans {n' : Nat} (h : New n A A') (hn : n ≤ n') (k : New n' A' A'') : New n A A'' := fun a ha => (k a ha).elim (h a) fun z => .inr (Nat.le_trans hn z)
theorem New.cons {a : Nat} (h : n ≤ a) : New n A (a :: A) := fun c hc => (List.mem_cons.mp hc).elim (fun e => .inr (by rw [e]; exact h)) .inl
theorem KpA.new (h : KpA b A st st') (w : New st.length A A') (k : KpA b A' st' st2) : KpA b A st st2 :=
  ⟨Nat.le_trans h.1 k.1, fun i hb hi hn => (k.2 i hb (Nat.lt_of_lt_of_le hi h.1) fun q => (w i q).elim hn fun y => absurd y (Nat.not_le_of_lt hi)).trans (h.2 i hb hi hn)⟩
mutual
theorem RV.step (k : KpA b A st st1) (lo : ∀ i, i < b → i ∈ A) (w : New st.length A A') : ∀ (x : P) (d : D), RV A st x d → RV A' st1 x d
  | .non, _, h => h
  | .bl _, _, h => h
  | .int _, _, h => h
  | .str _, _, h => h
  | .ty _, _, h => h
  | .strm, _, h => h
  | .tup vs, d, ⟨ds, e, r⟩ => ⟨ds, e, RVs.step k lo w vs ds r⟩
  | .lst vs, d, ⟨a, ds, e, m, g, r⟩ => ⟨a, ds, e, fun z => (w a z).elim m fun q => by have := lt_of_get g; omega, k.get lo m g, RVs.step k lo w vs ds r⟩
theorem RVs.step (k : KpA b A st st1) (lo : ∀ i, i < b → i ∈ A) (w : New st.length A A') : ∀ (x : List P) (d : List D), RVs A st x d → RVs A' st1 x d
  | [], _, h => h
  | v :: vs, ds, ⟨d, r, e, h1, h2⟩ => ⟨d, r, e, RV.step k lo w v d h1, RVs.step k lo w vs r h2⟩
end
/-- behind something that only lays new objects -/
theorem SlR.mono (h : SlR n0 A st x d) (k : Kp b st st') (lo : ∀ i, i < b → i ∈ A) (bn : b ≤ n0) : SlR n0 A st' x d := by
  cases x with
  | val x => exact RV.mono k.any lo x d h
  | own xs =>
    obtain ⟨a, ds, e, h1, h2, h3, h4⟩ := h
    exact ⟨a, ds, e, h1, h2, (k.2 a (Nat.le_trans bn h1) (lt_of_get h3) (by simp)).trans h3, h4.mono k.any lo⟩
  | tmp x =>
    obtain ⟨C, h1, h2⟩ := h
    exact ⟨C, fun a ha => ⟨(h1 a ha).1, (h1 a ha).2.1, Nat.lt_of_lt_of_le (h1 a ha).2.2 k.1⟩, RT.mono (fun a o ha g => (k.2 a (Nat.le_trans bn (h1 a ha).1) (lt_of_get g) (by simp)).trans g) (fun _ h => h) x d h2⟩
theorem SlR.sup (h : SlR n0 A st x d) (hs : ∀ a ∈ A, a ∈ A') (w : New st.length A A') : SlR n0 A' st x d := by
  cases x with
  | val x => exact RV.sup st.length (Nat.le_refl _) w x d h
  | own xs =>
    obtain ⟨a, ds, e, h1, h2, h3, h4⟩ := h
    exact ⟨a, ds, e, h1, hs a h2, h3, h4.sup st.length (Nat.le_refl _) w⟩
  | tmp x =>
    obtain ⟨C, h1, h2⟩ := h
    exact ⟨C, fun a ha => ⟨(h1 a ha).1, hs a (h1 a ha).2.1, (h1 a ha).2.2⟩, h2⟩
theorem RSe.mono (h : RSe n0 A st venv env) (k : Kp b st st') (lo : ∀ i, i < b → i ∈ A) (bn : b ≤ n0) : RSe n0 A st' venv env :=
  ⟨h.len, fun i x e => let ⟨d, e1, r⟩ := h.at_ i x e; ⟨d, e1, r.mono k lo bn⟩, h.ne, fun i x e => by
    obtain ⟨d, C, e1, h1, h2, h3⟩ := h.nt i x e
    exact ⟨d, C, e1, fun a ha => ⟨(h1 a ha).1, (h1 a ha).2.1, Nat.lt_of_lt_of_le (h1 a ha).2.2 k.1⟩, RT.mono (fun a o ha g => (k.2 a (Nat.le_trans bn (h1 a ha).1) (lt_of_get g) (by simp)).trans g) (fun _ h => h) x d h2, h3⟩⟩
theorem RSe.sup (h : RSe n0 A st venv env) (hs : ∀ a ∈ A, a ∈ A') (w : New st.length A A') : RSe n0 A' st venv env :=
  ⟨h.len, fun i x e => let ⟨d, e1, r⟩ := h.at_ i x e; ⟨d, e1, r.sup hs w⟩, h.ne, fun i x e => by
    obtain ⟨d, C, e1, h1, h2, h3⟩ := h.nt i x e
    exact ⟨d, C, e1, fun a ha => ⟨(h1 a ha).1, hs a (h1 a ha).2.1, (h1 a ha).2.2⟩, h2, h3⟩⟩
theorem RSe.v1 (h : RSe n0 A st venv env) : REv A st (VV.vis1 venv) env := by
  refine ⟨by unfold VV.vis1; rw [List.length_map]; exact h.len, fun i x e => ?_⟩
  unfold VV.vis1 at e
  rw [List.getElem?_map] at e
  obtain ⟨o, e1, e2⟩ := Option.map_eq_some_iff.mp e
  match o, e2 with
  | some (.val y), e2 =>
    cases e2
    obtain ⟨d, e3, r⟩ := h.at_ i _ e1
    exact ⟨d, e3, r⟩
  | some (.own y), e2 => cases e2
  | some (.tmp y), e2 => cases e2
  | none, e2 => cases e2
theorem RSe.v2 (l : Lk b n0 A0 A st) (h : RSe n0 A st venv env) : REv A0 st (VV.vis2 venv) env := by
  refine ⟨by unfold VV.vis2; rw [List.length_map]; exact h.len, fun i x e => ?_⟩
  unfold VV.vis2 at e
  rw [List.getElem?_map] at e
  obtain ⟨o, e1, e2⟩ := Option.map_eq_some_iff.mp e
  match o, e2 with
  | some (.val y), e2 =>
    cases e2
    obtain ⟨d, e3, r⟩ := h.at_ i _ e1
    exact ⟨d, e3, RV.sub l.sub _ _ r⟩
  | some (.own y), e2 =>
    cases e2
    obtain ⟨d, e3, a, ds, e4, h1, h2, h3, h4⟩ := h.at_ i _ e1
    exact ⟨d, e3, a, ds, e4, fun z => Nat.lt_irrefl _ (Nat.lt_of_lt_of_le (l.a0 a z) h1), h3, RVs.sub l.sub _ _ h4⟩
  | some (.tmp y), e2 =>
    cases e2
    obtain ⟨d, e3, C, h1, h2⟩ := h.at_ i _ e1
    exact ⟨d, e3, RT.rv (fun a ha z => Nat.lt_irrefl _ (Nat.lt_of_lt_of_le (l.a0 a z) (h1 a ha).1)) _ _ h2⟩
  | none, e2 => cases e2
/-- a name is set -/
theorem RSe.set (h : RSe n0 A st venv env) (i : Nat) (r : SlR n0 A st x d) (hn : ∀ xs a, x = .own xs → d = .ref a → ∀ j ys, venv[j]? = some (some (.own ys)) → env[j]? = some (some (.ref a)) → j = i)
    (ho : ∀ xs a, x = .own xs → d = .ref a → ∀ (j : Nat) (y : P), j ≠ i → venv[j]? = some (some (.tmp y)) → ∃ d' C, env[j]? = some (some d') ∧ (∀ c ∈ C, n0 ≤ c ∧ c ∈ A ∧ c < st.length) ∧ RT C st y d' ∧ a ∉ C ∧ ∀ (k c : Nat) (ys : List P), venv[k]? = some (some (.own ys)) → env[k]? = some (some (.ref c)) → c ∉ C)
    (ht : ∀ y, x = .tmp y → ∃ C, (∀ a ∈ C, n0 ≤ a ∧ a ∈ A ∧ a < st.length) ∧ RT C st y d ∧ ∀ (j a : Nat) (ys : List P), j ≠ i → venv[j]? = some (some (.own ys)) → env[j]? = some (some (.ref a)) → a ∉ C) : RSe n0 A st (venv.set i (some x)) (env.set i (some d)) := by
  have cut : ∀ j y, (venv.set i (some x))[j]? = some (some y) → (j = i ∧ y = x ∧ i < venv.length) ∨ (j ≠ i ∧ venv[j]? = some (some y)) := by
    intro j y e
    by_cases hj : i = j
    · subst hj
      by_cases hi : i < venv.length
      · rw [List.getElem?_set_self hi] at e
        cases e
        exact .inl ⟨rfl, rfl, hi⟩
      · rw [List.getElem?_eq_none (by simpa using hi)] at e; cases e
    · rw [List.getElem?_set_ne hj] at e
      exact .inr ⟨fun z => hj z.symm, e⟩
  refine ⟨by simp [h.len], fun j y e => ?_, fun j k a xs ys e1 e2 e3 e4 => ?_, fun j y e => ?_⟩
  · rcases cut j y e with ⟨rfl, rfl, hi⟩ | ⟨hj, e⟩
    · exact ⟨d, by rw [List.getElem?_set_self (by rw [← h.len]; exact hi)], r⟩
    · obtain ⟨d', e1, r1⟩ := h.at_ j y e
      exact ⟨d', by rw [List.getElem?_set_ne (Ne.symm hj)]; exact e1, r1⟩
  · rcases cut j _ e1 with ⟨rfl, q1, hi⟩ | ⟨hj, q1⟩
    · rw [List.getElem?_set_self (by rw [← h.len]; exact hi)] at e3
      cases e3
      rcases cut k _ e2 with ⟨rfl, q2, _⟩ | ⟨hk, q2⟩
      · rfl
      · rw [List.getElem?_set_ne (Ne.symm hk)] at e4
        exact (hn _ _ q1.symm rfl k _ q2 e4).symm
    · rw [List.getElem?_set_ne (Ne.symm hj)] at e3
      rcases cut k _ e2 with ⟨rfl, q2, hi⟩ | ⟨hk, q2⟩
      · rw [List.getElem?_set_self (by rw [← h.len]; exact hi)] at e4
        cases e4
        exact hn _ _ q2.symm rfl j _ q1 e3
      · rw [List.getElem?_set_ne (Ne.symm hk)] at e4
        exact h.ne j k a _ _ q1 q2 e3 e4
  · rcases cut j _ e with ⟨rfl, q1, hi⟩ | ⟨hj, q1⟩
    · obtain ⟨C, h1, h2, h3⟩ := ht _ q1.symm
      refine ⟨d, C, by rw [List.getElem?_set_self (by rw [← h.len]; exact hi)], h1, h2, fun k a ys e1 e2 => ?_⟩
      rcases cut k _ e1 with ⟨rfl, q2, _⟩ | ⟨hk, q2⟩
      · rw [← q1] at q2; cases q2
      · rw [List.getElem?_set_ne (Ne.symm hk)] at e2
        exact h3 k a ys hk q2 e2
    · obtain ⟨d', C, e1, h1, h2, h3⟩ := h.nt j _ q1
      by_cases hx : ∃ xs a, x = .own xs ∧ d = .ref a
      · obtain ⟨xs, a, ex, ed⟩ := hx
        obtain ⟨d2, C2, f1, f2, f3, f4, f5⟩ := ho xs a ex ed j _ hj q1
        refine ⟨d2, C2, by rw [List.getElem?_set_ne (Ne.symm hj)]; exact f1, f2, f3, fun k c ys e1 e2 => ?_⟩
        rcases cut k _ e1 with ⟨rfl, q2, hi⟩ | ⟨hk, q2⟩
        · rw [List.getElem?_set_self (by rw [← h.len]; exact hi), ed] at e2
          cases e2
          exact f4
        · rw [List.getElem?_set_ne (Ne.symm hk)] at e2
          exact f5 k c ys q2 e2
      · refine ⟨d', C, by rw [List.getElem?_set_ne (Ne.symm hj)]; exact e1, h1, h2, fun k c ys e1 e2 => ?_⟩
        rcases cut k _ e1 with ⟨rfl, q2, hi⟩ | ⟨hk, q2⟩
        · rw [List.getElem?_set_self (by rw [← h.len]; exact hi)] at e2
          cases e2
          exact absurd ⟨ys, c, q2.symm, rfl⟩ hx
        · rw [List.getElem?_set_ne (Ne.symm hk)] at e2
          exact h3 k c ys q2 e2
/-- a list of its own that is newer than all -/
theorem RSe.setO (h : RSe n0 A st venv env) (i : Nat) (r : SlR n0 A st x d) (n : Nat) (hx : ∀ y, x ≠ .tmp y) (hd : ∀ xs a, x = .own xs → d = .ref a → n ≤ a) (old1 : ∀ (j a : Nat) (ys : List P), venv[j]? = some (some (.own ys)) → env[j]? = some (some (.ref a)) → a < n)
    (old2 : ∀ (j : Nat) (y : P), venv[j]? = some (some (.tmp y)) → ∃ d' C, env[j]? = some (some d') ∧ (∀ c ∈ C, n0 ≤ c ∧ c ∈ A ∧ c < st.length) ∧ RT C st y d' ∧ (∀ c ∈ C, c < n) ∧ ∀ (k c : Nat) (ys : List P), venv[k]? = some (some (.own ys)) → env[k]? = some (some (.ref c)) → c ∉ C) : RSe n0 A st (venv.set i (some x)) (env.set i (some d)) := by
  refine h.set i r (fun xs a ex ed j ys h1 h2 => ?_) (fun xs a ex ed j y hj h1 => ?_) fun y ey => absurd ey (hx y)
  · have := old1 j a ys h1 h2
    have := hd xs a ex ed
    omega
  · obtain ⟨d', C, e1, e2, e3, e4, e5⟩ := old2 j y h1
    refine ⟨d', C, e1, e2, e3, fun z => ?_, e5⟩
    have := e4 a z
    have := hd xs a ex ed
    omega
theorem RSe.setV {y : P} (h : RSe n0 A st venv env) (i : Nat) (r : RV A st y d) : RSe n0 A st (venv.set i (some (.val y))) (env.set i (some d)) := h.set i r (fun _ _ e => nomatch e) (fun _ _ e => nomatch e) (fun _ e => nomatch e)
theorem RSe.setsV : ∀ {bs : List (Nat × P)} {ds : List (Nat × D)} {venv : VS} {env : Env}, RSe n0 A st venv env → RBs A st bs ds → RSe n0 A st (VV.setS venv bs) (setsD env ds)
  | [], ds, venv, env, h, k => by rw [show ds = [] from k]; exact h
  | (i, x) :: r, ds, venv, env, h, ⟨d, q, e, h1, h2⟩ => by
    rw [e]
    have h3 : RSe n0 A st (VV.setS (venv.set i (some (.val x))) r) (setsD (env.set i (some d)) q) := RSe.setsV (bs := r) (ds := q) (venv := venv.set i (some (.val x))) (env := env.set i (some d)) (RSe.setV h i h1) h2
    exact h3
end
def RFl (n0 : Nat) (A0 A : List Nat) (fr : Bool) (st : Sto) : VFl → Fl → Prop
  | .nx v, .nx e => RSe n0 A st v e
  | .brk v, .brk e => RSe n0 A st v e
  | .ct v, .ct e => RSe n0 A st v e
  | .ret x, .ret d => RV A0 st x d ∧ (fr = true → Fr n0 d)
  | _, _ => False
def GotS (b n0 : Nat) (A0 A : List Nat) (st : Sto) (s' : SS) (r : Res Fl) (R : List Nat → Fl → Sto → Prop) : Prop :=
  ∃ fl st' A', r = .ok fl st' ∧ KpS b n0 A st st' ∧ Str b st' s' ∧ Lk b n0 A0 A' st' ∧ New st.length A A' ∧ R A' fl st'
def OkS (m : SM) (v : VSM) (fr : Bool) : Prop := ∀ (b n0 : Nat) (A0 A : List Nat) (st : Sto) (env : Env) (venv : VS) (s : SS) (fl : VFl) (s' : SS), Lk b n0 A0 A st → RSe n0 A st venv env → Str b st s → v venv s = some (fl, s') →
  GotS b n0 A0 A st s' (m env st) (fun A' mfl st' => RFl n0 A0 A' fr st' fl mfl)
section
variable {b n0 : Nat} {A0 A A' : List Nat} {st st1 st' : Sto} {s s1 s' : SS} {R : List Nat → Fl → Sto → Prop}
theorem GotS.ok {fl : Fl} (l : Lk b n0 A0 A st) (z : Str b st s) (h : R A fl st) : GotS b n0 A0 A st s (.ok fl st) R := ⟨fl, st, A, rfl, ⟨Nat.le_refl _, fun _ _ _ _ => rfl⟩, z, l, .refl, h⟩
/-- further on, behind what only lays new objects -/
theorem GotS.on {r : Res Fl} (k : Kp b st st1) (h : GotS b n0 A0 A st1 s' r R) : GotS b n0 A0 A st s' r R := by
  obtain ⟨fl, st', A', e, k1, z, l, w, h⟩ := h
  exact ⟨fl, st', A', e, KpS.trans (k.kps (n0 := n0) (A := A)) .refl k1, z, l, fun a ha => (w a ha).imp id fun q => Nat.le_trans k.1 q, h⟩
theorem GotS.onN {r : Res Fl} (k : KpS b n0 A st st1) (w : New st.length A A') (h : GotS b n0 A0 A' st1 s' r R) : GotS b n0 A0 A st s' r R := by
  obtain ⟨fl, st', A'', e, k1, z, l, w1, h⟩ := h
  exact ⟨fl, st', A'', e, k.trans w k1, z, l, w.trans k.1 w1, h⟩
theorem GotS.bind {r : Res Fl} {R' : List Nat → Fl → Sto → Prop} {f : Fl → M Fl} (h : GotS b n0 A0 A st s1 r R) (k : ∀ A' fl st1, KpS b n0 A st st1 → New st.length A A' → Lk b n0 A0 A' st1 → Str b st1 s1 → R A' fl st1 → GotS b n0 A0 A' st1 s' (f fl st1) R') : GotS b n0 A0 A st s' (r.bind f) R' := by
  obtain ⟨fl, st1, A', e, k1, z, l, w, h⟩ := h
  rw [e]
  exact (k A' fl st1 k1 w l z h).onN k1 w
theorem Got.bindS {α : Type} {r : Res α} {R' : α → Sto → Prop} {f : α → M Fl} (h : Got b st s1 r R') (k : ∀ a st1, Kp b st st1 → Str b st1 s1 → R' a st1 → GotS b n0 A0 A st1 s' (f a st1) R) : GotS b n0 A0 A st s' (r.bind f) R := by
  obtain ⟨a, st1, e, k1, z, h⟩ := h
  rw [e]
  exact (k a st1 k1 z h).on k1
end
section
variable {m m1 m2 : Env → M D} {v v1 v2 : VEnv → VM P} {f f1 f2 fr : Bool} {t : Env → M Bool} {vt : VEnv → VM Bool} {a1 a2 : SM} {w1 w2 : VSM}
theorem q_nil : OkS sNil VV.sNil fr := fun b n0 A0 A st env venv s fl s' l r z e => by
  cases e
  exact .ok l z r
theorem q_brk : OkS sBrk VV.sBrk fr := fun b n0 A0 A st env venv s fl s' l r z e => by
  cases e
  exact .ok l z r
theorem q_ct : OkS sCt VV.sCt fr := fun b n0 A0 A st env venv s fl s' l r z e => by
  cases e
  exact .ok l z r
theorem q_bad {a : SM} : OkS a VV.sBad fr := fun b n0 A0 A st env venv s fl s' l r z e => nomatch e
theorem q_retN : OkS sRetN VV.sRetN fr := fun b n0 A0 A st env venv s fl s' l r z e => by
  cases e
  exact .ok l z ⟨rfl, fun _ _ e => nomatch e⟩
theorem q_ret (h : OkE m v f) (hf : f = fr ∨ fr = false := by exact .inl rfl) : OkS (sRet m) (VV.sRet v) fr := fun b n0 A0 A st env venv s fl s' l r z e => by
  obtain ⟨x1, s1, e1, e2⟩ := bd_inv e
  cases e2
  refine (h _ _ _ _ _ _ _ _ l.ok0 (r.v2 l) z e1).bindS fun d st1 k z1 q => ?_
  refine .ok (l.mono k.1) z1 ⟨q.1, fun g a ea => ?_⟩
  rcases hf with rfl | rfl
  · exact Nat.le_trans l.nl (q.2 g a ea)
  · cases g
/-- a def gives what a name holds of its own -/
theorem q_retO {i : Nat} : OkS (sRet (eVar i)) (VV.sRetO i) fr := fun b n0 A0 A st env venv s fl s' l r z e => by
  unfold VV.sRetO at e
  split at e <;> first | (cases e; done) | skip
  rename_i xs ho
  cases e
  unfold VV.ownAt at ho
  split at ho <;> first | (cases ho; done) | skip
  rename_i xs' hv
  cases ho
  obtain ⟨d, e3, a, ds, e4, h1, h2, h3, h4⟩ := r.at_ i _ hv
  subst e4
  have hm : sRet (eVar i) env st = .ok (.ret (.ref a)) st := by
    unfold sRet eVar
    rw [e3]; rfl
  rw [hm]
  exact .ok l z ⟨⟨a, ds, rfl, fun q => Nat.lt_irrefl _ (Nat.lt_of_lt_of_le (l.a0 a q) h1), h3, RVs.sub l.sub _ _ h4⟩, fun _ a' ea => by cases ea; exact h1⟩
theorem q_expr (h : OkE m v f) : OkS (sExpr m) (VV.sExpr v) fr := fun b n0 A0 A st env venv s fl s' l r z e => by
  obtain ⟨x1, s1, e1, e2⟩ := bd_inv e
  cases e2
  exact (h _ _ _ _ _ _ _ _ l.ok0 (r.v2 l) z e1).bindS fun d st1 k z1 q => .ok (l.mono k.1) z1 (r.mono k l.ok.lo l.bn)
theorem q_seq (h1 : OkS a1 w1 fr) (h2 : OkS a2 w2 fr) : OkS (sSeq a1 a2) (VV.sSeq w1 w2) fr := fun b n0 A0 A st env venv s fl s' l r z e => by
  obtain ⟨x1, s1, e1, e2⟩ := bd_inv e
  refine (h1 _ _ _ _ _ _ _ _ _ _ l r z e1).bind fun A' fl1 st1 k w l1 z1 q => ?_
  cases x1 <;> cases fl1 <;> first | exact q.elim | skip
  · exact h2 _ _ _ _ _ _ _ _ _ _ l1 q z1 e2
  · cases e2; exact .ok l1 z1 q
  · cases e2; exact .ok l1 z1 q
  · cases e2; exact .ok l1 z1 q
theorem q_last (h1 : OkS a1 w1 fr) : OkS a1 w1 fr := h1
theorem q_ifs (h : OkT t vt) (h1 : OkS a1 w1 fr) (h2 : OkS a2 w2 fr) : OkS (sIf t a1 a2) (VV.sIf vt w1 w2) fr := fun b n0 A0 A st env venv s fl s' l r z e => by
  obtain ⟨x1, s1, e1, e2⟩ := bd_inv e
  refine (h _ _ _ _ _ _ _ _ l.ok0 (r.v2 l) z e1).bindS fun c st1 k z1 q => ?_
  subst q
  cases c with
  | true => exact h1 _ _ _ _ _ _ _ _ _ _ (l.mono k.1) (r.mono k l.ok.lo l.bn) z1 e2
  | false => exact h2 _ _ _ _ _ _ _ _ _ _ (l.mono k.1) (r.mono k l.ok.lo l.bn) z1 e2
theorem whileN_of (h : OkT t vt) (h1 : OkS a1 w1 fr) : ∀ n : Nat, OkS (whileN t a1 n) (VV.whileN vt w1 n) fr
  | 0 => fun b n0 A0 A st env venv s fl s' l r z e => nomatch e
  | n + 1 => fun b n0 A0 A st env venv s fl s' l r z e => by
    obtain ⟨x1, s1, e1, e2⟩ := bd_inv e
    refine (h _ _ _ _ _ _ _ _ l.ok0 (r.v2 l) z e1).bindS fun c st1 k z1 q => ?_
    subst q
    cases c with
    | false => cases e2; exact .ok (l.mono k.1) z1 (r.mono k l.ok.lo l.bn)
    | true =>
      obtain ⟨x2, s2, e3, e4⟩ := bd_inv e2
      refine (h1 _ _ _ _ _ _ _ _ _ _ (l.mono k.1) (r.mono k l.ok.lo l.bn) z1 e3).bind fun A' fl1 st2 k2 w l2 z2 q => ?_
      cases x2 <;> cases fl1 <;> first | exact q.elim | skip
      · exact whileN_of h h1 n _ _ _ _ _ _ _ _ _ _ l2 q z2 e4
      · cases e4; exact .ok l2 z2 q
      · cases e4; exact .ok l2 z2 q
      · exact whileN_of h h1 n _ _ _ _ _ _ _ _ _ _ l2 q z2 e4
theorem q_while (h : OkT t vt) (h1 : OkS a1 w1 fr) : OkS (sWhile t a1) (VV.sWhile vt w1) fr := whileN_of h h1 _
theorem forL_of {tg : Tgt} {vg : VV.VT} (hg : OkG tg vg) (h1 : OkS a1 w1 fr) {b n0 : Nat} {A0 : List Nat} {g : Sto → Bool} : ∀ (xs : List P) (ds : List D) (A : List Nat) (st : Sto) (env : Env) (venv : VS) (s : SS) (fl : VFl) (s' : SS), Lk b n0 A0 A st → RSe n0 A st venv env → Str b st s →
    RVs A st xs ds → (∀ st'', KpA b A st st'' → g st'' = true) → VV.forL vg w1 xs venv s = some (fl, s') → GotS b n0 A0 A st s' (forL g tg a1 ds env st) (fun A' mfl st' => RFl n0 A0 A' fr st' fl mfl)
  | [], ds, A, st, env, venv, s, fl, s', l, r, z, rx, hgd, e => by
    cases e
    rw [show ds = [] from rx]
    unfold forL
    rw [if_pos (hgd st .refl)]
    exact .ok l z r
  | x :: xs, ds, A, st, env, venv, s, fl, s', l, r, z, ⟨d, dr, e0, q1, q2⟩, hgd, e => by
    obtain ⟨bs, s1, e1, e2⟩ := bd_inv e
    obtain ⟨e3, e4⟩ := lift_inv e1
    subst e4
    obtain ⟨c, s2, e5, e6⟩ := bd_inv e2
    subst e0
    unfold forL
    rw [if_pos (hgd st .refl)]
    obtain ⟨db, e7, q7⟩ := hg A st d x bs env q1 e3
    rw [e7]
    show GotS b n0 A0 A st s' ((a1 (setsD env db) st).bind _) _
    refine (h1 _ _ _ _ _ _ _ _ _ _ l (r.setsV q7) z e5).bind fun A' fl1 st1 k w l1 z1 q => ?_
    have hgd1 : ∀ st'', KpA b A' st1 st'' → g st'' = true := fun st'' k'' => hgd st'' (k.kpa.new w k'')
    have q3 : RVs A' st1 xs dr := q2.step k.kpa l.ok.lo w
    cases c <;> cases fl1 <;> first | exact q.elim | skip
    · exact forL_of hg h1 xs dr _ _ _ _ _ _ _ l1 q z1 q3 hgd1 e6
    · cases e6; exact .ok l1 z1 q
    · cases e6; exact .ok l1 z1 q
    · exact forL_of hg h1 xs dr _ _ _ _ _ _ _ l1 q z1 q3 hgd1 e6
end
end MM

/-! Statements that set, write; defs. -/
namespace MM
open PySem PySem.Spec PyProof.Rows L2

section
variable {b n0 : Nat} {A0 A A' : List Nat} {st st1 st' : Sto} {s s1 s' : SS} {venv : VS} {env : Env}
theorem Kp.kpa {b : Nat} {A : List Nat} {st st' : Sto} (k : Kp b st st') : KpA b A st st' := KpA.any k
/-- what a name takes is evaluated -/
theorem slot_of {m : Env → M D} {v : VEnv → VM P} {f o bb : Bool} (h : OkE m v f) (ho : o = true → f = true) (l : Lk b n0 A0 A st) (r : RSe n0 A st venv env) (z : Str b st s) {x : Sl} (e : VV.sl o bb v venv s = some (x, s')) :
    ∃ d st' A', m env st = .ok d st' ∧ Kp b st st' ∧ Str b st' s' ∧ Lk b n0 A0 A' st' ∧ (∀ a ∈ A, a ∈ A') ∧ New st.length A A' ∧ RSe n0 A' st' venv env ∧ SlR n0 A' st' x d ∧ ∀ xs a, x = .own xs → d = .ref a → st.length ≤ a ∧ a < st'.length := by
  obtain ⟨y, s1, e1, e2⟩ := bd_inv e
  obtain ⟨e3, e4⟩ := lift_inv e2
  subst e4
  have main : ∀ (B : List Nat), AOk b B st → REv B st (VV.vis bb venv) env → (bb = false → B = A) → ∃ d st' A', m env st = .ok d st' ∧ Kp b st st' ∧ Str b st' s' ∧ Lk b n0 A0 A' st' ∧ (∀ a ∈ A, a ∈ A') ∧ New st.length A A' ∧ RSe n0 A' st' venv env ∧ SlR n0 A' st' x d ∧ ∀ xs a, x = .own xs → d = .ref a → st.length ≤ a ∧ a < st'.length := by
    intro B a rb hB
    obtain ⟨d, st', e5, k, z1, q, n⟩ := h _ _ _ _ _ _ _ _ a rb z e1
    have plain : x = .val y → RV A st' y d → ∃ d st' A', m env st = .ok d st' ∧ Kp b st st' ∧ Str b st' s' ∧ Lk b n0 A0 A' st' ∧ (∀ a ∈ A, a ∈ A') ∧ New st.length A A' ∧ RSe n0 A' st' venv env ∧ SlR n0 A' st' x d ∧ ∀ xs a, x = .own xs → d = .ref a → st.length ≤ a ∧ a < st'.length := by
      intro ex q'
      subst ex
      exact ⟨d, st', A, e5, k, z1, l.mono k.1, fun _ h => h, .refl, r.mono k l.ok.lo l.bn, q', fun _ _ e => nomatch e⟩
    cases o with
    | false =>
      cases bb with
      | false =>
        cases e3
        exact plain rfl (by rw [← hB rfl]; exact q)
      | true =>
        unfold VV.mkSl at e3
        dsimp only at e3
        split at e3
        · rename_i hf
          cases e3
          exact plain rfl (RV.flat _ _ hf q)
        · cases e3
    | true =>
      have own : ∀ xs, y = .lst xs → flats xs = true → x = .own xs → ∃ d st' A', m env st = .ok d st' ∧ Kp b st st' ∧ Str b st' s' ∧ Lk b n0 A0 A' st' ∧ (∀ a ∈ A, a ∈ A') ∧ New st.length A A' ∧ RSe n0 A' st' venv env ∧ SlR n0 A' st' x d ∧ ∀ xs a, x = .own xs → d = .ref a → st.length ≤ a ∧ a < st'.length := by
        intro xs ey hf ex
        subst ex; subst ey
        obtain ⟨a1, ds, ed, h1, h2, h3⟩ := q
        have hn : st.length ≤ a1 := n (ho rfl) a1 ed
        have w : New st.length A (a1 :: A) := .cons hn
        refine ⟨d, st', a1 :: A, e5, k, z1, (l.mono k.1).cons (lt_of_get h2), fun _ h => List.mem_cons_of_mem _ h, w, (r.sup (fun _ h => List.mem_cons_of_mem _ h) w).mono k (fun i hi => List.mem_cons_of_mem _ (l.ok.lo i hi)) l.bn, ?_, ?_⟩
        · exact ⟨a1, ds, ed, Nat.le_trans l.nl hn, List.mem_cons_self, h2, RVs.flat _ _ hf h3⟩
        · intro xs' a' _ ea
          rw [ed] at ea
          cases ea
          exact ⟨hn, lt_of_get h2⟩
      unfold VV.mkSl at e3
      cases y <;> first | (cases e3; done) | skip
      rename_i xs
      dsimp only at e3
      split at e3
      · rename_i hf
        cases e3
        exact own xs rfl hf rfl
      · cases e3
  cases bb with
  | false => exact main A l.ok r.v1 fun _ => rfl
  | true => exact main A0 l.ok0 (r.v2 l) fun z => nomatch z
theorem sl_tmp {v : VEnv → VM P} {o bb : Bool} {x : Sl} (e : VV.sl o bb v venv s = some (x, s')) (y : P) : x ≠ .tmp y := by
  obtain ⟨z, s1, e1, e2⟩ := bd_inv e
  obtain ⟨e3, e4⟩ := lift_inv e2
  intro ex
  subst ex
  unfold VV.mkSl at e3
  split at e3
  · cases e3
  · split at e3 <;> cases e3
  · split at e3 <;> first | (cases e3; done) | skip
    split at e3 <;> cases e3
theorem RSe.old (r : RSe n0 A st venv env) {j a : Nat} {ys : List P} (h1 : venv[j]? = some (some (.own ys))) (h2 : env[j]? = some (some (.ref a))) : a < st.length := by
  obtain ⟨d, e, a', ds, e2, _, _, g, _⟩ := r.at_ j _ h1
  rw [h2] at e
  cases e
  cases e2
  exact lt_of_get g
theorem RSe.nt_on (l : Lk b n0 A0 A st) (r : RSe n0 A st venv env) (k : Kp b st st') (hs : ∀ a ∈ A, a ∈ A') (j : Nat) (y : P) (h1 : venv[j]? = some (some (.tmp y))) :
    ∃ d' C, env[j]? = some (some d') ∧ (∀ c ∈ C, n0 ≤ c ∧ c ∈ A' ∧ c < st'.length) ∧ RT C st' y d' ∧ (∀ c ∈ C, c < st.length) ∧ ∀ (k c : Nat) (ys : List P), venv[k]? = some (some (.own ys)) → env[k]? = some (some (.ref c)) → c ∉ C := by
  obtain ⟨d, C, e1, h2, h3, h4⟩ := r.nt j y h1
  exact ⟨d, C, e1, fun c hc => ⟨(h2 c hc).1, hs c (h2 c hc).2.1, Nat.lt_of_lt_of_le (h2 c hc).2.2 k.1⟩, RT.mono (fun a o ha g => (k.2 a (Nat.le_trans l.bn (h2 a ha).1) (lt_of_get g) (by simp)).trans g) (fun _ h => h) y d h3, fun c hc => (h2 c hc).2.2, h4⟩
/-- a list of one's own is written -/
theorem RSe.write (l : Lk b n0 A0 A st) (r : RSe n0 A st venv env) {i a : Nat} {xs xs' : List P} {ds ds' : List D} (hv : venv[i]? = some (some (.own xs))) (he : env[i]? = some (some (.ref a))) (hn : n0 ≤ a) (hA : a ∈ A) (g : st[a]? = some (.lst ds)) (q : RVs A st xs' ds') :
    KpS b n0 A st (st.set a (.lst ds')) ∧ RSe n0 A (st.set a (.lst ds')) (venv.set i (some (.own xs'))) env := by
  have k : KpS b n0 A st (st.set a (.lst ds')) := ⟨by simp, fun j hb hj hz => by
    rw [List.getElem?_set_ne (fun z => ?_)]
    subst z
    exact hz.elim (fun z => by omega) (fun z => z hA)⟩
  have ga : (st.set a (.lst ds'))[a]? = some (.lst ds') := List.getElem?_set_self (lt_of_get g)
  have hi : i < venv.length := lt_of_get hv
  have keep : ∀ {C : List Nat} {y : P} {d : D}, a ∉ C → RT C st y d → RT C (st.set a (.lst ds')) y d := fun {C y d} hC h => RT.mono (fun c o hc g' => by
    rw [List.getElem?_set_ne (fun z => hC (by rw [z]; exact hc))]
    exact g') (fun _ h => h) y d h
  refine ⟨k, by simp [r.len], fun j x e => ?_, fun j c a' us ws e1 e2 e3 e4 => ?_, fun j y e => ?_⟩
  · by_cases hj : i = j
    · subst hj
      rw [List.getElem?_set_self hi] at e
      cases e
      exact ⟨.ref a, he, a, ds', rfl, hn, hA, ga, q.mono k.kpa l.ok.lo⟩
    · rw [List.getElem?_set_ne hj] at e
      obtain ⟨d, e1, h⟩ := r.at_ j x e
      refine ⟨d, e1, ?_⟩
      cases x with
      | val x => exact RV.mono k.kpa l.ok.lo x d h
      | own us =>
        obtain ⟨a', es, ed, h1, h2, h3, h4⟩ := h
        have na : a ≠ a' := fun z => by
          subst z
          rw [ed] at e1
          exact hj (r.ne i j a _ _ hv e he e1)
        exact ⟨a', es, ed, h1, h2, by rw [List.getElem?_set_ne na]; exact h3, h4.mono k.kpa l.ok.lo⟩
      | tmp y =>
        obtain ⟨d', C, e3, h2, h3, h4⟩ := r.nt j y e
        rw [e1] at e3
        cases e3
        exact ⟨C, fun c hc => ⟨(h2 c hc).1, (h2 c hc).2.1, by simpa using (h2 c hc).2.2⟩, keep (h4 i a xs hv he) h3⟩
  · have old : ∀ (j : Nat) (us : List P), (venv.set i (some (.own xs')))[j]? = some (some (Sl.own us)) → ∃ ws, venv[j]? = some (some (Sl.own ws)) := by
      intro j us e
      by_cases hj : i = j
      · subst hj; exact ⟨_, hv⟩
      · rw [List.getElem?_set_ne hj] at e; exact ⟨_, e⟩
    obtain ⟨_, f1⟩ := old j _ e1
    obtain ⟨_, f2⟩ := old c _ e2
    exact r.ne j c a' _ _ f1 f2 e3 e4
  · have e' : venv[j]? = some (some (.tmp y)) := by
      by_cases hj : i = j
      · subst hj
        rw [List.getElem?_set_self hi] at e
        cases e
      · rw [List.getElem?_set_ne hj] at e; exact e
    obtain ⟨d', C, e3, h2, h3, h4⟩ := r.nt j y e'
    refine ⟨d', C, e3, fun c hc => ⟨(h2 c hc).1, (h2 c hc).2.1, by simpa using (h2 c hc).2.2⟩, keep (h4 i a xs hv he) h3, fun m c ys e1 e2 => ?_⟩
    by_cases hm : i = m
    · subst hm
      exact h4 i c xs hv e2
    · rw [List.getElem?_set_ne hm] at e1
      exact h4 m c ys e1 e2
theorem own_at (r : RSe n0 A st venv env) {i : Nat} {xs : List P} (h : VV.ownAt i venv = some xs) : ∃ a ds, venv[i]? = some (some (.own xs)) ∧ env[i]? = some (some (.ref a)) ∧ n0 ≤ a ∧ a ∈ A ∧ st[a]? = some (.lst ds) ∧ RVs A st xs ds := by
  unfold VV.ownAt at h
  split at h <;> first | (cases h; done) | skip
  rename_i xs' hv
  cases h
  obtain ⟨d, e, a, ds, ed, h1, h2, h3, h4⟩ := r.at_ i _ hv
  subst ed
  exact ⟨a, ds, hv, e, h1, h2, h3, h4⟩
theorem isTy_lst {st : Sto} {a : Nat} {ds : List D} (g : st[a]? = some (.lst ds)) : isTy "list" st (.ref a) = true := by
  unfold isTy
  simp [g]
/-- an item that is put into a list -/
theorem item_of {m : Env → M D} {v : VEnv → VM P} {f bb : Bool} (h : OkE m v f) (l : Lk b n0 A0 A st) (r : RSe n0 A st venv env) (z : Str b st s) {x : P} (e : v (VV.vis bb venv) s = some (x, s')) (hb : (!bb || flat x) = true) : Got b st s' (m env st) (fun d st' => RV A st' x d) := by
  cases bb with
  | false => exact (h _ _ _ _ _ _ _ _ l.ok r.v1 z e).imp fun d st' _ q => q.1
  | true => exact (h _ _ _ _ _ _ _ _ l.ok0 (r.v2 l) z e).imp fun d st' _ q => RV.flat _ _ hb q.1
theorem var_ok {i : Nat} {d : D} (h : env[i]? = some (some d)) : eVar i env st = .ok d st := by
  unfold eVar
  rw [h]
end
section
variable {m m1 m2 m3 : Env → M D} {v v1 v2 v3 : VEnv → VM P} {f f1 f2 f3 fr o bb : Bool}
theorem q_set {i : Nat} (h : OkE m v f) (ho : o = true → f = true := by first | exact (fun _ => rfl) | exact (fun z => absurd z Bool.false_ne_true)) : OkS (sSet i m) (VV.sSet i o bb v) fr := fun b n0 A0 A st env venv s fl s' l r z e => by
  obtain ⟨x, s1, e1, e2⟩ := bd_inv e
  cases e2
  obtain ⟨d, st', A', e3, k, z1, l1, hs, w, r1, q, hn⟩ := slot_of h ho l r z e1
  refine ⟨.nx (env.set i (some d)), st', A', ?_, k.kps, z1, l1, w, ?_⟩
  · unfold sSet
    rw [e3]; rfl
  · refine r1.setO i q st.length (fun y ey => ?_) (fun xs a ex ed => (hn xs a ex ed).1) (fun j a ys h1 h2 => r.old h1 h2) fun j y h1 => r.nt_on l k hs j y h1
    exact sl_tmp e1 y ey
theorem q_par {i j : Nat} {o2 bb2 : Bool} (h1 : OkE m1 v1 f1) (h2 : OkE m2 v2 f2) (ho1 : o = true → f1 = true := by first | exact (fun _ => rfl) | exact (fun z => absurd z Bool.false_ne_true)) (ho2 : o2 = true → f2 = true := by first | exact (fun _ => rfl) | exact (fun z => absurd z Bool.false_ne_true)) :
    OkS (sPar i j (aCons m1 (aCons m2 aNil))) (VV.sPar i j o bb v1 o2 bb2 v2) fr := fun b n0 A0 A st env venv s fl s' l r z e => by
  obtain ⟨x1, s1, e1, e2⟩ := bd_inv e
  obtain ⟨x2, s2, e3, e4⟩ := bd_inv e2
  cases e4
  obtain ⟨d1, st1, A1, g1, k1, z1, l1, hs1, w1, r1, q1, n1⟩ := slot_of h1 ho1 l r z e1
  obtain ⟨d2, st2, A2, g2, k2, z2, l2, hs2, w2, r2, q2, n2⟩ := slot_of h2 ho2 l1 r1 z1 e3
  refine ⟨.nx ((env.set i (some d1)).set j (some d2)), st2, A2, ?_, (k1.trans k2).kps, z2, l2, w1.trans k1.1 w2, ?_⟩
  · unfold sPar aCons aNil
    rw [g1]
    show (((m2 env st1).bind _).bind _).bind _ = _
    rw [g2]; rfl
  · have hs12 : ∀ a ∈ A, a ∈ A2 := fun a ha => hs2 a (hs1 a ha)
    have r3 : RSe n0 A1 st1 (venv.set i (some x1)) (env.set i (some d1)) := r1.setO i q1 st.length (fun y ey => sl_tmp e1 y ey) (fun xs a ex ed => (n1 xs a ex ed).1) (fun j a ys h1 h2 => r.old h1 h2) fun j y h1 => r.nt_on l k1 hs1 j y h1
    have r4 : RSe n0 A2 st2 (venv.set i (some x1)) (env.set i (some d1)) := (r3.sup hs2 w2).mono k2 (fun i hi => hs2 _ (l1.ok.lo i hi)) l1.bn
    exact r4.setO j q2 st1.length (fun y ey => sl_tmp e3 y ey) (fun xs a ex ed => (n2 xs a ex ed).1) (fun j a ys h1 h2 => r3.old h1 h2) fun j y h1 => r3.nt_on l1 k2 hs2 j y h1
theorem q_frz {a : SM} {w : VSM} {i : Nat} (h : OkS a w fr) : OkS a (VV.sFrz i w) fr := fun b n0 A0 A st env venv s fl s' l r z e => by
  unfold VV.sFrz VV.frz at e
  split at e
  · rename_i xs hv
    obtain ⟨d, he, a1, ds, ed, h1, h2, h3, h4⟩ := r.at_ i _ hv
    subst ed
    have sub : ∀ c, c ∈ A.filter (· ≠ a1) → c ∈ A := fun c hc => (List.mem_filter.mp hc).1
    have l' : Lk b n0 A0 (A.filter (· ≠ a1)) st := ⟨l.bn, l.nl, l.a0, l.lo, fun c hc => List.mem_filter.mpr ⟨l.sub c hc, by have := l.a0 c hc; simp; omega⟩, fun c hc => l.hi c (sub c hc)⟩
    have hi : i < venv.length := lt_of_get hv
    have r' : RSe n0 (A.filter (· ≠ a1)) st (venv.set i (some (.val (.lst xs)))) env := by
      refine ⟨by simp [r.len], fun j x e => ?_, fun j c a' us ws e1 e2 e3 e4 => ?_, fun j y e => ?_⟩
      · by_cases hj : i = j
        · subst hj
          rw [List.getElem?_set_self hi] at e
          cases e
          exact ⟨_, he, a1, ds, rfl, by simp, h3, RVs.sub sub _ _ h4⟩
        · rw [List.getElem?_set_ne hj] at e
          obtain ⟨d, e1, q⟩ := r.at_ j x e
          refine ⟨d, e1, ?_⟩
          cases x with
          | val x => exact RV.sub sub _ _ q
          | own us =>
            obtain ⟨a', es, ed, q1, q2, q3, q4⟩ := q
            refine ⟨a', es, ed, q1, List.mem_filter.mpr ⟨q2, ?_⟩, q3, RVs.sub sub _ _ q4⟩
            have : a' ≠ a1 := fun z => by
              subst z
              rw [ed] at e1
              exact hj (r.ne i j _ _ _ hv e he e1)
            simpa using this
          | tmp y =>
            obtain ⟨d', C, e3, h5, h6, h7⟩ := r.nt j y e
            rw [e1] at e3
            cases e3
            exact ⟨C, fun c hc => ⟨(h5 c hc).1, List.mem_filter.mpr ⟨(h5 c hc).2.1, by
              have : c ≠ a1 := fun z => h7 i a1 xs hv he (by rw [← z]; exact hc)
              simpa using this⟩, (h5 c hc).2.2⟩, h6⟩
      · have old : ∀ (j : Nat) (us : List P), (venv.set i (some (.val (.lst xs))))[j]? = some (some (Sl.own us)) → venv[j]? = some (some (Sl.own us)) := by
          intro j us e
          by_cases hj : i = j
          · subst hj
            rw [List.getElem?_set_self hi] at e
            cases e
          · rw [List.getElem?_set_ne hj] at e; exact e
        exact r.ne j c a' _ _ (old j _ e1) (old c _ e2) e3 e4
      · have e' : venv[j]? = some (some (.tmp y)) := by
          by_cases hj : i = j
          · subst hj
            rw [List.getElem?_set_self hi] at e
            cases e
          · rw [List.getElem?_set_ne hj] at e; exact e
        obtain ⟨d', C, e3, h5, h6, h7⟩ := r.nt j y e'
        refine ⟨d', C, e3, fun c hc => ⟨(h5 c hc).1, List.mem_filter.mpr ⟨(h5 c hc).2.1, by
              have : c ≠ a1 := fun z => h7 i a1 xs hv he (by rw [← z]; exact hc)
              simpa using this⟩, (h5 c hc).2.2⟩, h6, fun m c ys e1 e2 => ?_⟩
        by_cases hm : i = m
        · subst hm
          rw [List.getElem?_set_self hi] at e1
          cases e1
        · rw [List.getElem?_set_ne hm] at e1
          exact h7 m c ys e1 e2
    obtain ⟨fl, st', A', e1, k, z1, l1, w1, q⟩ := h _ _ _ _ _ _ _ _ _ _ l' r' z e
    exact ⟨fl, st', A', e1, ⟨k.1, fun j hb hj hn => k.2 j hb hj (hn.imp id fun z q => z (sub j q))⟩, z1, l1, fun c hc => (w1 c hc).imp (sub c) id, q⟩
  · exact h _ _ _ _ _ _ _ _ _ _ l r z e
theorem q_app {i : Nat} (h : OkE m v f) : OkS (sExpr (eMeth "list" mAppend (eVar i) (aCons m aNil))) (VV.sApp i bb v) fr := fun b n0 A0 A st env venv s fl s' l r z e => by
  obtain ⟨x, s1, e1, e2⟩ := bd_inv e
  split at e2 <;> first | (cases e2; done) | skip
  rename_i xs ho
  split at e2 <;> first | (cases e2; done) | skip
  rename_i hc
  cases e2
  rw [Bool.and_eq_true, decide_eq_true_eq] at hc
  obtain ⟨a, ds, hv, he, hn, hA, g, q⟩ := own_at r ho
  obtain ⟨d, st1, e3, k, z1, q1⟩ := item_of h l r z e1 hc.1
  have r1 := r.mono k l.ok.lo l.bn
  have l1 := l.mono k.1
  have g1 : st1[a]? = some (.lst ds) := (k.2 a (Nat.le_trans l.bn hn) (lt_of_get g) (by simp)).trans g
  obtain ⟨k2, r2⟩ := r1.write l1 hv he hn hA g1 (xs' := xs ++ [x]) (ds' := ds ++ [d]) ((q.mono k.any l.ok.lo).append (.one q1))
  refine ⟨.nx env, st1.set a (.lst (ds ++ [d])), A, ?_, KpS.trans (KpA.kps k) .refl k2, ?_, l1.mono k2.1, .refl, r2⟩
  · unfold sExpr eMeth
    rw [var_ok he]
    show ((if isTy "list" st (.ref a) = true then _ else _ : Res D).bind _) = _
    rw [if_pos (isTy_lst g)]
    unfold aCons aNil
    rw [e3]
    show ((mAppend (.ref a) [d] st1).bind _) = _
    unfold mAppend
    dsimp only
    rw [mutAt_of g1]
    dsimp only
    rw [if_pos (by rw [q.length]; exact hc.2)]
    rfl
  · cases s' with
    | none => exact z1
    | some s2 =>
      obtain ⟨b2, z2, z3⟩ := z1
      subst b2
      have : 2 ≤ a := Nat.le_trans l.bn hn
      exact ⟨rfl, by rw [List.getElem?_set_ne (by omega)]; exact z2, by rw [List.getElem?_set_ne (by omega)]; exact z3⟩
theorem Str.set {b a : Nat} {st : Sto} {s : SS} {o : O} (h : Str b st s) (hb : b ≤ a) : Str b (st.set a o) s := by
  cases s with
  | none => exact h
  | some s2 =>
    obtain ⟨b2, z2, z3⟩ := h
    subst b2
    exact ⟨rfl, by rw [List.getElem?_set_ne (by omega)]; exact z2, by rw [List.getElem?_set_ne (by omega)]; exact z3⟩
theorem q_ext {i : Nat} (h : OkE m v f) : OkS (sExpr (eMeth "list" mExtend (eVar i) (aCons m aNil))) (VV.sExt i bb v) fr := fun b n0 A0 A st env venv s fl s' l r z e => by
  obtain ⟨x, s1, e1, e2⟩ := bd_inv e
  split at e2 <;> first | (cases e2; done) | skip
  rename_i xs ys ho
  split at e2 <;> first | (cases e2; done) | skip
  rename_i hc
  cases e2
  rw [Bool.and_eq_true, decide_eq_true_eq] at hc
  obtain ⟨a, ds, hv, he, hn, hA, g, q⟩ := own_at r ho
  have main : ∃ (d : D) (st1 : Sto) (c : Nat) (es : List D), m env st = .ok d st1 ∧ Kp b st st1 ∧ Str b st1 s' ∧ d = .ref c ∧ st1[c]? = some (.lst es) ∧ RVs A st1 ys es := by
    cases bb with
    | false =>
      obtain ⟨d, st1, e3, k, z1, ⟨c, es, ed, n, gc, q1⟩, _⟩ := h _ _ _ _ _ _ _ _ l.ok r.v1 z e1
      exact ⟨d, st1, c, es, e3, k, z1, ed, gc, q1⟩
    | true =>
      obtain ⟨d, st1, e3, k, z1, ⟨c, es, ed, n, gc, q1⟩, _⟩ := h _ _ _ _ _ _ _ _ l.ok0 (r.v2 l) z e1
      exact ⟨d, st1, c, es, e3, k, z1, ed, gc, RVs.flat _ _ (by simpa using hc.1) q1⟩
  obtain ⟨d, st1, c, es, e3, k, z1, ed, gc, q1⟩ := main
  subst ed
  have r1 := r.mono k l.ok.lo l.bn
  have l1 := l.mono k.1
  have g1 : st1[a]? = some (.lst ds) := (k.2 a (Nat.le_trans l.bn hn) (lt_of_get g) (by simp)).trans g
  obtain ⟨k2, r2⟩ := r1.write l1 hv he hn hA g1 (xs' := xs ++ ys) (ds' := ds ++ es) ((q.mono k.any l.ok.lo).append q1)
  refine ⟨.nx env, st1.set a (.lst (ds ++ es)), A, ?_, KpS.trans (KpA.kps k) .refl k2, z1.set (Nat.le_trans l.bn hn), l1.mono k2.1, .refl, r2⟩
  unfold sExpr eMeth
  rw [var_ok he]
  show ((if isTy "list" st (.ref a) = true then _ else _ : Res D).bind _) = _
  rw [if_pos (isTy_lst g)]
  unfold aCons aNil
  rw [e3]
  show ((mExtend (.ref a) [.ref c] st1).bind _) = _
  unfold mExtend
  dsimp only
  rw [mutAt_of g1, mutAt_of gc]
  dsimp only
  rw [if_pos (by rw [q.length, q1.length]; exact hc.2)]
  rfl
theorem q_sub {i : Nat} (h : OkE m v f) (h2 : OkE m2 v2 f2) : OkS (sAsg m (tSub (eVar i) m2 opSet)) (VV.sSub i bb v v2) fr := fun b n0 A0 A st env venv s fl s' l r z e => by
  obtain ⟨x, s1, e1, e2⟩ := bd_inv e
  obtain ⟨y, s2, e3, e4⟩ := bd_inv e2
  split at e4 <;> first | (cases e4; done) | skip
  rename_i xs n ho
  split at e4 <;> first | (cases e4; done) | skip
  rename_i j hj
  split at e4 <;> first | (cases e4; done) | skip
  rename_i hc
  cases e4
  obtain ⟨a, ds, hv, he, hn, hA, g, q⟩ := own_at r ho
  obtain ⟨d, st1, e5, k, z1, q1⟩ := item_of h l r z e1 hc
  have r1 := r.mono k l.ok.lo l.bn
  have l1 := l.mono k.1
  obtain ⟨d2, st2, e6, k2, z2, q2, _⟩ := h2 _ _ _ _ _ _ _ _ l1.ok0 (r1.v2 l1) z1 e3
  obtain rfl : d2 = .int n := q2
  have r2 := r1.mono k2 l.ok.lo l.bn
  have l2 := l1.mono k2.1
  have k12 := k.trans k2
  have g1 : st2[a]? = some (.lst ds) := (k12.2 a (Nat.le_trans l.bn hn) (lt_of_get g) (by simp)).trans g
  have qs : ∀ {xs : List P} {ds : List D} {j : Nat}, RVs A st2 xs ds → RVs A st2 (xs.set j x) (ds.set j d) := by
    intro xs
    induction xs with
    | nil => intro ds j h; rw [show ds = [] from h]; exact rfl
    | cons u us ih =>
      rintro ds j ⟨d', r', e, h1, h2⟩
      subst e
      cases j with
      | zero => exact ⟨d, r', rfl, q1.mono k2.any l.ok.lo, h2⟩
      | succ j => exact ⟨d', _, rfl, h1, ih h2⟩
  obtain ⟨k3, r3⟩ := r2.write l2 hv he hn hA g1 (xs' := xs.set j x) (ds' := ds.set j d) (qs (q.mono k12.any l.ok.lo))
  refine ⟨.nx env, st2.set a (.lst (ds.set j d)), A, ?_, KpS.trans (KpA.kps k12) .refl k3, z2.set (Nat.le_trans l.bn hn), l2.mono k3.1, .refl, r3⟩
  unfold sAsg tSub
  rw [e5]
  show (((eVar i env st1).bind _).bind _ : Res Fl) = _
  rw [var_ok he]
  show (((m2 env st1).bind _).bind _ : Res Fl) = _
  rw [e6]
  show (((opSet (.ref a) (.int n) d st2).bind _).bind _ : Res Fl) = _
  unfold opSet
  dsimp only
  rw [g1]
  dsimp only
  rw [q.length, hj]
  rfl
theorem RVs.erase {A : List Nat} {st : Sto} : ∀ {xs : List P} {ds : List D} {j : Nat}, RVs A st xs ds → RVs A st (xs.eraseIdx j) (ds.eraseIdx j)
  | [], ds, j, h => by rw [show ds = [] from h]; exact rfl
  | u :: us, ds, 0, ⟨d', r', e, h1, h2⟩ => by subst e; exact h2
  | u :: us, ds, j + 1, ⟨d', r', e, h1, h2⟩ => by subst e; exact ⟨d', _, rfl, h1, RVs.erase h2⟩
theorem q_apppop {i j : Nat} (h : OkE m v f) : OkS (sExpr (eMeth "list" mAppend (eVar i) (aCons (eMeth "list" mPop (eVar j) (aCons m aNil)) aNil))) (VV.sAppPop i j v) fr := fun b n0 A0 A st env venv s fl s' l r z e => by
  obtain ⟨y, s1, e1, e2⟩ := bd_inv e
  split at e2 <;> first | (cases e2; done) | skip
  rename_i xs ys n ho1 ho2
  split at e2 <;> first | (cases e2; done) | skip
  rename_i p hp
  split at e2 <;> first | (cases e2; done) | skip
  rename_i x hx
  split at e2 <;> first | (cases e2; done) | skip
  rename_i hc
  cases e2
  obtain ⟨a, ds, hv, he, hn, hA, g, q⟩ := own_at r ho1
  obtain ⟨c, es, hv2, he2, hn2, hA2, g2, q2⟩ := own_at r ho2
  obtain ⟨d1, st1, e5, k, z1, q1, _⟩ := h _ _ _ _ _ _ _ _ l.ok0 (r.v2 l) z e1
  obtain rfl : d1 = .int n := q1
  have r1 := r.mono k l.ok.lo l.bn
  have l1 := l.mono k.1
  have g1 : st1[a]? = some (.lst ds) := (k.2 a (Nat.le_trans l.bn hn) (lt_of_get g) (by simp)).trans g
  have g3 : st1[c]? = some (.lst es) := (k.2 c (Nat.le_trans l.bn hn2) (lt_of_get g2) (by simp)).trans g2
  have q3 := q2.mono k.any l.ok.lo
  obtain ⟨dx, hd, qx⟩ := q3.get hx
  obtain ⟨k2, r2⟩ := r1.write l1 hv2 he2 hn2 hA2 g3 (xs' := ys.eraseIdx p) (ds' := es.eraseIdx p) q3.erase
  have l2 := l1.mono k2.1
  have ac : a ≠ c := fun z => by
    subst z
    exact hc.1 (r.ne i j a _ _ hv hv2 he he2)
  have g4 : (st1.set c (.lst (es.eraseIdx p)))[a]? = some (.lst ds) := by rw [List.getElem?_set_ne (Ne.symm ac)]; exact g1
  have hv' : (venv.set j (some (.own (ys.eraseIdx p))))[i]? = some (some (.own xs)) := by rw [List.getElem?_set_ne (Ne.symm hc.1)]; exact hv
  have q4 : RVs A (st1.set c (.lst (es.eraseIdx p))) (xs ++ [x]) (ds ++ [dx]) := ((q.mono k.any l.ok.lo).append (.one qx)).mono k2.kpa l.ok.lo
  obtain ⟨k5, r5⟩ := r2.write l2 hv' he hn hA g4 q4
  refine ⟨.nx env, (st1.set c (.lst (es.eraseIdx p))).set a (.lst (ds ++ [dx])), A, ?_, KpS.trans (KpS.trans (KpA.kps k) .refl k2) .refl k5, (z1.set (Nat.le_trans l.bn hn2)).set (Nat.le_trans l.bn hn), l2.mono k5.1, .refl, r5⟩
  unfold VV.popAt at hp
  split at hp <;> first | (cases hp; done) | skip
  rename_i hk
  have hm : mPop (.ref c) [.int n] st1 = .ok dx (st1.set c (.lst (es.eraseIdx p))) := by
    unfold mPop
    dsimp only
    rw [mutAt_of g3]
    dsimp only
    rw [if_pos hk, q2.length, hp]
    dsimp only
    rw [hd]
  have hpop : eMeth "list" mPop (eVar j) (aCons m aNil) env st = .ok dx (st1.set c (.lst (es.eraseIdx p))) := by
    unfold eMeth
    rw [var_ok he2]
    show (if isTy "list" st (.ref c) = true then _ else _ : Res D) = _
    rw [if_pos (isTy_lst g2)]
    unfold aCons aNil
    rw [e5]
    exact hm
  unfold sExpr
  rw [show eMeth "list" mAppend (eVar i) (aCons (eMeth "list" mPop (eVar j) (aCons m aNil)) aNil) env st = mAppend (.ref a) [dx] (st1.set c (.lst (es.eraseIdx p))) from by
    rw [eMeth]
    rw [var_ok he]
    show (if isTy "list" st (.ref a) = true then _ else _ : Res D) = _
    rw [if_pos (isTy_lst g)]
    rw [aCons]
    rw [hpop]
    rfl]
  unfold mAppend
  dsimp only
  rw [mutAt_of g4]
  dsimp only
  rw [if_pos (by rw [q.length]; exact hc.2)]
  rfl
theorem q_for {ms : Env → M Src} {vs : VEnv → VM (List P)} {ng : Bool} {t : Tgt} {vt : VV.VT} {a1 : SM} {w1 : VSM} (hi : OkI ms vs ng) (hg : OkG t vt) (h1 : OkS a1 w1 fr) (hb : bb = true → ng = true := by first | exact (fun _ => rfl) | exact (fun z => absurd z Bool.false_ne_true)) : OkS (sFor ms t a1) (VV.sFor bb vs vt w1) fr := fun b n0 A0 A st env venv s fl s' l r z e => by
  obtain ⟨x, s1, e1, e2⟩ := bd_inv e
  split at e2 <;> first | (cases e2; done) | skip
  rename_i hc
  have main : Got b st s1 (ms env st) (fun src st' => RVs A st' x src.1 ∧ ∀ st'', KpA b A st' st'' → src.2 st'' = true) := by
    cases bb with
    | false => exact (hi _ _ _ _ _ _ _ _ l.ok r.v1 z e1).imp fun src st' _ q => ⟨q.1, q.2.1⟩
    | true => exact (hi _ _ _ _ _ _ _ _ l.ok0 (r.v2 l) z e1).imp fun src st' _ q => ⟨RVs.flat _ _ (by simpa using hc) q.1, fun st'' _ => q.2.2 (hb rfl) st''⟩
  exact main.bindS fun src st1 k z1 q => forL_of hg h1 x src.1 A st1 env venv s1 fl s' (l.mono k.1) (r.mono k l.ok.lo l.bn) z1 q.1 q.2 e2
theorem q_asg {t : Tgt} {vt : VV.VT} (h : OkE m v f) (hg : OkG t vt) : OkS (sAsg m t) (VV.sAsg bb v vt) fr := fun b n0 A0 A st env venv s fl s' l r z e => by
  obtain ⟨x, s1, e1, e2⟩ := bd_inv e
  split at e2 <;> first | (cases e2; done) | skip
  rename_i hc
  obtain ⟨bs, s2, e3, e4⟩ := bd_inv e2
  obtain ⟨e5, e6⟩ := lift_inv e3
  cases e4
  refine (item_of h l r z e1 hc).bindS fun d st1 k z1 q => ?_
  obtain ⟨ds, e7, q7⟩ := hg A st1 d x bs env q e5
  rw [e7]
  subst e6
  exact .ok (l.mono k.1) z1 ((r.mono k l.ok.lo l.bn).setsV q7)
theorem start_of {A : List Nat} {st : Sto} {n : Nat} : ∀ {vs : List P} {ds : List D}, RVs A st vs ds → ∀ n0, RSe n0 A st (VV.start n vs) (start n ds) := by
  intro vs ds r n0
  have hl := r.length
  refine ⟨by unfold VV.start start; simp [hl], fun i x e => ?_, fun i j a xs ys e1 e2 e3 e4 => ?_, fun i y e => ?_⟩
  · unfold VV.start at e
    by_cases hi : i < vs.length
    · rw [List.getElem?_append_left (by simpa using hi), List.getElem?_map] at e
      obtain ⟨v, e1, e2⟩ := Option.map_eq_some_iff.mp e
      cases e2
      obtain ⟨d, e3, r3⟩ := r.get e1
      refine ⟨d, ?_, r3⟩
      unfold start
      rw [List.getElem?_append_left (by rw [List.length_map, hl]; exact hi), List.getElem?_map, e3]
      rfl
    · rw [List.getElem?_append_right (by simpa using Nat.le_of_not_lt hi)] at e
      have := List.mem_of_getElem? e
      rw [List.mem_replicate] at this
      cases this.2
  · unfold VV.start at e1
    by_cases hi : i < vs.length
    · rw [List.getElem?_append_left (by simpa using hi), List.getElem?_map] at e1
      obtain ⟨v, _, e2⟩ := Option.map_eq_some_iff.mp e1
      cases e2
    · rw [List.getElem?_append_right (by simpa using Nat.le_of_not_lt hi)] at e1
      have := List.mem_of_getElem? e1
      rw [List.mem_replicate] at this
      cases this.2
  · unfold VV.start at e
    by_cases hi : i < vs.length
    · rw [List.getElem?_append_left (by simpa using hi), List.getElem?_map] at e
      obtain ⟨v, _, e2⟩ := Option.map_eq_some_iff.mp e
      cases e2
    · rw [List.getElem?_append_right (by simpa using Nat.le_of_not_lt hi)] at e
      have := List.mem_of_getElem? e
      rw [List.mem_replicate] at this
      cases this.2
theorem q_fn {n : Nat} {a1 : SM} {w1 : VSM} (h : OkS a1 w1 fr) : OkF (fnM n a1) (VV.fnM n w1) fr := fun b A st ds vs s x s' a r z e => by
  obtain ⟨fl, s1, e1, e2⟩ := bd_inv e
  have hb : b ≤ st.length := by
    cases b with
    | zero => omega
    | succ b => have := a.hi b (a.lo b (by omega)); omega
  have l : Lk b st.length A A st := ⟨hb, Nat.le_refl _, a.hi, a.lo, fun _ h => h, a.hi⟩
  obtain ⟨mfl, st', A', e3, k, z1, l1, w, q⟩ := h _ _ _ _ _ _ _ _ _ _ l (start_of r st.length) z e1
  have k' : Kp b st st' := ⟨k.1, fun i hb hi _ => k.2 i hb hi (.inl hi)⟩
  cases fl with
  | nx v =>
    cases mfl <;> first | exact q.elim | skip
    cases e2
    exact ⟨.non, st', by unfold fnM; rw [e3]; rfl, k', z1, rfl, fun _ _ e => nomatch e⟩
  | ret y =>
    cases mfl <;> first | exact q.elim | skip
    cases e2
    exact ⟨_, st', by unfold fnM; rw [e3]; rfl, k', z1, q.1, q.2⟩
  | brk v => cases e2
  | ct v => cases e2
theorem f_bad {g : List D → M D} : OkF g (fun _ _ => none) fr := fun b A st ds vs s x s' a r z e => nomatch e
end
end MM

/-! The stream's draw. -/
namespace MM
open PySem PySem.Spec PyProof.Rows L2

/-! ### equality of data -/
mutual
def depP : P → Nat
  | .tup vs => depsP vs + 1
  | .lst vs => depsP vs + 1
  | _ => 0
def depsP : List P → Nat
  | [] => 0
  | v :: vs => max (depP v) (depsP vs)
end
mutual
/-- values of data: texts' signs below the surrogates -/
def okP : P → Bool
  | .non => true
  | .bl _ => true
  | .int _ => true
  | .str s => s.all fun c => decide (c < 1114112)
  | .tup vs => oksP vs
  | .lst vs => oksP vs
  | .strm => false
  | .ty _ => false
def oksP : List P → Bool
  | [] => true
  | v :: vs => okP v && oksP vs
end
mutual
def pyOf : P → PyData
  | .non => .none
  | .bl b => .bool b
  | .int i => .int i
  | .str s => .str ⟨s.toArray⟩
  | .tup vs => .tuple (pysOf vs)
  | .lst vs => .list (pysOf vs)
  | .strm => .none
  | .ty _ => .none
def pysOf : List P → List PyData
  | [] => []
  | v :: vs => pyOf v :: pysOf vs
end
mutual
theorem toPy_pyOf : ∀ (x : P) (n : Nat), okP x = true → depP x < n → VV.toPy n x = some (pyOf x)
  | .non, n + 1, _, _ => rfl
  | .bl _, n + 1, _, _ => rfl
  | .int _, n + 1, _, _ => rfl
  | .str _, n + 1, _, _ => rfl
  | .tup vs, n + 1, h, d => by
    show (vs.mapM (VV.toPy n)).map PyData.tuple = _
    rw [toPys_pyOf vs n h (by have d' : depsP vs + 1 < n + 1 := d; omega)]; rfl
  | .lst vs, n + 1, h, d => by
    show (vs.mapM (VV.toPy n)).map PyData.list = _
    rw [toPys_pyOf vs n h (by have d' : depsP vs + 1 < n + 1 := d; omega)]; rfl
theorem toPys_pyOf : ∀ (vs : List P) (n : Nat), oksP vs = true → depsP vs < n → vs.mapM (VV.toPy n) = some (pysOf vs)
  | [], n, _, _ => rfl
  | v :: vs, n, h, d => by
    have h' : (okP v && oksP vs) = true := h
    rw [Bool.and_eq_true] at h'
    have d' : max (depP v) (depsP vs) < n := d
    rw [List.mapM_cons, toPy_pyOf v n h'.1 (by omega), toPys_pyOf vs n h'.2 (by omega)]
    rfl
end
mutual
theorem lay_pyOf : ∀ (x : P), okP x = true → (pyOf x).canLay0 = true ∧ (pyOf x).depth = depP x
  | .non, _ => ⟨rfl, rfl⟩
  | .bl _, _ => ⟨rfl, rfl⟩
  | .int _, _ => ⟨rfl, rfl⟩
  | .str s, h => ⟨by
      have h' : (s.all fun c => decide (c < 1114112)) = true := h
      show PyData.strOk ⟨s.toArray⟩ = true
      unfold PyData.strOk
      simpa using h', rfl⟩
  | .tup vs, h => by
    obtain ⟨h1, h2⟩ := lays_pyOf vs h
    exact ⟨h1, by show PyData.depthAll (pysOf vs) + 1 = depsP vs + 1; rw [h2]⟩
  | .lst vs, h => by
    obtain ⟨h1, h2⟩ := lays_pyOf vs h
    exact ⟨h1, by show PyData.depthAll (pysOf vs) + 1 = depsP vs + 1; rw [h2]⟩
theorem lays_pyOf : ∀ (vs : List P), oksP vs = true → PyData.canLayAll0 (pysOf vs) = true ∧ PyData.depthAll (pysOf vs) = depsP vs
  | [], _ => ⟨rfl, rfl⟩
  | v :: vs, h => by
    have h' : (okP v && oksP vs) = true := h
    rw [Bool.and_eq_true] at h'
    obtain ⟨a1, a2⟩ := lay_pyOf v h'.1
    obtain ⟨b1, b2⟩ := lays_pyOf vs h'.2
    refine ⟨?_, ?_⟩
    · show (PyData.canLay0 (pyOf v) && PyData.canLayAll0 (pysOf vs)) = true
      rw [a1, b1]; rfl
    · show max (PyData.depth (pyOf v)) (PyData.depthAll (pysOf vs)) = max (depP v) (depsP vs)
      rw [a2, b2]
end
mutual
theorem eqv_self : ∀ (x : P), PyData.eqv (pyOf x) (pyOf x) = true
  | .non => rfl
  | .bl b => beq_self_eq_true b
  | .int b => beq_self_eq_true b
  | .str b => beq_self_eq_true (⟨b.toArray⟩ : PySem.Str)
  | .tup vs => eqvs_self vs
  | .lst vs => eqvs_self vs
  | .strm => rfl
  | .ty _ => rfl
theorem eqvs_self : ∀ (x : List P), PyData.eqvAll (pysOf x) (pysOf x) = true
  | [] => rfl
  | v :: vs => by
    show (PyData.eqv (pyOf v) (pyOf v) && PyData.eqvAll (pysOf vs) (pysOf vs)) = true
    rw [eqv_self v, eqvs_self vs]; rfl
end
/-- == of lists (or tuples) of data -/
theorem eqP_data {x y : P} (hs : VV.eqS x y = none) (hx : okP x = true) (hy : okP y = true) (dx : depP x < 60) (dy : depP y < 60) : VV.eqP x y = some (PyData.eqv (pyOf x) (pyOf y)) := by
  unfold VV.eqP
  rw [hs]
  dsimp only
  rw [toPy_pyOf x 60 hx dx, toPy_pyOf y 60 hy dy]
  dsimp only
  rw [if_pos]
  obtain ⟨a1, a2⟩ := lay_pyOf x hx
  obtain ⟨b1, b2⟩ := lay_pyOf y hy
  unfold SeqAt.shaped
  rw [a1, b1, a2, b2, decide_eq_true (show depP x ≤ 64 by omega), decide_eq_true (show depP y ≤ 64 by omega)]
  rfl
theorem pys_ints (is : List Int) : pysOf (is.map P.int) = is.map PyData.int := by
  induction is with
  | nil => rfl
  | cons i is ih => show PyData.int i :: pysOf (is.map P.int) = _; rw [ih]; rfl
theorem ok_ints (is : List Int) : oksP (is.map P.int) = true := by
  induction is with
  | nil => rfl
  | cons i is ih => exact ih
theorem dep_ints (is : List Int) : depsP (is.map P.int) = 0 := by
  induction is with
  | nil => rfl
  | cons i is ih => show max 0 (depsP (is.map P.int)) = 0; rw [ih]; rfl
theorem eqv_ints : ∀ (is js : List Int), PyData.eqvAll (is.map PyData.int) (js.map PyData.int) = decide (is = js)
  | [], [] => by simp [PyData.eqvAll]
  | [], j :: js => by simp [PyData.eqvAll]
  | i :: is, [] => by simp [PyData.eqvAll]
  | i :: is, j :: js => by
    show ((i == j) && PyData.eqvAll (is.map PyData.int) (js.map PyData.int)) = _
    rw [eqv_ints is js]
    by_cases h : i = j <;> by_cases h2 : is = js <;> simp [h, h2]
/-- == of two lists of ints -/
theorem eqP_ints (is js : List Int) : VV.eqP (.lst (is.map .int)) (.lst (js.map .int)) = some (decide (is = js)) := by
  rw [eqP_data (x := .lst (is.map .int)) (y := .lst (js.map .int)) rfl (ok_ints is) (ok_ints js) (by show depsP _ + 1 < 60; rw [dep_ints]; decide) (by show depsP _ + 1 < 60; rw [dep_ints]; decide)]
  show some (PyData.eqvAll (pysOf (is.map P.int)) (pysOf (js.map P.int))) = _
  rw [pys_ints, pys_ints, eqv_ints]

/-! ### the draw -/
def m__law_draw : List D → M D := fnM 5 (sSeq (sAsg (eBin opAdd (eBin opIx (eVar 0) (eC (.int 2))) (eC (.int 1))) (tSub (eVar 0) (eC (.int 2)) opSet))
  (sSeq (sWhile (tAnd (tVal (eBin opEq (eBin opIx (eVar 0) (eC (.int 1))) (eC (.int 0)))) (tVal (eBin opNe (eBin opIx (eVar 0) (eC (.int 0))) (eArgs mkLst (aNil)))))
  (sSeq (sSet 3 (eArgs fAbs (aCons (eMeth "list" mPop (eBin opIx (eVar 0) (eC (.int 0))) (aCons (eC (.int 0)) (aNil))) (aNil))))
  (sSeq (sAsg (eBin opMod (eArgs fInt (aCons (eBin opAdd (eBin opAdd (eBin opMul (eBin opIx (eVar 0) (eC (.int 3))) (eC (.int 6151))) (eVar 3)) (eC (.int 7))) (aNil))) (eC (.int 2147483629))) (tSub (eVar 0) (eC (.int 3)) opSet))
  (sAsg (eIf (tVal (eBin opGe (eVar 3) (eBin opPow (eC (.int 10)) (eC (.int 18))))) (eVar 3) (eC (.int 0))) (tSub (eVar 0) (eC (.int 1)) opSet)))))
  (sSeq (sIf (tVal (eBin opGt (eBin opIx (eVar 0) (eC (.int 1))) (eC (.int 0))))
  (sSeq (sSet 4 (eBin opMod (eArgs fInt (aCons (eBin opIx (eVar 0) (eC (.int 1))) (aNil))) (eVar 1)))
  (sSeq (sAsg (eBin opDiv (eBin opIx (eVar 0) (eC (.int 1))) (eVar 1)) (tSub (eVar 0) (eC (.int 1)) opSet))
  (sRet (eVar 4))))
  (sNil))
  (sSeq (sSet 2 (eBin opMod (eArgs fInt (aCons (eBin opPow (eBin opAdd (eBin opAdd (eBin opIx (eVar 0) (eC (.int 3))) (eBin opMul (eC (.int 8191)) (eBin opIx (eVar 0) (eC (.int 2))))) (eC (.int 50021))) (eC (.int 5))) (aNil))) (eC (.int 2147483587))))
  (sRet (eBin opMod (eBin opMod (eArgs fInt (aCons (eBin opPow (eBin opAdd (eBin opAdd (eBin opMul (eVar 2) (eC (.int 40009))) (eBin opMul (eC (.int 20011)) (eBin opIx (eVar 0) (eC (.int 2))))) (eC (.int 31))) (eC (.int 3))) (aNil))) (eC (.int 1000000009))) (eVar 1)))))))
def m__law_stream : List D → M D := fnM 1 (sRet (eArgs mkLst (aCons (eArgs fList (aCons (eVar 0) (aNil))) (aCons (eC (.int 0)) (aCons (eC (.int 0)) (aCons (eC (.int 19)) (aNil)))))))

def ab (k : Int) : Int := if k < 0 then -k else k
/-- the next number of eighteen digits or more, and how the others mix -/
def pull : List Int → Int → Int × List Int × Int
  | [], mx => (0, [], mx)
  | k :: is, mx => if (10 : Int) ^ 18 ≤ (ab k) then (ab k, is, (mx * 6151 + (ab k) + 7).fmod 2147483629) else pull is ((mx * 6151 + (ab k) + 7).fmod 2147483629)
def okS (many : Int) (s : Strm) : Bool := decide (s.is.length ≤ 1000) && decide (0 ≤ s.cnt) && decide (s.cnt < 2 ^ 40) && decide (0 ≤ s.mx) && decide (s.mx < 2147483629) && decide (0 ≤ s.dg) && decide (0 < many) && decide (many < 1073741824)
def pulled (s : Strm) : Strm := if s.dg = 0 then ⟨(pull s.is s.mx).2.1, (pull s.is s.mx).1, s.cnt + 1, (pull s.is s.mx).2.2⟩ else ⟨s.is, s.dg, s.cnt + 1, s.mx⟩
def mixOf (mx cnt many : Int) : Int := (((((mx + 8191 * cnt + 50021) ^ 5).fmod 2147483587 * 40009 + 20011 * cnt + 31) ^ 3).fmod 1000000009).fmod many
def drawS (many : Int) (s : Strm) : Int × Strm := if 0 < (pulled s).dg then ((pulled s).dg.fmod many, ⟨(pulled s).is, (pulled s).dg.fdiv many, (pulled s).cnt, (pulled s).mx⟩)
  else (mixOf (pulled s).mx (pulled s).cnt many, pulled s)
def drawV : List P → VM P := fun vs s => match vs, s with
  | [.strm, .int many], some s => if okS many s then some (.int (drawS many s).1, some (drawS many s).2) else none
  | _, _ => none

def SD (st : Sto) (s : Strm) : Prop := st[0]? = some (.lst (s.is.map .int)) ∧ st[1]? = some (.lst [.ref 0, .int s.dg, .int s.cnt, .int s.mx])
section
variable {st : Sto} {s : Strm} {env : Env}
theorem SD.app (h : SD st s) (t : Sto) : SD (st ++ t) s := ⟨by rw [List.getElem?_append_left (lt_of_get h.1)]; exact h.1, by rw [List.getElem?_append_left (lt_of_get h.2)]; exact h.2⟩
theorem rd {k : Int} {d : D} (h : SD st s) (he : env[0]? = some (some (.ref 1))) (hk : atI [D.ref 0, .int s.dg, .int s.cnt, .int s.mx] k = some d) : eBin opIx (eVar 0) (eC (.int k)) env st = .ok d st := by
  unfold eBin
  rw [var_ok he]
  show opIx (.ref 1) (.int k) st = _
  unfold opIx
  dsimp only
  show (match (lstAt st 1).bind fun ds => atI ds k with | some x => Res.ok x st | none => Res.bad) = _
  rw [lstAt_of h.2]
  show (match atI [D.ref 0, .int s.dg, .int s.cnt, .int s.mx] k with | some x => Res.ok x st | none => Res.bad) = _
  rw [hk]
theorem rd0 (h : SD st s) (he : env[0]? = some (some (.ref 1))) : eBin opIx (eVar 0) (eC (.int 0)) env st = .ok (.ref 0) st := rd h he (by rfl)
theorem rd1 (h : SD st s) (he : env[0]? = some (some (.ref 1))) : eBin opIx (eVar 0) (eC (.int 1)) env st = .ok (.int s.dg) st := rd h he (by rfl)
theorem rd2 (h : SD st s) (he : env[0]? = some (some (.ref 1))) : eBin opIx (eVar 0) (eC (.int 2)) env st = .ok (.int s.cnt) st := rd h he (by rfl)
theorem rd3 (h : SD st s) (he : env[0]? = some (some (.ref 1))) : eBin opIx (eVar 0) (eC (.int 3)) env st = .ok (.int s.mx) st := rd h he (by rfl)
theorem wr {k : Int} {j : Nat} {d : D} (h : SD st s) (he : env[0]? = some (some (.ref 1))) (hk : ixN 4 k = some j) : tSub (eVar 0) (eC (.int k)) opSet d env st = .ok env (st.set 1 (.lst ([.ref 0, .int s.dg, .int s.cnt, .int s.mx].set j d))) := by
  unfold tSub
  rw [var_ok he]
  show ((opSet (.ref 1) (.int k) d st).bind _) = _
  unfold opSet
  dsimp only
  rw [h.2]
  dsimp only
  rw [show [D.ref 0, .int s.dg, .int s.cnt, .int s.mx].length = 4 from rfl, hk]
  rfl
theorem SD.set (h : SD st s) {s' : Strm} (hi : s'.is = s.is) {o : List D} (ho : o = [.ref 0, .int s'.dg, .int s'.cnt, .int s'.mx]) : SD (st.set 1 (.lst o)) s' := by
  subst ho
  exact ⟨by rw [List.getElem?_set_ne (by decide), hi]; exact h.1, List.getElem?_set_self (lt_of_get h.2)⟩
theorem Kp.set1 {o : O} : Kp 2 st (st.set 1 o) := ⟨by simp, fun i hb hi _ => by rw [List.getElem?_set_ne (by omega)]⟩
theorem Kp.set0 {o : O} : Kp 2 st (st.set 0 o) := ⟨by simp, fun i hb hi _ => by rw [List.getElem?_set_ne (by omega)]⟩
theorem mapM_ints (n : Nat) (st : Sto) : ∀ is : List Int, (is.map D.int).mapM (toPy st (n + 1)) = some (is.map PyData.int)
  | [] => rfl
  | i :: is => by
    rw [List.map_cons, List.mapM_cons, mapM_ints n st is]; rfl
/-- stream[0] != [] -/
theorem ne_nil (h : SD st s) : opNe (.ref 0) (.ref st.length) (st ++ [.lst []]) = .ok (.bl (!decide (s.is = []))) (st ++ [.lst []]) := by
  have e0 : toPy (st ++ [.lst []]) 60 (.ref 0) = some (.list (s.is.map .int)) := by
    show ((lstAt (st ++ [.lst []]) 0).bind fun ds => (ds.mapM (toPy (st ++ [.lst []]) 59)).map PyData.list) = _
    rw [lstAt_of (h.app _).1]
    show ((s.is.map D.int).mapM (toPy _ 59)).map PyData.list = _
    rw [mapM_ints]; rfl
  have e1 : toPy (st ++ [.lst []]) 60 (.ref st.length) = some (.list (([] : List Int).map .int)) := by
    show ((lstAt (st ++ [.lst []]) st.length).bind fun ds => (ds.mapM (toPy (st ++ [.lst []]) 59)).map PyData.list) = _
    rw [lstAt_of (ds := []) (by simp)]
    rfl
  have hs : ∀ is : List Int, SeqAt.shaped (.list (is.map .int)) = true := fun is => by
    obtain ⟨a1, a2⟩ := lay_pyOf (.lst (is.map .int)) (ok_ints is)
    have e : pyOf (.lst (is.map .int)) = .list (is.map .int) := by show PyData.list (pysOf _) = _; rw [pys_ints]
    rw [e] at a1 a2
    unfold SeqAt.shaped
    rw [a1, a2]
    have : depP (.lst (is.map .int)) = 1 := by show depsP _ + 1 = 1; rw [dep_ints]
    rw [this]; rfl
  have he : eqD (st ++ [.lst []]) (.ref 0) (.ref st.length) = some (decide (s.is = [])) := by
    unfold eqD
    show (match toPy _ 60 _, toPy _ 60 _ with | some x, some y => _ | _, _ => _) = _
    rw [e0, e1]
    dsimp only
    rw [hs, hs]
    show some (PyData.eqvAll (s.is.map PyData.int) (([] : List Int).map PyData.int)) = _
    rw [eqv_ints]
  unfold opNe
  rw [he]
end
end MM

/-! The stream's draw: what it does to the store. -/
namespace MM
open PySem PySem.Spec PyProof.Rows L2

abbrev dTest : Env → M Bool := tAnd (tVal (eBin opEq (eBin opIx (eVar 0) (eC (.int 1))) (eC (.int 0)))) (tVal (eBin opNe (eBin opIx (eVar 0) (eC (.int 0))) (eArgs mkLst (aNil))))
abbrev dBody : SM := sSeq (sSet 3 (eArgs fAbs (aCons (eMeth "list" mPop (eBin opIx (eVar 0) (eC (.int 0))) (aCons (eC (.int 0)) (aNil))) (aNil))))
  (sSeq (sAsg (eBin opMod (eArgs fInt (aCons (eBin opAdd (eBin opAdd (eBin opMul (eBin opIx (eVar 0) (eC (.int 3))) (eC (.int 6151))) (eVar 3)) (eC (.int 7))) (aNil))) (eC (.int 2147483629))) (tSub (eVar 0) (eC (.int 3)) opSet))
  (sAsg (eIf (tVal (eBin opGe (eVar 3) (eBin opPow (eC (.int 10)) (eC (.int 18))))) (eVar 3) (eC (.int 0))) (tSub (eVar 0) (eC (.int 1)) opSet)))
section
variable {st : Sto} {s : Strm} {env : Env}
theorem eBin_ok {f : D → D → M D} {a c : Env → M D} {x y : D} {st1 st2 : Sto} (h1 : a env st = .ok x st1) (h2 : c env st1 = .ok y st2) : eBin f a c env st = f x y st2 := by
  unfold eBin
  rw [h1]
  show ((c env st1).bind _) = _
  rw [h2]; rfl
theorem eC_ok {d : D} : eC d env st = .ok d st := rfl
theorem tVal_ok {a : Env → M D} {c : Bool} {st1 : Sto} (h : a env st = .ok (.bl c) st1) : tVal a env st = .ok c st1 := by
  unfold tVal
  rw [h]; rfl
theorem args1_ok {f : List D → M D} {a : Env → M D} {x : D} {st1 : Sto} (h : a env st = .ok x st1) : eArgs f (aCons a aNil) env st = f [x] st1 := by
  unfold eArgs aCons
  rw [h]; rfl
theorem sSet_ok {i : Nat} {a : Env → M D} {x : D} {st1 : Sto} (h : a env st = .ok x st1) : sSet i a env st = .ok (.nx (env.set i (some x))) st1 := by
  unfold sSet
  rw [h]; rfl
theorem sSeq_ok {a c : SM} {env1 : Env} {st1 : Sto} (h : a env st = .ok (.nx env1) st1) : sSeq a c env st = c env1 st1 := by
  unfold sSeq
  rw [h]; rfl
theorem sAsg_ok {a : Env → M D} {t : Tgt} {x : D} {env1 : Env} {st1 st2 : Sto} (h : a env st = .ok x st1) (h2 : t x env st1 = .ok env1 st2) : sAsg a t env st = .ok (.nx env1) st2 := by
  unfold sAsg
  rw [h]
  show ((t x env st1).bind _) = _
  rw [h2]; rfl
theorem eqI {i j : Int} : opEq (.int i) (.int j) st = .ok (.bl (decide (i = j))) st := rfl
theorem test_no (h : SD st s) (he : env[0]? = some (some (.ref 1))) (hd : s.dg ≠ 0) : dTest env st = .ok false st := by
  show tAnd _ _ env st = _
  unfold tAnd
  rw [tVal_ok ((eBin_ok (rd1 h he) eC_ok).trans eqI), decide_eq_false hd]
  rfl
theorem test_yes (h : SD st s) (he : env[0]? = some (some (.ref 1))) (hd : s.dg = 0) : dTest env st = .ok (!decide (s.is = [])) (st ++ [.lst []]) := by
  show tAnd _ _ env st = _
  unfold tAnd
  rw [tVal_ok ((eBin_ok (rd1 h he) eC_ok).trans eqI), decide_eq_true hd]
  show tVal _ env st = _
  refine tVal_ok ((eBin_ok (rd0 h he) (?_ : eArgs mkLst aNil env st = .ok (.ref st.length) (st ++ [.lst []]))).trans (ne_nil h))
  rfl
theorem absI (k : Int) (st : Sto) : fAbs [.int k] st = .ok (.int (ab k)) st := rfl
theorem body_ok {k : Int} {is : List Int} (h : SD st s) (he : env[0]? = some (some (.ref 1))) (hl : env.length = 5) (hs : s.is = k :: is) :
    ∃ env' st', dBody env st = .ok (.nx env') st' ∧ Kp 2 st st' ∧ SD st' ⟨is, if (10 : Int) ^ 18 ≤ (ab k) then (ab k) else 0, s.cnt, (s.mx * 6151 + (ab k) + 7).fmod 2147483629⟩ ∧ env'[0]? = some (some (.ref 1)) ∧ env'[1]? = env[1]? ∧ env'.length = 5 := by
  -- pop
  have hp : eMeth "list" mPop (eBin opIx (eVar 0) (eC (.int 0))) (aCons (eC (.int 0)) aNil) env st = .ok (.int k) (st.set 0 (.lst (is.map .int))) := by
    unfold eMeth
    rw [rd0 h he]
    show (if isTy "list" st (.ref 0) = true then _ else _ : Res D) = _
    rw [if_pos (isTy_lst h.1)]
    show mPop (.ref 0) [.int 0] st = _
    unfold mPop
    dsimp only
    rw [mutAt_of h.1, hs]
    dsimp only
    rw [if_pos ⟨by decide, by decide⟩, show seqIndex? 0 ((k :: is).map D.int).length = some 0 from by unfold seqIndex?; simp]
    rfl
  have h0 : sSet 3 (eArgs fAbs (aCons (eMeth "list" mPop (eBin opIx (eVar 0) (eC (.int 0))) (aCons (eC (.int 0)) (aNil))) (aNil))) env st = .ok (.nx (env.set 3 (some (.int (ab k))))) (st.set 0 (.lst (is.map .int))) :=
    sSet_ok ((args1_ok hp).trans (absI k _))
  have S1 : SD (st.set 0 (.lst (is.map .int))) ⟨is, s.dg, s.cnt, s.mx⟩ := ⟨List.getElem?_set_self (lt_of_get h.1), by rw [List.getElem?_set_ne (by decide)]; exact h.2⟩
  have hE : (env.set 3 (some (D.int (ab k))))[0]? = some (some (.ref 1)) := by rw [List.getElem?_set_ne (by decide)]; exact he
  have h3 : (env.set 3 (some (D.int (ab k))))[3]? = some (some (.int (ab k))) := List.getElem?_set_self (by omega)
  have hm : eBin opMod (eArgs fInt (aCons (eBin opAdd (eBin opAdd (eBin opMul (eBin opIx (eVar 0) (eC (.int 3))) (eC (.int 6151))) (eVar 3)) (eC (.int 7))) (aNil))) (eC (.int 2147483629)) (env.set 3 (some (.int (ab k)))) (st.set 0 (.lst (is.map .int)))
      = .ok (.int ((s.mx * 6151 + (ab k) + 7).fmod 2147483629)) (st.set 0 (.lst (is.map .int))) := by
    have a1 : eBin opMul (eBin opIx (eVar 0) (eC (.int 3))) (eC (.int 6151)) (env.set 3 (some (.int (ab k)))) (st.set 0 (.lst (is.map .int))) = .ok (.int (s.mx * 6151)) (st.set 0 (.lst (is.map .int))) :=
      (eBin_ok (rd3 S1 hE) eC_ok).trans (by
        unfold opMul
        dsimp only
        rw [if_pos (.inr (by decide))])
    have a2 := (eBin_ok (f := opAdd) a1 (var_ok h3)).trans (show opAdd (.int (s.mx * 6151)) (.int (ab k)) _ = .ok (.int (s.mx * 6151 + (ab k))) _ from rfl)
    have a3 := (eBin_ok (f := opAdd) a2 (eC_ok (d := .int 7))).trans (show opAdd (.int (s.mx * 6151 + (ab k))) (.int 7) _ = .ok (.int (s.mx * 6151 + (ab k) + 7)) _ from rfl)
    have a4 := (args1_ok (f := fInt) a3).trans (show fInt [.int (s.mx * 6151 + (ab k) + 7)] _ = .ok (.int (s.mx * 6151 + (ab k) + 7)) _ from rfl)
    exact (eBin_ok (f := opMod) a4 (eC_ok (d := .int 2147483629))).trans (by
      unfold opMod
      dsimp only
      rw [if_pos (by decide)])
  have w1 := sAsg_ok hm (wr (k := 3) (j := 3) S1 hE (by rfl))
  have S2 := S1.set (s' := ⟨is, s.dg, s.cnt, (s.mx * 6151 + (ab k) + 7).fmod 2147483629⟩) rfl (o := [D.ref 0, .int s.dg, .int s.cnt, .int s.mx].set 3 (.int ((s.mx * 6151 + (ab k) + 7).fmod 2147483629))) rfl
  have hg : eIf (tVal (eBin opGe (eVar 3) (eBin opPow (eC (.int 10)) (eC (.int 18))))) (eVar 3) (eC (.int 0)) (env.set 3 (some (.int (ab k)))) ((st.set 0 (.lst (is.map .int))).set 1 (.lst ([D.ref 0, .int s.dg, .int s.cnt, .int s.mx].set 3 (.int ((s.mx * 6151 + (ab k) + 7).fmod 2147483629)))))
      = .ok (.int (if (10 : Int) ^ 18 ≤ (ab k) then (ab k) else 0)) ((st.set 0 (.lst (is.map .int))).set 1 (.lst ([D.ref 0, .int s.dg, .int s.cnt, .int s.mx].set 3 (.int ((s.mx * 6151 + (ab k) + 7).fmod 2147483629))))) := by
    unfold eIf
    have b1 := (eBin_ok (env := env.set 3 (some (.int (ab k)))) (st := (st.set 0 (.lst (is.map .int))).set 1 (.lst ([D.ref 0, .int s.dg, .int s.cnt, .int s.mx].set 3 (.int ((s.mx * 6151 + (ab k) + 7).fmod 2147483629))))) (f := opPow) (eC_ok (d := .int 10)) (eC_ok (d := .int 18))).trans (show opPow (.int 10) (.int 18) _ = .ok (.int (10 ^ 18)) _ from by
      unfold opPow
      dsimp only
      rw [if_pos ⟨by decide, by decide, by decide⟩]; rfl)
    have b2 := (eBin_ok (f := opGe) (var_ok h3) b1).trans (show opGe (.int (ab k)) (.int (10 ^ 18)) _ = .ok (.bl (decide ((10 : Int) ^ 18 ≤ (ab k)))) _ from rfl)
    rw [tVal_ok b2]
    show (if decide ((10 : Int) ^ 18 ≤ (ab k)) = true then _ else _ : Res D) = _
    by_cases hc : (10 : Int) ^ 18 ≤ (ab k)
    · rw [if_pos (decide_eq_true hc), if_pos hc]
      exact var_ok h3
    · rw [if_neg (by rw [decide_eq_false hc]; exact Bool.false_ne_true), if_neg hc]
      rfl
  have w2 := sAsg_ok hg (wr (k := 1) (j := 1) S2 hE (by rfl))
  refine ⟨env.set 3 (some (.int (ab k))), _, ?_, ?_, S2.set (s' := ⟨is, if (10 : Int) ^ 18 ≤ (ab k) then (ab k) else 0, s.cnt, (s.mx * 6151 + (ab k) + 7).fmod 2147483629⟩) rfl (o := [D.ref 0, .int s.dg, .int s.cnt, .int ((s.mx * 6151 + (ab k) + 7).fmod 2147483629)].set 1 (.int (if (10 : Int) ^ 18 ≤ (ab k) then (ab k) else 0))) rfl, hE, by rw [List.getElem?_set_ne (by decide)], by simp [hl]⟩
  · show sSeq _ (sSeq _ _) env st = _
    rw [sSeq_ok h0, sSeq_ok w1]
    exact w2
  · exact (Kp.set0.trans Kp.set1).trans Kp.set1
def pulled0 (s : Strm) : Strm := if s.dg = 0 then ⟨(pull s.is s.mx).2.1, (pull s.is s.mx).1, s.cnt, (pull s.is s.mx).2.2⟩ else s
theorem loop_ok : ∀ (l : List Int) (n : Nat) (st : Sto) (s : Strm) (env : Env), s.is = l → l.length < n → SD st s → env[0]? = some (some (.ref 1)) → env.length = 5 →
    ∃ env' st', whileN dTest dBody n env st = .ok (.nx env') st' ∧ Kp 2 st st' ∧ SD st' (pulled0 s) ∧ env'[0]? = some (some (.ref 1)) ∧ env'[1]? = env[1]? ∧ env'.length = 5 := by
  intro l
  induction l with
  | nil =>
    intro n st s env hs hn S he hl
    obtain ⟨n, rfl⟩ : ∃ m, n = m + 1 := ⟨n - 1, by simp at hn; omega⟩
    by_cases hd : s.dg = 0
    · refine ⟨env, st ++ [.lst []], ?_, .app, ?_, he, rfl, hl⟩
      · unfold whileN
        rw [test_yes S he hd, hs]
        rfl
      · have e : pulled0 s = s := by
          unfold pulled0
          rw [if_pos hd, hs]
          cases s
          simp_all [pull]
        rw [e]
        exact S.app _
    · refine ⟨env, st, ?_, .refl, ?_, he, rfl, hl⟩
      · unfold whileN
        rw [test_no S he hd]
        rfl
      · unfold pulled0
        rw [if_neg hd]
        exact S
  | cons k is ih =>
    intro n st s env hs hn S he hl
    obtain ⟨n, rfl⟩ : ∃ m, n = m + 1 := ⟨n - 1, by simp at hn; omega⟩
    by_cases hd : s.dg = 0
    · obtain ⟨env1, st1, e1, k1, S1, he1, hv1, hl1⟩ := body_ok (S.app [.lst []]) he hl hs
      obtain ⟨env2, st2, e2, k2, S2, he2, hv2, hl2⟩ := ih n st1 _ env1 rfl (by simp at hn; omega) S1 he1 hl1
      refine ⟨env2, st2, ?_, (KpA.app.trans k1).trans k2, ?_, he2, hv2.trans hv1, hl2⟩
      · unfold whileN
        rw [test_yes S he hd, hs, show (!decide (k :: is = [])) = true from by simp]
        show ((dBody env (st ++ [.lst []])).bind _) = _
        rw [e1]
        exact e2
      · have e : pulled0 ⟨is, if (10 : Int) ^ 18 ≤ (ab k) then (ab k) else 0, s.cnt, (s.mx * 6151 + (ab k) + 7).fmod 2147483629⟩ = pulled0 s := by
          unfold pulled0
          rw [if_pos hd, hs]
          dsimp only
          conv => rhs; rw [pull]
          by_cases hc : (10 : Int) ^ 18 ≤ (ab k)
          · have hz : ¬ ab k = 0 := by omega
            rw [if_pos hc, if_neg hz, if_pos hc]
          · rw [if_neg hc, if_pos rfl, if_neg hc]
        rw [← e]
        exact S2
    · refine ⟨env, st, ?_, .refl, ?_, he, rfl, hl⟩
      · unfold whileN
        rw [test_no S he hd]
        rfl
      · unfold pulled0
        rw [if_neg hd]
        exact S
theorem pull_ok : ∀ (is : List Int) (mx : Int), 0 ≤ mx → mx < 2147483629 → 0 ≤ (pull is mx).1 ∧ 0 ≤ (pull is mx).2.2 ∧ (pull is mx).2.2 < 2147483629 ∧ (pull is mx).2.1.length ≤ is.length
  | [], mx, h1, h2 => ⟨Int.le_refl 0, h1, h2, Nat.le_refl _⟩
  | k :: is, mx, h1, h2 => by
    have b1 : 0 ≤ (mx * 6151 + (ab k) + 7).fmod 2147483629 := Int.fmod_nonneg_of_pos _ (by decide)
    have b2 : (mx * 6151 + (ab k) + 7).fmod 2147483629 < 2147483629 := Int.fmod_lt_of_pos _ (by decide)
    have b3 : 0 ≤ ab k := by unfold ab; split <;> omega
    unfold pull
    split
    · exact ⟨b3, b1, b2, by simp⟩
    · obtain ⟨c1, c2, c3, c4⟩ := pull_ok is _ b1 b2
      exact ⟨c1, c2, c3, by simp; omega⟩
end
end MM

/-! The draw as a def on plain values. -/
namespace MM
open PySem PySem.Spec PyProof.Rows L2

section
variable {st st1 st2 : Sto} {s : Strm} {env : Env}
theorem addI {i j : Int} : opAdd (.int i) (.int j) st = .ok (.int (i + j)) st := rfl
theorem mulI {i j : Int} (h : i.natAbs < 2 ^ 64 ∨ j.natAbs < 2 ^ 64) : opMul (.int i) (.int j) st = .ok (.int (i * j)) st := by
  unfold opMul
  dsimp only
  rw [if_pos h]
theorem modI {i j : Int} (h : j ≠ 0) : opMod (.int i) (.int j) st = .ok (.int (i.fmod j)) st := by
  unfold opMod
  dsimp only
  rw [if_pos h]
theorem divI {i j : Int} (h : j ≠ 0 ∧ j.natAbs < 1073741824) : opDiv (.int i) (.int j) st = .ok (.int (i.fdiv j)) st := by
  unfold opDiv
  dsimp only
  rw [if_pos h]
theorem powI {i j : Int} (h : 0 ≤ j ∧ j ≤ 1000000 ∧ i.natAbs < 2 ^ 64) : opPow (.int i) (.int j) st = .ok (.int (i ^ j.toNat)) st := by
  unfold opPow
  dsimp only
  rw [if_pos h]
theorem intI {i : Int} : fInt [.int i] st = .ok (.int i) st := rfl
theorem gtI {i j : Int} : opGt (.int i) (.int j) st = .ok (.bl (decide (j < i))) st := rfl
theorem okS_iff {many : Int} : okS many s = true ↔ s.is.length ≤ 1000 ∧ 0 ≤ s.cnt ∧ s.cnt < 2 ^ 40 ∧ 0 ≤ s.mx ∧ s.mx < 2147483629 ∧ 0 ≤ s.dg ∧ 0 < many ∧ many < 1073741824 := by
  unfold okS
  simp only [Bool.and_eq_true, decide_eq_true_eq]
  constructor
  · rintro ⟨⟨⟨⟨⟨⟨⟨a, b⟩, c⟩, d⟩, e⟩, f⟩, g⟩, h⟩
    exact ⟨a, b, c, d, e, f, g, h⟩
  · rintro ⟨a, b, c, d, e, f, g, h⟩
    exact ⟨⟨⟨⟨⟨⟨⟨a, b⟩, c⟩, d⟩, e⟩, f⟩, g⟩, h⟩
theorem pulled_ok {many : Int} (h : okS many s = true) : (pulled s).is.length ≤ s.is.length ∧ (pulled s).cnt = s.cnt + 1 ∧ 0 ≤ (pulled s).mx ∧ (pulled s).mx < 2147483629 ∧ 0 ≤ (pulled s).dg := by
  obtain ⟨h1, h2, h3, h4, h5, h6, h7, h8⟩ := okS_iff.mp h
  obtain ⟨c1, c2, c3, c4⟩ := pull_ok s.is s.mx h4 h5
  unfold pulled
  split
  · exact ⟨c4, rfl, c2, c3, c1⟩
  · exact ⟨Nat.le_refl _, rfl, h4, h5, h6⟩
theorem sSeq_ret {a c : SM} {d : D} (h : a env st = .ok (.ret d) st1) : sSeq a c env st = .ok (.ret d) st1 := by
  unfold sSeq
  rw [h]; rfl
theorem sRet_ok {a : Env → M D} {x : D} (h : a env st = .ok x st1) : sRet a env st = .ok (.ret x) st1 := by
  unfold sRet
  rw [h]; rfl
theorem mix_ok {many : Int} (S : SD st s) (he : env[0]? = some (some (.ref 1))) (hv : env[1]? = some (some (.int many))) (hl : env.length = 5) (b1 : 0 ≤ s.mx) (b2 : s.mx < 2147483629) (b3 : 0 ≤ s.cnt) (b4 : s.cnt ≤ 2 ^ 40) (hm : 0 < many) :
    sSeq (sSet 2 (eBin opMod (eArgs fInt (aCons (eBin opPow (eBin opAdd (eBin opAdd (eBin opIx (eVar 0) (eC (.int 3))) (eBin opMul (eC (.int 8191)) (eBin opIx (eVar 0) (eC (.int 2))))) (eC (.int 50021))) (eC (.int 5))) (aNil))) (eC (.int 2147483587))))
      (sRet (eBin opMod (eBin opMod (eArgs fInt (aCons (eBin opPow (eBin opAdd (eBin opAdd (eBin opMul (eVar 2) (eC (.int 40009))) (eBin opMul (eC (.int 20011)) (eBin opIx (eVar 0) (eC (.int 2))))) (eC (.int 31))) (eC (.int 3))) (aNil))) (eC (.int 1000000009))) (eVar 1))) env st
      = .ok (.ret (.int (mixOf s.mx s.cnt many))) st := by
  have a1 := (eBin_ok (f := opMul) (eC_ok (d := .int 8191)) (rd2 S he)).trans (mulI (.inl (by decide)))
  have a2 := (eBin_ok (f := opAdd) (rd3 S he) a1).trans addI
  have a3 := (eBin_ok (f := opAdd) a2 (eC_ok (d := .int 50021))).trans addI
  have a4 := (eBin_ok (f := opPow) a3 (eC_ok (d := .int 5))).trans (powI ⟨by decide, by decide, by omega⟩)
  have a5 := (args1_ok (f := fInt) a4).trans intI
  have a6 := (eBin_ok (f := opMod) a5 (eC_ok (d := .int 2147483587))).trans (modI (by decide))
  have a7 := sSet_ok (i := 2) a6
  rw [sSeq_ok a7]
  have r : ∀ x : D, (env.set 2 (some x))[0]? = some (some (.ref 1)) ∧ (env.set 2 (some x))[1]? = some (some (.int many)) ∧ (env.set 2 (some x))[2]? = some (some x) := fun x =>
    ⟨by rw [List.getElem?_set_ne (by decide)]; exact he, by rw [List.getElem?_set_ne (by decide)]; exact hv, List.getElem?_set_self (by omega)⟩
  obtain ⟨r0, r1, r2⟩ := r (.int (((s.mx + 8191 * s.cnt + 50021) ^ (5 : Int).toNat).fmod 2147483587))
  have m0 : 0 ≤ ((s.mx + 8191 * s.cnt + 50021) ^ (5 : Int).toNat).fmod 2147483587 := Int.fmod_nonneg_of_pos _ (by decide)
  have m1 : ((s.mx + 8191 * s.cnt + 50021) ^ (5 : Int).toNat).fmod 2147483587 < 2147483587 := Int.fmod_lt_of_pos _ (by decide)
  have c1 := (eBin_ok (f := opMul) (st := st) (var_ok r2) (eC_ok (d := .int 40009))).trans (mulI (.inr (by decide)))
  have c2 := (eBin_ok (f := opMul) (eC_ok (d := .int 20011)) (rd2 S r0)).trans (mulI (.inl (by decide)))
  have c3 := (eBin_ok (f := opAdd) c1 c2).trans addI
  have c4 := (eBin_ok (f := opAdd) c3 (eC_ok (d := .int 31))).trans addI
  have c5 := (eBin_ok (f := opPow) c4 (eC_ok (d := .int 3))).trans (powI ⟨by decide, by decide, by omega⟩)
  have c6 := (args1_ok (f := fInt) c5).trans intI
  have c7 := (eBin_ok (f := opMod) c6 (eC_ok (d := .int 1000000009))).trans (modI (by decide))
  have c8 := (eBin_ok (f := opMod) c7 (var_ok r1)).trans (modI (by omega))
  exact sRet_ok c8
theorem dig_ok {many : Int} (S : SD st s) (he : env[0]? = some (some (.ref 1))) (hv : env[1]? = some (some (.int many))) (hl : env.length = 5) (hm : 0 < many) (hm2 : many < 1073741824) :
    ∃ st', sSeq (sSet 4 (eBin opMod (eArgs fInt (aCons (eBin opIx (eVar 0) (eC (.int 1))) (aNil))) (eVar 1)))
      (sSeq (sAsg (eBin opDiv (eBin opIx (eVar 0) (eC (.int 1))) (eVar 1)) (tSub (eVar 0) (eC (.int 1)) opSet))
      (sRet (eVar 4))) env st = .ok (.ret (.int (s.dg.fmod many))) st' ∧ Kp 2 st st' ∧ SD st' ⟨s.is, s.dg.fdiv many, s.cnt, s.mx⟩ := by
  have a1 := (args1_ok (f := fInt) (rd1 S he)).trans intI
  have a2 := (eBin_ok (f := opMod) a1 (var_ok hv)).trans (modI (by omega))
  have a3 := sSet_ok (i := 4) a2
  have r : ∀ x : D, (env.set 4 (some x))[0]? = some (some (.ref 1)) ∧ (env.set 4 (some x))[1]? = some (some (.int many)) ∧ (env.set 4 (some x))[4]? = some (some x) := fun x =>
    ⟨by rw [List.getElem?_set_ne (by decide)]; exact he, by rw [List.getElem?_set_ne (by decide)]; exact hv, List.getElem?_set_self (by omega)⟩
  obtain ⟨r0, r1, r4⟩ := r (.int (s.dg.fmod many))
  have b1 := (eBin_ok (f := opDiv) (rd1 S r0) (var_ok r1)).trans (divI ⟨by omega, by omega⟩)
  have b2 := sAsg_ok b1 (wr (k := 1) (j := 1) S r0 (by rfl))
  refine ⟨_, ?_, Kp.set1, S.set (s' := ⟨s.is, s.dg.fdiv many, s.cnt, s.mx⟩) rfl rfl⟩
  rw [sSeq_ok a3, sSeq_ok b2]
  exact sRet_ok (var_ok r4)
end
theorem fdiv_nonneg {a b : Int} (ha : 0 ≤ a) (hb : 0 < b) : 0 ≤ a.fdiv b := Int.fdiv_nonneg ha (by omega)
theorem draw_ok : OkF m__law_draw drawV true := fun b A st ds vs s x s' a r z e => by
  unfold drawV at e
  split at e <;> first | (cases e; done) | skip
  rename_i many S
  split at e <;> first | (cases e; done) | skip
  rename_i hs
  cases e
  obtain ⟨hb, z0, z1⟩ := z
  subst hb
  obtain ⟨d1, d2, rfl, r1, r2⟩ := two_of r
  obtain rfl : d1 = .ref 1 := r1
  obtain rfl : d2 = .int many := r2
  have SS0 : SD st S := ⟨z0, z1⟩
  obtain ⟨h1, h2, h3, h4, h5, h6, h7, h8⟩ := okS_iff.mp hs
  have he : (start 5 [D.ref 1, .int many])[0]? = some (some (.ref 1)) := rfl
  have b1 := (eBin_ok (f := opAdd) (rd2 SS0 he) (eC_ok (d := .int 1))).trans addI
  have b2 := sAsg_ok b1 (wr (k := 2) (j := 2) SS0 he (by rfl))
  have S1 : SD (st.set 1 (.lst ([D.ref 0, .int S.dg, .int S.cnt, .int S.mx].set 2 (.int (S.cnt + 1))))) ⟨S.is, S.dg, S.cnt + 1, S.mx⟩ := SS0.set (s' := ⟨S.is, S.dg, S.cnt + 1, S.mx⟩) rfl rfl
  obtain ⟨env2, st2, e2, k2, S2, he2, hv2, hl2⟩ := loop_ok S.is fuel _ ⟨S.is, S.dg, S.cnt + 1, S.mx⟩ _ rfl (by have : fuel = 1000000000 := rfl; omega) S1 he rfl
  have ep : pulled0 ⟨S.is, S.dg, S.cnt + 1, S.mx⟩ = pulled S := rfl
  rw [ep] at S2
  have hv2' : env2[1]? = some (some (.int many)) := hv2
  obtain ⟨p1, p2, p3, p4, p5⟩ := pulled_ok hs
  have k1 : Kp 2 st st2 := Kp.set1.trans k2
  have fin : ∀ (v : Int) (st3 : Sto) (S3 : Strm), drawS many S = (v, S3) → Kp 2 st2 st3 → SD st3 S3 →
      (sIf (tVal (eBin opGt (eBin opIx (eVar 0) (eC (.int 1))) (eC (.int 0))))
        (sSeq (sSet 4 (eBin opMod (eArgs fInt (aCons (eBin opIx (eVar 0) (eC (.int 1))) (aNil))) (eVar 1)))
        (sSeq (sAsg (eBin opDiv (eBin opIx (eVar 0) (eC (.int 1))) (eVar 1)) (tSub (eVar 0) (eC (.int 1)) opSet))
        (sRet (eVar 4))))
        (sNil) env2 st2 = .ok (.ret (.int v)) st3 ∨ (sIf (tVal (eBin opGt (eBin opIx (eVar 0) (eC (.int 1))) (eC (.int 0))))
        (sSeq (sSet 4 (eBin opMod (eArgs fInt (aCons (eBin opIx (eVar 0) (eC (.int 1))) (aNil))) (eVar 1)))
        (sSeq (sAsg (eBin opDiv (eBin opIx (eVar 0) (eC (.int 1))) (eVar 1)) (tSub (eVar 0) (eC (.int 1)) opSet))
        (sRet (eVar 4))))
        (sNil) env2 st2 = .ok (.nx env2) st2 ∧ st3 = st2 ∧ v = mixOf (pulled S).mx (pulled S).cnt many)) →
      Got 2 st (some (drawS many S).2) (m__law_draw [.ref 1, .int many] st) (RF A st.length true (.int (drawS many S).1)) := by
    intro v st3 S3 ev k3 S3d hcase
    rw [ev]
    refine ⟨.int v, st3, ?_, k1.trans k3, ⟨rfl, S3d.1, S3d.2⟩, rfl, fun _ => int_new⟩
    unfold m__law_draw fnM
    rw [sSeq_ok b2]
    rw [sSeq_ok (a := sWhile _ _) e2]
    rcases hcase with h | ⟨h, rfl, rfl⟩
    · rw [sSeq_ret h]
      rfl
    · rw [sSeq_ok h]
      rw [mix_ok S2 he2 hv2' hl2 p3 p4 (by omega) (by omega) h7]
      rfl
  have tg : tVal (eBin opGt (eBin opIx (eVar 0) (eC (.int 1))) (eC (.int 0))) env2 st2 = .ok (decide (0 < (pulled S).dg)) st2 := tVal_ok ((eBin_ok (f := opGt) (rd1 S2 he2) (eC_ok (d := .int 0))).trans gtI)
  by_cases hd : 0 < (pulled S).dg
  · obtain ⟨st3, e3, k3, S3⟩ := dig_ok S2 he2 hv2' hl2 h7 h8
    refine fin _ st3 _ (by unfold drawS; rw [if_pos hd]) k3 S3 (.inl ?_)
    unfold sIf
    rw [tg, decide_eq_true hd]
    exact e3
  · refine fin (mixOf (pulled S).mx (pulled S).cnt many) st2 (pulled S) (by unfold drawS; rw [if_neg hd]) .refl S2 (.inr ⟨?_, rfl, rfl⟩)
    unfold sIf
    rw [tg, decide_eq_false hd]
    rfl
/-! ### what laws need of it -/
/-- a stream good for n draws -/
structure Good (n : Nat) (s : SS) : Prop where
  ex : ∃ S, s = some S ∧ S.is.length ≤ 1000 ∧ 0 ≤ S.cnt ∧ S.cnt + n ≤ 2 ^ 40 ∧ 0 ≤ S.mx ∧ S.mx < 2147483629 ∧ 0 ≤ S.dg
theorem Good.mono {n k : Nat} {s : SS} (h : Good n s) (hk : k ≤ n) : Good k s := by
  obtain ⟨S, e, a, b, c, d⟩ := h.ex
  exact ⟨S, e, a, b, by omega, d⟩
theorem Good.draw {n : Nat} {s : SS} (h : Good (n + 1) s) {many : Int} (h1 : 0 < many) (h2 : many < 1073741824) : ∃ (v : Int) (s' : SS), drawV [.strm, .int many] s = some (.int v, s') ∧ 0 ≤ v ∧ v < many ∧ Good n s' := by
  obtain ⟨S, rfl, a, b, c, d, e, f⟩ := h.ex
  have hs : okS many S = true := okS_iff.mpr ⟨a, b, by omega, d, e, f, h1, h2⟩
  obtain ⟨p1, p2, p3, p4, p5⟩ := pulled_ok hs
  refine ⟨(drawS many S).1, some (drawS many S).2, ?_, ?_⟩
  · unfold drawV
    dsimp only
    rw [if_pos hs]
  · by_cases hd : 0 < (pulled S).dg
    · have e : drawS many S = ((pulled S).dg.fmod many, ⟨(pulled S).is, (pulled S).dg.fdiv many, (pulled S).cnt, (pulled S).mx⟩) := by unfold drawS; rw [if_pos hd]
      rw [e]
      exact ⟨Int.fmod_nonneg_of_pos _ h1, Int.fmod_lt_of_pos _ h1, ⟨⟨(pulled S).is, (pulled S).dg.fdiv many, (pulled S).cnt, (pulled S).mx⟩, rfl, by dsimp only; omega, by dsimp only; omega, by dsimp only; omega, p3, p4, fdiv_nonneg p5 h1⟩⟩
    · have e : drawS many S = (mixOf (pulled S).mx (pulled S).cnt many, pulled S) := by unfold drawS; rw [if_neg hd]
      rw [e]
      exact ⟨Int.fmod_nonneg_of_pos _ h1, Int.fmod_lt_of_pos _ h1, ⟨pulled S, rfl, by omega, by omega, by omega, p3, p4, p5⟩⟩
end MM

/-! What is told new may be spoilt; the start of a law. -/
namespace MM
open PySem PySem.Spec PyProof.Rows L2

def d1 : P → Bool
  | .lst xs => flats xs
  | x => flat x
namespace VV
/-- x = [e, ..], each a new thing -/
def sTmp (i : Nat) (a : VEnv → VM (List P)) : VSM := fun env s => bd (a (vis2 env) s) fun xs s => if xs.all d1 && decide (xs.length ≤ lim) then some (.nx (env.set i (some (.tmp (.lst xs)))), s) else none
def sTmp1 (i : Nat) (e : VEnv → VM P) : VSM := fun env s => bd (e (vis2 env) s) fun x s => if d1 x then some (.nx (env.set i (some (.tmp x))), s) else none
def wipeT (env : VS) : VS := env.map fun o => match o with
  | some (.tmp _) => none
  | o => o
def tmpAt (i : Nat) (env : VS) : Option P := match env[i]? with
  | some (some (.tmp x)) => some x
  | _ => none
/-- the list at the end of a path of indexes -/
def pathP : P → List Int → Option (List P)
  | .lst xs, [] => some xs
  | .lst xs, k :: ks => (atI xs k).bind fun x => pathP x ks
  | .tup xs, k :: ks => (atI xs k).bind fun x => pathP x ks
  | _, _ => none
def sLate (i : Nat) (ks : List Int) (e : VEnv → VM P) : VSM := fun env s => bd (e (vis2 env) s) fun x s => match (tmpAt i env).bind fun t => pathP t ks with
  | some ys => if flat x && decide (ys.length < lim) then some (.nx (wipeT env), s) else none
  | none => none
end VV
def pathE (i : Nat) : List Int → (Env → M D)
  | [] => eVar i
  | k :: ks => eBin opIx (pathE i ks) (eC (.int k))
def OkDA (ma : Env → M (List D)) (va : VEnv → VM (List P)) : Prop := ∀ (b : Nat) (A : List Nat) (st : Sto) (env : Env) (venv : VEnv) (s : SS) (xs : List P) (s' : SS), AOk b A st → REv A st venv env → Str b st s → va venv s = some (xs, s') → xs.all d1 = true →
  Got b st s' (ma env st) (fun ds st' => ∃ C, (∀ c ∈ C, st.length ≤ c ∧ c < st'.length) ∧ RTs C st' xs ds)
section
variable {A C : List Nat} {st st' : Sto}
theorem d1_rt {x : P} {d : D} {n : Nat} (h : d1 x = true) (r : RV A st x d) (f : Fr n d) : ∃ C, (∀ c ∈ C, n ≤ c ∧ c < st.length) ∧ RT C st x d := by
  cases x with
  | lst xs =>
    obtain ⟨a, ds, e, m, g, q⟩ := r
    exact ⟨[a], fun c hc => by rw [List.mem_singleton.mp hc]; exact ⟨f a e, lt_of_get g⟩, a, ds, e, List.mem_singleton.mpr rfl, g, RVs.rt _ _ h q⟩
  | _ => exact ⟨[], fun c hc => (nomatch hc), RV.rt _ _ h r⟩
variable {m : Env → M D} {v : VEnv → VM P} {ma : Env → M (List D)} {va : VEnv → VM (List P)} {fr : Bool}
theorem q_dnil : OkDA aNil VV.aNil := fun b A st env venv s xs s' a r z e _ => by
  cases e
  exact .same z ⟨[], fun c hc => (nomatch hc), rfl⟩
theorem q_dcons (h1 : OkE m v true) (h2 : OkDA ma va) : OkDA (aCons m ma) (VV.aCons v va) := fun b A st env venv s xs s' a r z e hd => by
  obtain ⟨x1, s1, e1, e2⟩ := bd_inv e
  obtain ⟨x2, s2, e3, e4⟩ := bd_inv e2
  cases e4
  rw [List.all_cons, Bool.and_eq_true] at hd
  refine (h1 _ _ _ _ _ _ _ _ a r z e1).bind fun d st1 k z1 q => ?_
  obtain ⟨C1, c1, r1⟩ := d1_rt hd.1 q.1 (q.2 rfl)
  obtain ⟨ds, st2, e5, k2, z2, C2, c2, r2⟩ := h2 _ _ _ _ _ _ _ _ (a.mono k.1) (r.mono k a.lo) z1 e3 hd.2
  have hb : b ≤ st.length := by
    cases b with
    | zero => omega
    | succ b => have := a.hi b (a.lo b (by omega)); omega
  refine ⟨d :: ds, st2, by rw [e5]; rfl, k2, z2, C1 ++ C2, fun c hc => ?_, d, ds, rfl, RT.mono (fun c o hc g => (k2.2 c (Nat.le_trans hb (c1 c hc).1) (lt_of_get g) (by simp)).trans g) (fun c hc => List.mem_append_left _ hc) _ _ r1, RTs.mono (fun c o hc g => g) (fun c hc => List.mem_append_right _ hc) _ _ r2⟩
  rcases List.mem_append.mp hc with h | h
  · exact ⟨(c1 c h).1, Nat.lt_of_lt_of_le (c1 c h).2 k2.1⟩
  · exact ⟨Nat.le_trans k.1 (c2 c h).1, (c2 c h).2⟩
end
section
variable {b n0 : Nat} {A0 A : List Nat} {st st1 : Sto} {s s' : SS} {venv : VS} {env : Env}
/-- a name takes something new -/
theorem tmp_set (l : Lk b n0 A0 A st) (r : RSe n0 A st venv env) (k : Kp b st st1) {C : List Nat} (hC : ∀ c ∈ C, st.length ≤ c ∧ c < st1.length) {x : P} {d : D} (rt : RT C st1 x d) (i : Nat) :
    Lk b n0 A0 (C ++ A) st1 ∧ New st.length A (C ++ A) ∧ RSe n0 (C ++ A) st1 (venv.set i (some (.tmp x))) (env.set i (some d)) := by
  have hs : ∀ a ∈ A, a ∈ C ++ A := fun a ha => List.mem_append_right _ ha
  have w : New st.length A (C ++ A) := fun a ha => (List.mem_append.mp ha).elim (fun h => .inr (hC a h).1) .inl
  have l1 : Lk b n0 A0 (C ++ A) st1 := ⟨l.bn, Nat.le_trans l.nl k.1, l.a0, l.lo, fun a ha => hs a (l.sub a ha), fun a ha => (List.mem_append.mp ha).elim (fun h => (hC a h).2) fun h => Nat.lt_of_lt_of_le (l.hi a h) k.1⟩
  have r1 : RSe n0 (C ++ A) st1 venv env := (r.sup hs w).mono k (fun i hi => hs _ (l.ok.lo i hi)) l.bn
  have hc : ∀ a ∈ C, n0 ≤ a ∧ a ∈ C ++ A ∧ a < st1.length := fun a ha => ⟨Nat.le_trans l.nl (hC a ha).1, List.mem_append_left _ ha, (hC a ha).2⟩
  refine ⟨l1, w, r1.set i ⟨C, hc, rt⟩ (fun _ _ e => nomatch e) (fun _ _ e => nomatch e) fun y ey => ?_⟩
  cases ey
  exact ⟨C, hc, rt, fun j a ys _ h1 h2 hm => by have := r.old h1 h2; have := (hC a hm).1; omega⟩
end
section
variable {m : Env → M D} {v : VEnv → VM P} {ma : Env → M (List D)} {va : VEnv → VM (List P)} {fr f : Bool}
theorem q_tmp {i : Nat} (h : OkDA ma va) : OkS (sSet i (eArgs mkLst ma)) (VV.sTmp i va) fr := fun b n0 A0 A st env venv s fl s' l r z e => by
  obtain ⟨xs, s1, e1, e2⟩ := bd_inv e
  split at e2 <;> first | (cases e2; done) | skip
  rename_i hc
  cases e2
  rw [Bool.and_eq_true, decide_eq_true_eq] at hc
  obtain ⟨ds, st1, e3, k, z1, C, c1, r1⟩ := h _ _ _ _ _ _ _ _ l.ok0 (r.v2 l) z e1 hc.1
  have hl : ds.length = xs.length := (RTs.rv (A := []) (fun _ _ z => nomatch z) _ _ r1).length
  have k2 : Kp b st (st1 ++ [.lst ds]) := k.trans .app
  have rt : RT (st1.length :: C) (st1 ++ [.lst ds]) (.lst xs) (.ref st1.length) := ⟨st1.length, ds, rfl, List.mem_cons_self, by simp, RTs.mono (fun c o hc g => by rw [List.getElem?_append_left (c1 c hc).2]; exact g) (fun c hc => List.mem_cons_of_mem _ hc) _ _ r1⟩
  obtain ⟨l2, w2, r2⟩ := tmp_set l r k2 (C := st1.length :: C) (fun c hc => by
    rcases List.mem_cons.mp hc with h | h
    · subst h
      exact ⟨k.1, by simp⟩
    · exact ⟨(c1 c h).1, by simp; have := (c1 c h).2; omega⟩) rt i
  refine ⟨.nx (env.set i (some (.ref st1.length))), st1 ++ [O.lst ds], (st1.length :: C) ++ A, ?_, k2.kps, z1.app, l2, w2, r2⟩
  unfold sSet eArgs
  rw [e3]
  show ((mkLst ds st1).bind _) = _
  unfold mkLst
  rw [if_pos (by rw [hl]; exact hc.2)]
  rfl
theorem q_tmp1 {i : Nat} (h : OkE m v true) : OkS (sSet i m) (VV.sTmp1 i v) fr := fun b n0 A0 A st env venv s fl s' l r z e => by
  obtain ⟨x, s1, e1, e2⟩ := bd_inv e
  split at e2 <;> first | (cases e2; done) | skip
  rename_i hc
  cases e2
  obtain ⟨d, st1, e3, k, z1, q, n⟩ := h _ _ _ _ _ _ _ _ l.ok0 (r.v2 l) z e1
  obtain ⟨C, c1, rt⟩ := d1_rt hc q (n rfl)
  obtain ⟨l2, w2, r2⟩ := tmp_set l r k c1 rt i
  refine ⟨.nx (env.set i (some d)), st1, _, ?_, k.kps, z1, l2, w2, r2⟩
  unfold sSet
  rw [e3]; rfl
/-- something that may be spoilt is written -/
theorem spoil_set {b n0 : Nat} {A0 A : List Nat} {st : Sto} {venv : VS} {env : Env} (l : Lk b n0 A0 A st) (r : RSe n0 A st venv env) {c : Nat} {o : O} (h1 : n0 ≤ c) (h2 : c ∈ A) (h3 : ∀ (j a : Nat) (ys : List P), venv[j]? = some (some (.own ys)) → env[j]? = some (some (.ref a)) → a ≠ c) :
    KpS b n0 A st (st.set c o) ∧ RSe n0 A (st.set c o) (VV.wipeT venv) env := by
  have k : KpS b n0 A st (st.set c o) := ⟨by simp, fun j hb hj hz => by
    rw [List.getElem?_set_ne (fun z => ?_)]
    subst z
    exact hz.elim (fun z => by omega) (fun z => z h2)⟩
  have cut : ∀ (i : Nat) (x : Sl), (VV.wipeT venv)[i]? = some (some x) → venv[i]? = some (some x) ∧ ∀ y, x ≠ .tmp y := by
    intro i x e
    unfold VV.wipeT at e
    rw [List.getElem?_map] at e
    obtain ⟨q, e1, e2⟩ := Option.map_eq_some_iff.mp e
    match q, e2 with
    | some (.val y), e2 => cases e2; exact ⟨e1, fun _ z => nomatch z⟩
    | some (.own y), e2 => cases e2; exact ⟨e1, fun _ z => nomatch z⟩
    | some (.tmp y), e2 => cases e2
    | none, e2 => cases e2
  refine ⟨k, by unfold VV.wipeT; rw [List.length_map]; exact r.len, fun i x e => ?_, fun i j a xs ys e1 e2 e3 e4 => r.ne i j a _ _ (cut i _ e1).1 (cut j _ e2).1 e3 e4, fun i y e => absurd rfl ((cut i _ e).2 y)⟩
  obtain ⟨e1, ne⟩ := cut i x e
  obtain ⟨d, e2, h⟩ := r.at_ i x e1
  refine ⟨d, e2, ?_⟩
  cases x with
  | val x => exact RV.mono k.kpa l.ok.lo x d h
  | own us =>
    obtain ⟨a', es, ed, q1, q2, q3, q4⟩ := h
    have na : c ≠ a' := fun z => by
      rw [ed] at e2
      exact h3 i a' us e1 e2 z.symm
    exact ⟨a', es, ed, q1, q2, by rw [List.getElem?_set_ne na]; exact q3, q4.mono k.kpa l.ok.lo⟩
  | tmp y => exact absurd rfl (ne y)
theorem RTs.get {C : List Nat} {st : Sto} : ∀ {vs : List P} {ds : List D} {i : Nat} {v : P}, RTs C st vs ds → vs[i]? = some v → ∃ d, ds[i]? = some d ∧ RT C st v d
  | [], _, i, v, _, e => by simp at e
  | v :: vs, ds, 0, x, ⟨d, r, e1, h1, h2⟩, e => by
    cases e
    exact ⟨d, by rw [e1]; rfl, h1⟩
  | v :: vs, ds, i + 1, x, ⟨d, r, e1, h1, h2⟩, e => by
    obtain ⟨d', e2, h⟩ := RTs.get (i := i) h2 (by simpa using e)
    exact ⟨d', by rw [e1]; simpa using e2, h⟩
theorem RTs.length {C : List Nat} {st : Sto} {vs : List P} {ds : List D} (h : RTs C st vs ds) : ds.length = vs.length := (RTs.rv (A := []) (fun _ _ z => nomatch z) _ _ h).length
theorem ix_of {C : List Nat} {st : Sto} {vs : List P} {ds : List D} (r : RTs C st vs ds) {k : Int} {x : P} (e : atI vs k = some x) : ∃ d, atI ds k = some d ∧ RT C st x d := by
  unfold atI at e ⊢
  obtain ⟨j, e1, e2⟩ := Option.bind_eq_some_iff.mp e
  obtain ⟨v, h1, h2⟩ := r.get e2
  exact ⟨v, by rw [r.length, e1]; exact h1, h2⟩
/-- one step of a path -/
theorem step_of {C : List Nat} {st : Sto} {env : Env} {e : Env → M D} {x y : P} {d : D} {k : Int} (he : e env st = .ok d st) (r : RT C st x d) (h : (VV.seqOf x).bind (fun xs => atI xs k) = some y) : ∃ d', eBin opIx e (eC (.int k)) env st = .ok d' st ∧ RT C st y d' := by
  obtain ⟨xs, e1, e2⟩ := Option.bind_eq_some_iff.mp h
  have main : ∃ ds, seqOf st d = some ds ∧ RTs C st xs ds ∧ ∀ s, d ≠ .str s := by
    cases x <;> first | (cases e1; done) | skip
    · cases e1
      obtain ⟨ds, ed, q⟩ := r
      exact ⟨ds, by rw [ed]; rfl, q, fun s z => by rw [ed] at z; cases z⟩
    · cases e1
      obtain ⟨a, ds, ed, _, g, q⟩ := r
      exact ⟨ds, by rw [ed]; exact lstAt_of g, q, fun s z => by rw [ed] at z; cases z⟩
  obtain ⟨ds, e3, q, ne⟩ := main
  obtain ⟨d', e4, r4⟩ := ix_of q e2
  refine ⟨d', ?_, r4⟩
  refine (eBin_ok he (eC_ok (d := .int k))).trans ?_
  unfold opIx
  dsimp only
  split
  · exact absurd rfl (ne _)
  · rw [e3]
    show (match atI ds k with | some x => Res.ok x st | none => Res.bad) = _
    rw [e4]
theorem path_of {C : List Nat} {st : Sto} {env : Env} : ∀ (ks : List Int) {e : Env → M D} {x : P} {d : D} {ys : List P}, e env st = .ok d st → RT C st x d → VV.pathP x ks = some ys →
    ∃ c ds, (ks.foldl (fun e k => eBin opIx e (eC (.int k))) e) env st = .ok (.ref c) st ∧ c ∈ C ∧ st[c]? = some (.lst ds) ∧ ds.length = ys.length
  | [], e, x, d, ys, he, r, h => by
    cases x <;> first | (cases h; done) | skip
    cases h
    obtain ⟨a, ds, ed, m, g, q⟩ := r
    exact ⟨a, ds, by rw [← ed]; exact he, m, g, q.length⟩
  | k :: ks, e, x, d, ys, he, r, h => by
    have main : ∃ y, (VV.seqOf x).bind (fun xs => atI xs k) = some y ∧ VV.pathP y ks = some ys := by
      cases x <;> first | (cases h; done) | skip
      · obtain ⟨y, e1, e2⟩ := Option.bind_eq_some_iff.mp h
        exact ⟨y, e1, e2⟩
      · obtain ⟨y, e1, e2⟩ := Option.bind_eq_some_iff.mp h
        exact ⟨y, e1, e2⟩
    obtain ⟨y, e1, e2⟩ := main
    obtain ⟨d', e3, r3⟩ := step_of he r e1
    exact path_of ks e3 r3 e2
/-- x[k]...append(e), x something new: all that is such is forgotten -/
theorem q_late {i : Nat} {ks : List Int} {me : Env → M D} (hp : me = ks.foldl (fun e k => eBin opIx e (eC (.int k))) (eVar i)) (h : OkE m v f) : OkS (sExpr (eMeth "list" mAppend me (aCons m aNil))) (VV.sLate i ks v) fr := fun b n0 A0 A st env venv s fl s' l r z e => by
  subst hp
  obtain ⟨x, s1, e1, e2⟩ := bd_inv e
  split at e2 <;> first | (cases e2; done) | skip
  rename_i ys hy
  split at e2 <;> first | (cases e2; done) | skip
  rename_i hc
  cases e2
  rw [Bool.and_eq_true, decide_eq_true_eq] at hc
  obtain ⟨t, ht, hy⟩ := Option.bind_eq_some_iff.mp hy
  unfold VV.tmpAt at ht
  split at ht <;> first | (cases ht; done) | skip
  rename_i t' hv
  cases ht
  obtain ⟨d, C, he, hC, rt, ho⟩ := r.nt i _ hv
  obtain ⟨c, ds, e3, hm, g, hl⟩ := path_of ks (var_ok he) rt hy
  obtain ⟨dx, st1, e4, k, z1, q, _⟩ := h _ _ _ _ _ _ _ _ l.ok0 (r.v2 l) z e1
  have g1 : st1[c]? = some (.lst ds) := (k.2 c (Nat.le_trans l.bn (hC c hm).1) (lt_of_get g) (by simp)).trans g
  obtain ⟨k2, r2⟩ := spoil_set (l.mono k.1) (r.mono k l.ok.lo l.bn) (c := c) (o := .lst (ds ++ [dx])) (hC c hm).1 (hC c hm).2.1 fun j a ys h1 h2 ea => ho j a ys h1 h2 (by rw [ea]; exact hm)
  refine ⟨.nx env, st1.set c (.lst (ds ++ [dx])), A, ?_, KpS.trans (KpA.kps k) .refl k2, z1.set (Nat.le_trans l.bn (hC c hm).1), (l.mono k.1).mono k2.1, .refl, r2⟩
  unfold sExpr eMeth
  rw [e3]
  show ((if isTy "list" st (.ref c) = true then _ else _ : Res D).bind _) = _
  rw [if_pos (isTy_lst g)]
  unfold aCons aNil
  rw [e4]
  show ((mAppend (.ref c) [dx] st1).bind _) = _
  unfold mAppend
  dsimp only
  rw [mutAt_of g1]
  dsimp only
  rw [if_pos (by rw [hl]; exact hc.2)]
  rfl
end

/-! ### a, b = (x, y), names that comprehensions read -/
section
variable {m1 m2 : Env → M D} {v1 v2 : VEnv → VM P} {f1 f2 fr o bb o2 bb2 : Bool}
theorem asg_par {i j : Nat} {env : Env} {st : Sto} : sAsg (eArgs mkTup (aCons m1 (aCons m2 aNil))) (tTup 2 (tsCons (tName i) (tsCons (tName j) tsNil))) env st = sPar i j (aCons m1 (aCons m2 aNil)) env st := by
  unfold sAsg eArgs sPar aCons aNil
  cases h1 : m1 env st with
  | ok d1 st1 =>
    simp only [bind_ok]
    cases h2 : m2 env st1 with
    | ok d2 st2 => simp only [bind_ok]; rfl
    | ex c d st2 => rfl
    | bad => rfl
  | ex c d st1 => rfl
  | bad => rfl
theorem q_parT {i j : Nat} (h1 : OkE m1 v1 f1) (h2 : OkE m2 v2 f2) (ho1 : o = true → f1 = true := by first | exact (fun _ => rfl) | exact (fun z => absurd z Bool.false_ne_true)) (ho2 : o2 = true → f2 = true := by first | exact (fun _ => rfl) | exact (fun z => absurd z Bool.false_ne_true)) :
    OkS (sAsg (eArgs mkTup (aCons m1 (aCons m2 aNil))) (tTup 2 (tsCons (tName i) (tsCons (tName j) tsNil)))) (VV.sPar i j o bb v1 o2 bb2 v2) fr := fun b n0 A0 A st env venv s fl s' l r z e => by
  rw [asg_par]
  exact q_par h1 h2 ho1 ho2 b n0 A0 A st env venv s fl s' l r z e
end

/-! ### a law from its stream on -/
def initV (N : Nat) (k : Nat) : VS := (List.replicate N (none : Option Sl)).set k (some (.val .strm))
theorem law_of {N : Nat} {rest : SM} {v : VSM} {fr : Bool} (h : OkS rest v fr) {k : Nat} {ns : List Int} {s' : SS} (hN : 1 ≤ N)
    (hv : v (initV N k) (some ⟨ns, 0, 0, 19⟩) = some (.ret (.bl true), s')) : ∃ st', fnM N (sSeq (sSet k (eCall 1 m__law_stream (aCons (eVar 0) aNil))) rest) [.scr ns] [] = .ok (.bl true) st' := by
  have e0 : sSet k (eCall 1 m__law_stream (aCons (eVar 0) aNil)) (start N [.scr ns]) [] = .ok (.nx ((start N [.scr ns]).set k (some (.ref 1)))) [.lst (ns.map .int), .lst [.ref 0, .int 0, .int 0, .int 19]] := by
    have e1 : (start N [D.scr ns])[0]? = some (some (.scr ns)) := rfl
    have e2 : eCall 1 m__law_stream (aCons (eVar 0) aNil) (start N [.scr ns]) [] = .ok (.ref 1) [.lst (ns.map .int), .lst [.ref 0, .int 0, .int 0, .int 19]] := by
      unfold eCall aCons
      rw [var_ok e1]
      rfl
    exact sSet_ok e2
  have st2 : Str 2 [O.lst (ns.map .int), .lst [.ref 0, .int 0, .int 0, .int 19]] (some ⟨ns, 0, 0, 19⟩) := ⟨rfl, rfl, rfl⟩
  have l : Lk 2 2 [0, 1] [0, 1] [O.lst (ns.map .int), .lst [.ref 0, .int 0, .int 0, .int 19]] := ⟨Nat.le_refl _, Nat.le_refl _, fun a ha => by simp at ha; omega, fun i hi => by simp; omega, fun _ h => h, fun a ha => by simp at ha ⊢; omega⟩
  have cut : ∀ (i : Nat) (x : Sl), (initV N k)[i]? = some (some x) → i = k ∧ x = .val .strm := by
    intro i x e
    unfold initV at e
    by_cases hi : k = i
    · subst hi
      by_cases hk : k < N
      · rw [List.getElem?_set_self (by simpa using hk)] at e
        cases e
        exact ⟨rfl, rfl⟩
      · rw [List.getElem?_eq_none (by simpa using hk)] at e; cases e
    · rw [List.getElem?_set_ne hi] at e
      have := List.mem_of_getElem? e
      rw [List.mem_replicate] at this
      cases this.2
  have r : RSe 2 [0, 1] [O.lst (ns.map .int), .lst [.ref 0, .int 0, .int 0, .int 19]] (initV N k) ((start N [.scr ns]).set k (some (.ref 1))) := by
    have hlen : (initV N k).length = ((start N [D.scr ns]).set k (some (.ref 1))).length := by
      unfold initV start; simp; omega
    refine ⟨hlen, fun i x e => ?_, fun i j a xs ys e1 => (nomatch (cut i _ e1).2), fun i y e => nomatch (cut i _ e).2⟩
    obtain ⟨rfl, rfl⟩ := cut i x e
    have hi : i < (start N [D.scr ns]).length := by
      have := lt_of_get e
      rw [hlen] at this
      simpa using this
    exact ⟨.ref 1, List.getElem?_set_self hi, rfl⟩
  obtain ⟨fl, st', A', e1, _, _, _, _, q⟩ := h _ _ _ _ _ _ _ _ _ _ l r st2 hv
  cases fl <;> first | exact q.elim | skip
  rename_i d
  obtain rfl : d = .bl true := q.1
  refine ⟨st', ?_⟩
  unfold fnM
  rw [sSeq_ok e0, e1]
  rfl
end MM

/-! Laws of the computations on plain values. -/
namespace MM
open PySem PySem.Spec PyProof.Rows L2

section
variable {s s1 s2 : SS} {env : VEnv} {x y z : P}
/-! simplification -/
@[simp] theorem s_eC {d : P} : VV.eC d env s = some (d, s) := rfl
@[simp] theorem s_aNil : VV.aNil env s = some ([], s) := rfl
@[simp] theorem s_tYes : VV.tYes env s = some (true, s) := rfl
@[simp] theorem s_pNone : VV.pNone env s = some (none, s) := rfl
theorem s_eVar {i : Nat} : VV.eVar i env s = (match env[i]? with | some (some d) => some (d, s) | _ => none) := rfl
theorem v_var {i : Nat} (h : env[i]? = some (some x)) : VV.eVar i env s = some (x, s) := by
  rw [s_eVar, h]
theorem v_un {f : P → Option P} {a : VEnv → VM P} (h : a env s = some (x, s1)) (hf : f x = some y) : VV.eUn f a env s = some (y, s1) := by
  unfold VV.eUn; rw [h, bd_some, hf]; rfl
theorem v_bin {f : P → P → Option P} {a b : VEnv → VM P} (h1 : a env s = some (x, s1)) (h2 : b env s1 = some (y, s2)) (hf : f x y = some z) : VV.eBin f a b env s = some (z, s2) := by
  unfold VV.eBin; rw [h1, bd_some, h2, bd_some, hf]; rfl
theorem v_cons {a : VEnv → VM P} {r : VEnv → VM (List P)} {xs : List P} (h1 : a env s = some (x, s1)) (h2 : r env s1 = some (xs, s2)) : VV.aCons a r env s = some (x :: xs, s2) := by
  unfold VV.aCons; rw [h1, bd_some, h2, bd_some]
theorem v_one {a : VEnv → VM P} (h1 : a env s = some (x, s1)) : VV.aCons a VV.aNil env s = some ([x], s1) := v_cons h1 rfl
theorem v_two {a b : VEnv → VM P} (h1 : a env s = some (x, s1)) (h2 : b env s1 = some (y, s2)) : VV.aCons a (VV.aCons b VV.aNil) env s = some ([x, y], s2) := v_cons h1 (v_one h2)
theorem v_args {f : List P → Option P} {a : VEnv → VM (List P)} {xs : List P} (h : a env s = some (xs, s1)) (hf : f xs = some y) : VV.eArgs f a env s = some (y, s1) := by
  unfold VV.eArgs; rw [h, bd_some, hf]; rfl
theorem v_tval {a : VEnv → VM P} {c : Bool} (h : a env s = some (.bl c, s1)) : VV.tVal a env s = some (c, s1) := by
  unfold VV.tVal; rw [h]; rfl
theorem v_tnot {a : VEnv → VM Bool} {c : Bool} (h : a env s = some (c, s1)) : VV.tNot a env s = some (!c, s1) := by
  unfold VV.tNot; rw [h]; rfl
theorem v_tand {a b : VEnv → VM Bool} {c d : Bool} (h : a env s = some (c, s1)) (h2 : c = true → b env s1 = some (d, s1)) : VV.tAnd a b env s = some (c && d, s1) := by
  unfold VV.tAnd; rw [h, bd_some]
  cases c with
  | true => rw [if_pos rfl, h2 rfl]; rfl
  | false => rfl
theorem v_tor {a b : VEnv → VM Bool} {c d : Bool} (h : a env s = some (c, s1)) (h2 : c = false → b env s1 = some (d, s1)) : VV.tOr a b env s = some (c || d, s1) := by
  unfold VV.tOr; rw [h, bd_some]
  cases c with
  | false => rw [if_neg Bool.false_ne_true, h2 rfl]; rfl
  | true => rfl
theorem v_if {t : VEnv → VM Bool} {a b : VEnv → VM P} {c : Bool} (h : t env s = some (c, s1)) (h1 : c = true → a env s1 = some (x, s2)) (h2 : c = false → b env s1 = some (x, s2)) : VV.eIf t a b env s = some (x, s2) := by
  unfold VV.eIf; rw [h, bd_some]
  cases c with
  | true => rw [if_pos rfl]; exact h1 rfl
  | false => rw [if_neg Bool.false_ne_true]; exact h2 rfl
theorem v_and {a b : VEnv → VM P} {c d : Bool} (h : a env s = some (.bl c, s1)) (h2 : c = true → b env s1 = some (.bl d, s1)) : VV.eAnd a b env s = some (.bl (c && d), s1) := by
  unfold VV.eAnd; rw [h, bd_some]
  show bd (lift (VV.asB (.bl c)) s1) _ = _
  cases c with
  | true => exact h2 rfl
  | false => rfl
theorem v_or {a b : VEnv → VM P} {c d : Bool} (h : a env s = some (.bl c, s1)) (h2 : c = false → b env s1 = some (.bl d, s1)) : VV.eOr a b env s = some (.bl (c || d), s1) := by
  unfold VV.eOr; rw [h, bd_some]
  show bd (lift (VV.asB (.bl c)) s1) _ = _
  cases c with
  | false => exact h2 rfl
  | true => rfl
theorem v_not {a : VEnv → VM P} {c : Bool} (h : a env s = some (.bl c, s1)) : VV.eNot a env s = some (.bl (!c), s1) := by
  unfold VV.eNot; rw [h]; rfl
theorem v_star {a : VEnv → VM P} {r : VEnv → VM (List P)} {xs ys : List P} (h1 : a env s = some (x, s1)) (hx : VV.seqOf x = some xs) (h2 : r env s1 = some (ys, s2)) : VV.aStar a r env s = some (xs ++ ys, s2) := by
  unfold VV.aStar; rw [h1, bd_some, hx, lift_some, bd_some, h2, bd_some]
theorem v_some {a : VEnv → VM P} {i : Int} (h : a env s = some (.int i, s1)) : VV.pSome a env s = some (some i, s1) := by
  unfold VV.pSome; rw [h]; rfl
theorem v_sl {a : VEnv → VM P} {l h : VEnv → VM (Option Int)} {i j : Option Int} {s3 : SS} (h1 : a env s = some (x, s1)) (h2 : l env s1 = some (i, s2)) (h3 : h env s2 = some (j, s3)) (hf : VV.opSl x i j = some y) : VV.eSl a l h env s = some (y, s3) := by
  unfold VV.eSl; rw [h1, bd_some, h2, bd_some, h3, bd_some, hf]; rfl
theorem v_call {n : Nat} {g : List P → VM P} {a : VEnv → VM (List P)} {xs : List P} (h : a env s = some (xs, s1)) (hn : xs.length = n) (hg : g xs s1 = some (y, s2)) : VV.eCall n g a env s = some (y, s2) := by
  unfold VV.eCall; rw [h, bd_some, if_pos hn]; exact hg
theorem v_join {a : VEnv → VM P} {r : VEnv → VM (List P)} {z : List Nat} {xs : List P} {ss : List (List Nat)} (h1 : a env s = some (.str z, s1)) (h2 : r env s1 = some ([.lst xs], s2)) (hs : VV.strsOf xs = some ss) (hl : (ss.map (·.length)).sum + ss.length * z.length ≤ lim) :
    VV.eMeth "str" VV.mJoin a r env s = some (.str (joinL z ss), s2) := by
  unfold VV.eMeth; rw [h1, bd_some]
  show bd (r env s1) _ = _
  rw [h2, bd_some]
  unfold VV.mJoin
  dsimp only
  rw [show VV.seqOf (.lst xs) = some xs from rfl]
  rw [show (some xs).bind VV.strsOf = some ss from hs]
  dsimp only
  rw [if_pos hl]; rfl
/-! sources -/
theorem v_range1 {a : VEnv → VM (List P)} {n : Nat} (h : a env s = some ([.int n], s1)) (hn : n < 2 ^ 62) : VV.srcRange1 a env s = some ((List.range n).map (fun i => P.int ((i : Nat) : Int)), s1) := by
  unfold VV.srcRange1; rw [h, bd_some]
  dsimp only
  rw [if_pos (by unfold small; simp; omega)]
  unfold VV.rngL
  simp
theorem v_seqL {a : VEnv → VM P} {xs : List P} (h : a env s = some (.lst xs, s1)) : VV.srcSeq a env s = some (xs, s1) := by
  unfold VV.srcSeq; rw [h]; rfl
theorem v_seqS {a : VEnv → VM P} {w : List Nat} (h : a env s = some (.str w, s1)) : VV.srcSeq a env s = some (w.map fun c => .str [c], s1) := by
  unfold VV.srcSeq; rw [h]; rfl
theorem v_zip {a : VEnv → VM (List P)} {us vs : List P} (h : a env s = some ([x, y], s1)) (hx : VV.itemsOf x = some us) (hy : VV.itemsOf y = some vs) : VV.srcZip a env s = some (VV.pairsOf us vs, s1) := by
  unfold VV.srcZip; rw [h, bd_some]
  dsimp only
  rw [hx, hy]
theorem v_enumS {a : VEnv → VM (List P)} {w : List Nat} (h : a env s = some ([.str w], s1)) : VV.srcEnum a env s = some (VV.countOf 0 (w.map fun c => .str [c]), s1) := by
  unfold VV.srcEnum; rw [h, bd_some]; rfl
theorem pairs_zip : ∀ us vs : List P, VV.pairsOf us vs = (us.zip vs).map fun q => P.tup [q.1, q.2]
  | [], vs => by simp [VV.pairsOf]
  | u :: us, [] => by simp [VV.pairsOf]
  | u :: us, v :: vs => by simp [VV.pairsOf, pairs_zip us vs]
theorem count_enum : ∀ (us : List P) (n : Nat), VV.countOf n us = (us.zipIdx n).map fun q => P.tup [.int (q.2 : Nat), q.1]
  | [], n => rfl
  | u :: us, n => by simp [VV.countOf, count_enum us (n + 1)]
/-! comprehensions -/
theorem lc_map {α : Type} {tg : VV.VT} {t : VEnv → VM Bool} {e : VEnv → VM P} (g : α → P) (c : α → Bool) (f : α → P) : ∀ l : List α, (∀ a ∈ l, ∃ bs, tg (g a) = some bs ∧ t (VV.sets env bs) s = some (c a, s) ∧ (c a = true → e (VV.sets env bs) s = some (f a, s))) →
    VV.lcL tg t e env (l.map g) s = some ((l.filter c).map f, s)
  | [], _ => rfl
  | a :: l, h => by
    obtain ⟨bs, h1, h2, h3⟩ := h a List.mem_cons_self
    have ih := lc_map g c f l fun b hb => h b (List.mem_cons_of_mem _ hb)
    show bd (lift (tg (g a)) s) _ = _
    rw [h1, lift_some, bd_some, h2, bd_some]
    cases hc : c a with
    | true => rw [if_pos rfl, h3 hc, bd_some, ih, bd_some, List.filter_cons_of_pos hc]; rfl
    | false => rw [if_neg Bool.false_ne_true, ih, List.filter_cons_of_neg (by rw [hc]; exact Bool.false_ne_true)]
theorem v_lc {src : VEnv → VM (List P)} {tg : VV.VT} {vs : List Nat} {t : VEnv → VM Bool} {e : VEnv → VM P} {α : Type} {l : List α} (g : α → P) (c : α → Bool) (f : α → P) (h : src env s = some (l.map g, s1)) (hl : l.length ≤ lim)
    (hb : ∀ a ∈ l, ∃ bs, tg (g a) = some bs ∧ t (VV.sets (VV.wipeE env vs) bs) s1 = some (c a, s1) ∧ (c a = true → e (VV.sets (VV.wipeE env vs) bs) s1 = some (f a, s1))) : VV.eLc src tg vs t e env s = some (.lst ((l.filter c).map f), s1) := by
  unfold VV.eLc
  rw [h, bd_some, if_pos (by simpa using hl), lc_map g c f l hb, bd_some]
/-- without a test -/
theorem v_lc1 {src : VEnv → VM (List P)} {i : Nat} {vs : List Nat} {e : VEnv → VM P} {α : Type} {l : List α} (g : α → P) (f : α → P) (h : src env s = some (l.map g, s1)) (hl : l.length ≤ lim)
    (hb : ∀ a ∈ l, e ((VV.wipeE env vs).set i (some (g a))) s1 = some (f a, s1)) : VV.eLc src (VV.tName i) vs VV.tYes e env s = some (.lst (l.map f), s1) := by
  have := v_lc (tg := VV.tName i) (vs := vs) (t := VV.tYes) (e := e) g (fun _ => true) f h hl fun a ha => ⟨[(i, g a)], rfl, rfl, fun _ => hb a ha⟩
  rw [this, List.filter_eq_self.mpr (by simp)]
/-- with draws: n of them -/
theorem lc_draw {α : Type} {i : Nat} {e : VEnv → VM P} (g : α → P) (Q : Nat → SS → Prop) (Y : P → Prop) : ∀ (l : List α) (n : Nat) (s : SS), Q (n + l.length) s → (∀ a ∈ l, ∀ n s, Q (n + 1) s → ∃ y s', e (env.set i (some (g a))) s = some (y, s') ∧ Y y ∧ Q n s') →
    ∃ ys s', VV.lcL (VV.tName i) VV.tYes e env (l.map g) s = some (ys, s') ∧ ys.length = l.length ∧ (∀ y ∈ ys, Y y) ∧ Q n s'
  | [], n, s, q, _ => ⟨[], s, rfl, rfl, fun _ z => (nomatch z), q⟩
  | a :: l, n, s, q, h => by
    obtain ⟨y, s1, e1, y1, q1⟩ := h a List.mem_cons_self (n + l.length) s (by simpa [Nat.add_assoc] using q)
    obtain ⟨ys, s2, e2, l2, y2, q2⟩ := lc_draw g Q Y l n s1 q1 fun b hb => h b (List.mem_cons_of_mem _ hb)
    refine ⟨y :: ys, s2, ?_, by simp [l2], fun z hz => (List.mem_cons.mp hz).elim (fun e => by rw [e]; exact y1) (y2 z), q2⟩
    show bd (e (env.set i (some (g a))) s) _ = _
    rw [e1, bd_some, e2, bd_some]
theorem v_lcd {src : VEnv → VM (List P)} {i : Nat} {vs : List Nat} {e : VEnv → VM P} {α : Type} {l : List α} (g : α → P) (Q : Nat → SS → Prop) (Y : P → Prop) (n : Nat) (h : src env s = some (l.map g, s1)) (hl : l.length ≤ lim) (q : Q (n + l.length) s1)
    (hb : ∀ a ∈ l, ∀ n s, Q (n + 1) s → ∃ y s', e ((VV.wipeE env vs).set i (some (g a))) s = some (y, s') ∧ Y y ∧ Q n s') : ∃ ys s', VV.eLc src (VV.tName i) vs VV.tYes e env s = some (.lst ys, s') ∧ ys.length = l.length ∧ (∀ y ∈ ys, Y y) ∧ Q n s' := by
  obtain ⟨ys, s2, e2, l2, y2, q2⟩ := lc_draw g Q Y l n s1 q hb
  refine ⟨ys, s2, ?_, l2, y2, q2⟩
  unfold VV.eLc
  rw [h, bd_some, if_pos (by simpa using hl), e2, bd_some]
end

/-! statements -/
section
variable {s s1 s2 : SS} {env env1 env2 : VS} {x y z : P} {fl : VFl × SS}
theorem w_seq {a b : VSM} (h : a env s = some (.nx env1, s1)) : VV.sSeq a b env s = b env1 s1 := by
  unfold VV.sSeq; rw [h]; rfl
theorem w_seqr {a b : VSM} (h : a env s = some (.ret x, s1)) : VV.sSeq a b env s = some (.ret x, s1) := by
  unfold VV.sSeq; rw [h]; rfl
theorem w_set {i : Nat} {e : VEnv → VM P} (h : e (VV.vis1 env) s = some (x, s1)) : VV.sSet i false false e env s = some (.nx (env.set i (some (.val x))), s1) := by
  unfold VV.sSet VV.sl
  show bd (bd (e (VV.vis1 env) s) _) _ = _
  rw [h]; rfl
theorem w_setB {i : Nat} {e : VEnv → VM P} (h : e (VV.vis2 env) s = some (x, s1)) (hf : flat x = true) : VV.sSet i false true e env s = some (.nx (env.set i (some (.val x))), s1) := by
  unfold VV.sSet VV.sl
  show bd (bd (e (VV.vis2 env) s) _) _ = _
  rw [h, bd_some]
  unfold VV.mkSl
  dsimp only
  rw [if_pos hf]; rfl
theorem w_own {i : Nat} {e : VEnv → VM P} {xs : List P} {b : Bool} (h : e (VV.vis b env) s = some (.lst xs, s1)) (hf : flats xs = true) : VV.sSet i true b e env s = some (.nx (env.set i (some (.own xs))), s1) := by
  unfold VV.sSet VV.sl
  rw [h, bd_some]
  cases b <;>
  · unfold VV.mkSl
    dsimp only
    rw [if_pos hf]; rfl
theorem w_ret {e : VEnv → VM P} (h : e (VV.vis2 env) s = some (x, s1)) : VV.sRet e env s = some (.ret x, s1) := by
  unfold VV.sRet; rw [h]; rfl
theorem w_expr {e : VEnv → VM P} (h : e (VV.vis2 env) s = some (x, s1)) : VV.sExpr e env s = some (.nx env, s1) := by
  unfold VV.sExpr; rw [h]; rfl
theorem w_if {t : VEnv → VM Bool} {a b : VSM} {c : Bool} (h : t (VV.vis2 env) s = some (c, s1)) : VV.sIf t a b env s = if c then a env s1 else b env s1 := by
  unfold VV.sIf; rw [h]; rfl
theorem w_ift {t : VEnv → VM Bool} {a b : VSM} (h : t (VV.vis2 env) s = some (true, s1)) : VV.sIf t a b env s = a env s1 := by
  rw [w_if h]; rfl
theorem w_iff {t : VEnv → VM Bool} {a b : VSM} (h : t (VV.vis2 env) s = some (false, s1)) : VV.sIf t a b env s = b env s1 := by
  rw [w_if h]; rfl
theorem w_app {i : Nat} {e : VEnv → VM P} {xs : List P} {b : Bool} (h : e (VV.vis b env) s = some (x, s1)) (ho : env[i]? = some (some (.own xs))) (hf : b = true → flat x = true) (hl : xs.length < lim) : VV.sApp i b e env s = some (.nx (env.set i (some (.own (xs ++ [x])))), s1) := by
  unfold VV.sApp
  rw [h, bd_some]
  unfold VV.ownAt
  rw [ho]
  dsimp only
  rw [if_pos]
  cases b with
  | true => rw [hf rfl, decide_eq_true hl]; rfl
  | false => rw [decide_eq_true hl]; rfl
theorem w_fn {n : Nat} {b : VSM} {vs : List P} (h : b (VV.start n vs) s = some (.ret x, s1)) : VV.fnM n b vs s = some (x, s1) := by
  unfold VV.fnM; rw [h]; rfl
theorem w_fnn {n : Nat} {b : VSM} {vs : List P} (h : b (VV.start n vs) s = some (.nx env, s1)) : VV.fnM n b vs s = some (.non, s1) := by
  unfold VV.fnM; rw [h]; rfl
/-- a while loop that draws nothing -/
theorem while_rec {α : Type} {t : VEnv → VM Bool} {b : VSM} (E : α → VS) (c : α → Bool) (f : α → α) (μ : α → Nat) (I : α → Prop) (ht : ∀ x, I x → t (VV.vis2 (E x)) s = some (c x, s)) (hb : ∀ x, I x → c x = true → b (E x) s = some (.nx (E (f x)), s) ∧ I (f x) ∧ μ (f x) < μ x) :
    ∀ (n : Nat) (x : α), I x → μ x < n → ∃ y, VV.whileN t b n (E x) s = some (.nx (E y), s) ∧ I y ∧ c y = false
  | 0, x, _, h => absurd h (Nat.not_lt_zero _)
  | n + 1, x, i, h => by
    unfold VV.whileN
    rw [ht x i, bd_some]
    cases hc : c x with
    | false => exact ⟨x, rfl, i, hc⟩
    | true =>
      obtain ⟨h1, h2, h3⟩ := hb x i hc
      rw [if_pos rfl, h1, bd_some]
      exact while_rec E c f μ I ht hb n (f x) h2 (by omega)
theorem w_while {α : Type} {t : VEnv → VM Bool} {b : VSM} (E : α → VS) (c : α → Bool) (f : α → α) (μ : α → Nat) (I : α → Prop) (ht : ∀ x, I x → t (VV.vis2 (E x)) s = some (c x, s)) (hb : ∀ x, I x → c x = true → b (E x) s = some (.nx (E (f x)), s) ∧ I (f x) ∧ μ (f x) < μ x)
    (x : α) (i : I x) (h : μ x < 1000000000) : ∃ y, VV.sWhile t b (E x) s = some (.nx (E y), s) ∧ I y ∧ c y = false := while_rec E c f μ I ht hb _ x i h
/-- a for loop that comes to its end -/
theorem for_inv {α : Type} {tg : VV.VT} {b : VSM} (g : α → P) (Q : Nat → VS → SS → Prop) : ∀ (l : List α) (k : Nat) (env : VS) (s : SS), Q k env s → (∀ (i : Nat) (a : α) (env : VS) (s : SS), l[i]? = some a → Q (k + i) env s → ∃ bs env' s', tg (g a) = some bs ∧ (b (VV.setS env bs) s = some (.nx env', s') ∨ b (VV.setS env bs) s = some (.ct env', s')) ∧ Q (k + i + 1) env' s') →
    ∃ env' s', VV.forL tg b (l.map g) env s = some (.nx env', s') ∧ Q (k + l.length) env' s'
  | [], k, env, s, q, _ => ⟨env, s, rfl, q⟩
  | a :: l, k, env, s, q, h => by
    obtain ⟨bs, env1, s1, h1, h2, q1⟩ := h 0 a env s rfl q
    obtain ⟨env2, s2, h3, q2⟩ := for_inv g Q l (k + 1) env1 s1 q1 fun i a env s e q => by
      obtain ⟨bs, env', s', h1, h2, q⟩ := h (i + 1) a env s (by simpa using e) (by rw [show k + (i + 1) = k + 1 + i from by omega]; exact q)
      exact ⟨bs, env', s', h1, h2, by rw [show k + (i + 1) + 1 = k + 1 + i + 1 from by omega] at q; exact q⟩
    refine ⟨env2, s2, ?_, by rw [show k + (a :: l).length = k + 1 + l.length from by simp; omega]; exact q2⟩
    show bd (lift (tg (g a)) s) _ = _
    rw [h1, lift_some, bd_some]
    rcases h2 with h2 | h2 <;>
    · rw [h2, bd_some]; exact h3
theorem w_for {α : Type} {src : VEnv → VM (List P)} {tg : VV.VT} {b : VSM} {l : List α} (g : α → P) (Q : Nat → VS → SS → Prop) (h : src (VV.vis1 env) s = some (l.map g, s1)) (q : Q 0 env s1)
    (hb : ∀ (i : Nat) (a : α) (env : VS) (s : SS), l[i]? = some a → Q i env s → ∃ bs env' s', tg (g a) = some bs ∧ (b (VV.setS env bs) s = some (.nx env', s') ∨ b (VV.setS env bs) s = some (.ct env', s')) ∧ Q (i + 1) env' s') : ∃ env' s', VV.sFor false src tg b env s = some (.nx env', s') ∧ Q l.length env' s' := by
  obtain ⟨env', s', h1, q1⟩ := for_inv (tg := tg) (b := b) g Q l 0 env s1 q fun i a env s e q => by rw [Nat.zero_add] at q ⊢; exact hb i a env s e q
  refine ⟨env', s', ?_, by rw [Nat.zero_add] at q1; exact q1⟩
  unfold VV.sFor
  show bd (src (VV.vis1 env) s) _ = _
  rw [h, bd_some]
  exact h1
theorem w_forB {α : Type} {src : VEnv → VM (List P)} {tg : VV.VT} {b : VSM} {l : List α} (g : α → P) (Q : Nat → VS → SS → Prop) (h : src (VV.vis2 env) s = some (l.map g, s1)) (hf : flats (l.map g) = true) (q : Q 0 env s1)
    (hb : ∀ (i : Nat) (a : α) (env : VS) (s : SS), l[i]? = some a → Q i env s → ∃ bs env' s', tg (g a) = some bs ∧ (b (VV.setS env bs) s = some (.nx env', s') ∨ b (VV.setS env bs) s = some (.ct env', s')) ∧ Q (i + 1) env' s') : ∃ env' s', VV.sFor true src tg b env s = some (.nx env', s') ∧ Q l.length env' s' := by
  obtain ⟨env', s', h1, q1⟩ := for_inv (tg := tg) (b := b) g Q l 0 env s1 q fun i a env s e q => by rw [Nat.zero_add] at q ⊢; exact hb i a env s e q
  refine ⟨env', s', ?_, by rw [Nat.zero_add] at q1; exact q1⟩
  unfold VV.sFor
  show bd (src (VV.vis2 env) s) _ = _
  rw [h, bd_some]
  show (if flats (l.map g) = true then _ else _) = _
  rw [if_pos hf]
  exact h1
end
/-! flatness -/
theorem flats_map {α : Type} (g : α → P) (h : ∀ a, flat (g a) = true) : ∀ l : List α, flats (l.map g) = true
  | [] => rfl
  | a :: l => by
    show (flat (g a) && flats (l.map g)) = true
    rw [h a, flats_map g h l]; rfl
theorem flats_app : ∀ l r : List P, flats l = true → flats r = true → flats (l ++ r) = true
  | [], r, _, h => h
  | a :: l, r, h1, h2 => by
    have h1' : (flat a && flats l) = true := h1
    rw [Bool.and_eq_true] at h1'
    show (flat a && flats (l ++ r)) = true
    rw [h1'.1, flats_app l r h1'.2 h2]; rfl
theorem lim_pos : (0 : Nat) < lim := by decide
theorem ints_map {α : Type} (f : α → Int) : ∀ l : List α, VV.intsOf (l.map fun a => .int (f a)) = some (l.map f)
  | [] => rfl
  | a :: l => by
    show (VV.intsOf (l.map fun a => .int (f a))).map (f a :: ·) = _
    rw [ints_map f l]; rfl
theorem bls_map {α : Type} (f : α → Bool) : ∀ l : List α, VV.blsOf (l.map fun a => .bl (f a)) = some (l.map f)
  | [] => rfl
  | a :: l => by
    show (VV.blsOf (l.map fun a => .bl (f a))).map (f a :: ·) = _
    rw [bls_map f l]; rfl
theorem strs_map {α : Type} (f : α → List Nat) : ∀ l : List α, VV.strsOf (l.map fun a => .str (f a)) = some (l.map f)
  | [] => rfl
  | a :: l => by
    show (VV.strsOf (l.map fun a => .str (f a))).map (f a :: ·) = _
    rw [strs_map f l]; rfl
end MM

/-! The laws' common helpers. -/
namespace MM
open PySem PySem.Spec PyProof.Rows L2
namespace VV
abbrev v__law_draw := drawV
end VV
theorem vf__law_draw : OkF m__law_draw VV.v__law_draw true := draw_ok
def m__law_pick : List D → M D := fnM 2 (sRet (eBin opIx (eVar 1) (eCall 2 (m__law_draw) (aCons (eVar 0) (aCons (eArgs fLen (aCons (eVar 1) (aNil))) (aNil))))))
namespace VV
def v__law_pick : List P → VM P := fnM 2 (sRet (eBin opIx (eVar 1) (eCall 2 (v__law_draw) (aCons (eVar 0) (aCons (eArgs fLen (aCons (eVar 1) (aNil))) (aNil))))))
end VV
theorem vf__law_pick : OkF m__law_pick VV.v__law_pick false := q_fn (q_ret (q_bin p_ix (q_var) (q_call (vf__law_draw) (q_acons (q_var) (q_acons (q_args c_len' (q_acons (q_var) (q_anil))) (q_anil))))))
def m__law_mixed : List D → M D := fnM 5 (sSeq (sPar 2 3 (aCons (eArgs fList (aCons (eVar 1) (aNil))) (aCons (eArgs mkLst (aNil)) (aNil))))
  (sSeq (sFor (srcRange1 (aCons (eArgs fLen (aCons (eVar 2) (aNil))) (aNil))) (tName 4)
  (sExpr (eMeth "list" mAppend (eVar 3) (aCons (eMeth "list" mPop (eVar 2) (aCons (eCall 2 (m__law_draw) (aCons (eVar 0) (aCons (eArgs fLen (aCons (eVar 2) (aNil))) (aNil)))) (aNil))) (aNil)))))
  (sRet (eVar 3))))
namespace VV
def v__law_mixed : List P → VM P := fnM 5 (sSeq (sPar 2 3 true false (eArgs fList (aCons (eVar 1) (aNil))) true false (eArgs mkLst (aNil)))
  (sSeq (sFor true (srcRange1 (aCons (eArgs fLen (aCons (eVar 2) (aNil))) (aNil))) (tName 4)
  (sAppPop 3 2 (eCall 2 (v__law_draw) (aCons (eVar 0) (aCons (eArgs fLen (aCons (eVar 2) (aNil))) (aNil))))))
  (sRetO 3)))
end VV
theorem vf__law_mixed : OkF m__law_mixed VV.v__law_mixed true := q_fn (q_seq (q_par (q_args c_list' (q_acons (q_var) (q_anil))) (q_args p_mklst (q_anil)))
  (q_seq (q_for (q_irange1 (q_acons (q_args c_len' (q_acons (q_var) (q_anil))) (q_anil))) (q_tname)
  (q_apppop (q_call (vf__law_draw) (q_acons (q_var) (q_acons (q_args c_len' (q_acons (q_var) (q_anil))) (q_anil))))))
  (q_retO)))
def m__law_same : Nat → List D → M D
  | 0 => fun _ => M.bad
  | n + 1 => fnM 4 (sSeq (sIf (tVal (eArgs fIsi (aCons (eVar 1) (aCons (eArgs mkTup (aCons (eC (.ty "list")) (aCons (eC (.ty "tuple")) (aNil)))) (aNil)))))
  (sSeq (sIf (tOr (tVal (eBin opNe (eArgs fIsi (aCons (eVar 0) (aCons (eC (.ty "list")) (aNil)))) (eArgs fIsi (aCons (eVar 1) (aCons (eC (.ty "list")) (aNil)))))) (tVal (eBin opNe (eArgs fIsi (aCons (eVar 0) (aCons (eC (.ty "tuple")) (aNil)))) (eArgs fIsi (aCons (eVar 1) (aCons (eC (.ty "tuple")) (aNil)))))))
  (sRet (eC (.bl false)))
  (sNil))
  (sRet (eAnd (eBin opEq (eArgs fLen (aCons (eVar 0) (aNil))) (eArgs fLen (aCons (eVar 1) (aNil)))) (eArgs fAll (aCons (eLc (srcZip (aCons (eVar 0) (aCons (eVar 1) (aNil)))) (tTup 2 (tsCons (tName 2) (tsCons (tName 3) (tsNil)))) [2, 3] (tYes) (eCall 2 (m__law_same n) (aCons (eVar 2) (aCons (eVar 3) (aNil))))) (aNil))))))
  (sNil))
  (sSeq (sIf (tVal (eArgs fIsi (aCons (eVar 1) (aCons (eC (.ty "dict")) (aNil)))))
  (sRet (eAnd (eArgs fIsi (aCons (eVar 0) (aCons (eC (.ty "dict")) (aNil)))) (eCall 2 (m__law_same n) (aCons (eArgs fList (aCons (eBad) (aNil))) (aCons (eArgs fList (aCons (eBad) (aNil))) (aNil))))))
  (sNil))
  (sSeq (sIf (tOr (tVal (eArgs fIsi (aCons (eVar 1) (aCons (eC (.ty "bool")) (aNil))))) (tVal (eArgs fIsi (aCons (eVar 0) (aCons (eC (.ty "bool")) (aNil))))))
  (sRet (eAnd (eArgs fIsi (aCons (eVar 1) (aCons (eC (.ty "bool")) (aNil)))) (eAnd (eArgs fIsi (aCons (eVar 0) (aCons (eC (.ty "bool")) (aNil)))) (eBin opEq (eVar 0) (eVar 1)))))
  (sNil))
  (sSeq (sIf (tOr (tVal (eBin opIs (eVar 1) (eC .non))) (tVal (eBin opIs (eVar 0) (eC .non))))
  (sRet (eAnd (eBin opIs (eVar 1) (eC .non)) (eBin opIs (eVar 0) (eC .non))))
  (sNil))
  (sSeq (sIf (tOr (tVal (eBin opNe (eArgs fIsi (aCons (eVar 1) (aCons (eC (.ty "int")) (aNil)))) (eArgs fIsi (aCons (eVar 0) (aCons (eC (.ty "int")) (aNil)))))) (tVal (eBin opNe (eArgs fIsi (aCons (eVar 1) (aCons (eC (.ty "str")) (aNil)))) (eArgs fIsi (aCons (eVar 0) (aCons (eC (.ty "str")) (aNil)))))))
  (sRet (eC (.bl false)))
  (sNil))
  (sRet (eAnd (eNot (eArgs fIsi (aCons (eVar 0) (aCons (eArgs mkTup (aCons (eC (.ty "list")) (aCons (eC (.ty "tuple")) (aCons (eC (.ty "dict")) (aNil))))) (aNil))))) (eBin opEq (eVar 0) (eVar 1)))))))))
namespace VV
def v__law_same : Nat → List P → VM P
  | 0 => fun _ _ => none
  | n + 1 => fnM 4 (sSeq (sIf (tVal (eArgs fIsi (aCons (eVar 1) (aCons (eArgs mkTup (aCons (eC (.ty "list")) (aCons (eC (.ty "tuple")) (aNil)))) (aNil)))))
  (sSeq (sIf (tOr (tVal (eBin opNe (eArgs fIsi (aCons (eVar 0) (aCons (eC (.ty "list")) (aNil)))) (eArgs fIsi (aCons (eVar 1) (aCons (eC (.ty "list")) (aNil)))))) (tVal (eBin opNe (eArgs fIsi (aCons (eVar 0) (aCons (eC (.ty "tuple")) (aNil)))) (eArgs fIsi (aCons (eVar 1) (aCons (eC (.ty "tuple")) (aNil)))))))
  (sRet (eC (.bl false)))
  (sNil))
  (sRet (eAnd (eBin opEq (eArgs fLen (aCons (eVar 0) (aNil))) (eArgs fLen (aCons (eVar 1) (aNil)))) (eArgs fAll (aCons (eLc (srcZip (aCons (eVar 0) (aCons (eVar 1) (aNil)))) (tTup 2 (tsCons (tName 2) (tsCons (tName 3) (tsNil)))) [2, 3] (tYes) (eCall 2 (v__law_same n) (aCons (eVar 2) (aCons (eVar 3) (aNil))))) (aNil))))))
  (sNil))
  (sSeq (sIf (tVal (eArgs fIsi (aCons (eVar 1) (aCons (eC (.ty "dict")) (aNil)))))
  (sRet (eAnd (eArgs fIsi (aCons (eVar 0) (aCons (eC (.ty "dict")) (aNil)))) (eCall 2 (v__law_same n) (aCons (eArgs fList (aCons (eBad) (aNil))) (aCons (eArgs fList (aCons (eBad) (aNil))) (aNil))))))
  (sNil))
  (sSeq (sIf (tOr (tVal (eArgs fIsi (aCons (eVar 1) (aCons (eC (.ty "bool")) (aNil))))) (tVal (eArgs fIsi (aCons (eVar 0) (aCons (eC (.ty "bool")) (aNil))))))
  (sRet (eAnd (eArgs fIsi (aCons (eVar 1) (aCons (eC (.ty "bool")) (aNil)))) (eAnd (eArgs fIsi (aCons (eVar 0) (aCons (eC (.ty "bool")) (aNil)))) (eBin opEq (eVar 0) (eVar 1)))))
  (sNil))
  (sSeq (sIf (tOr (tVal (eBin opIs (eVar 1) (eC .non))) (tVal (eBin opIs (eVar 0) (eC .non))))
  (sRet (eAnd (eBin opIs (eVar 1) (eC .non)) (eBin opIs (eVar 0) (eC .non))))
  (sNil))
  (sSeq (sIf (tOr (tVal (eBin opNe (eArgs fIsi (aCons (eVar 1) (aCons (eC (.ty "int")) (aNil)))) (eArgs fIsi (aCons (eVar 0) (aCons (eC (.ty "int")) (aNil)))))) (tVal (eBin opNe (eArgs fIsi (aCons (eVar 1) (aCons (eC (.ty "str")) (aNil)))) (eArgs fIsi (aCons (eVar 0) (aCons (eC (.ty "str")) (aNil)))))))
  (sRet (eC (.bl false)))
  (sNil))
  (sRet (eAnd (eNot (eArgs fIsi (aCons (eVar 0) (aCons (eArgs mkTup (aCons (eC (.ty "list")) (aCons (eC (.ty "tuple")) (aCons (eC (.ty "dict")) (aNil))))) (aNil))))) (eBin opEq (eVar 0) (eVar 1)))))))))
end VV
theorem vf__law_same : ∀ n, OkF (m__law_same n) (VV.v__law_same n) true
  | 0 => f_bad
  | n + 1 => by
    have ih := vf__law_same n
    exact q_fn (q_seq (q_ifs (q_tval (q_args c_isi' (q_acons (q_var) (q_acons (q_args p_mktup (q_acons (q_ty) (q_acons (q_ty) (q_anil)))) (q_anil)))))
      (q_seq (q_ifs (q_tor (q_tval (q_bin p_ne (q_args c_isi' (q_acons (q_var) (q_acons (q_ty) (q_anil)))) (q_args c_isi' (q_acons (q_var) (q_acons (q_ty) (q_anil)))))) (q_tval (q_bin p_ne (q_args c_isi' (q_acons (q_var) (q_acons (q_ty) (q_anil)))) (q_args c_isi' (q_acons (q_var) (q_acons (q_ty) (q_anil)))))))
      (q_ret (q_bl))
      (q_nil))
      (q_ret (q_and (q_bin p_eq (q_args c_len' (q_acons (q_var) (q_anil))) (q_args c_len' (q_acons (q_var) (q_anil)))) (q_args c_all' (q_acons (q_lc (q_izip (q_acons (q_var) (q_acons (q_var) (q_anil)))) (q_ttup (q_tscons (q_tname) (q_tscons (q_tname) (q_tsnil)))) (q_yes) (q_call (ih) (q_acons (q_var) (q_acons (q_var) (q_anil))))) (q_anil))))))
      (q_nil))
      (q_seq (q_ifs (q_tval (q_args c_isi' (q_acons (q_var) (q_acons (q_ty) (q_anil)))))
      (q_ret (q_and (q_args c_isi' (q_acons (q_var) (q_acons (q_ty) (q_anil)))) (q_call (ih) (q_acons (q_args c_list' (q_acons (q_ebad) (q_anil))) (q_acons (q_args c_list' (q_acons (q_ebad) (q_anil))) (q_anil))))))
      (q_nil))
      (q_seq (q_ifs (q_tor (q_tval (q_args c_isi' (q_acons (q_var) (q_acons (q_ty) (q_anil))))) (q_tval (q_args c_isi' (q_acons (q_var) (q_acons (q_ty) (q_anil))))))
      (q_ret (q_and (q_args c_isi' (q_acons (q_var) (q_acons (q_ty) (q_anil)))) (q_and (q_args c_isi' (q_acons (q_var) (q_acons (q_ty) (q_anil)))) (q_bin p_eq (q_var) (q_var)))))
      (q_nil))
      (q_seq (q_ifs (q_tor (q_tval (q_bin p_is (q_var) (q_non))) (q_tval (q_bin p_is (q_var) (q_non))))
      (q_ret (q_and (q_bin p_is (q_var) (q_non)) (q_bin p_is (q_var) (q_non))))
      (q_nil))
      (q_seq (q_ifs (q_tor (q_tval (q_bin p_ne (q_args c_isi' (q_acons (q_var) (q_acons (q_ty) (q_anil)))) (q_args c_isi' (q_acons (q_var) (q_acons (q_ty) (q_anil)))))) (q_tval (q_bin p_ne (q_args c_isi' (q_acons (q_var) (q_acons (q_ty) (q_anil)))) (q_args c_isi' (q_acons (q_var) (q_acons (q_ty) (q_anil)))))))
      (q_ret (q_bl))
      (q_nil))
      (q_ret (q_and (q_not (q_args c_isi' (q_acons (q_var) (q_acons (q_args p_mktup (q_acons (q_ty) (q_acons (q_ty) (q_acons (q_ty) (q_anil))))) (q_anil))))) (q_bin p_eq (q_var) (q_var)))))))))
def m__law_word : List D → M D := fnM 10 (sSeq (sPar 3 4 (aCons (eCall 2 (m__law_draw) (aCons (eVar 0) (aCons (eBin opAdd (eVar 1) (eC (.int 1))) (aNil)))) (aCons (eCall 2 (m__law_draw) (aCons (eVar 0) (aCons (eC (.int 6)) (aNil)))) (aNil))))
  (sSeq (sSet 5 (eMeth "str" mJoin (eC (.str [])) (aCons (eLc (srcRange1 (aCons (eVar 3) (aNil))) (tName 9) [9] (tYes) (eCall 2 (m__law_pick) (aCons (eVar 0) (aCons (eVar 2) (aNil))))) (aNil))))
  (sSeq (sIf (tOr (tVal (eBin opEq (eVar 4) (eC (.int 0)))) (tVal (eBin opEq (eVar 5) (eC (.str [])))))
  (sRet (eVar 5))
  (sNil))
  (sSeq (sIf (tVal (eBin opEq (eVar 4) (eC (.int 1))))
  (sSeq (sSet 6 (eSl (eVar 5) (pNone) (pSome (eBin opAdd (eC (.int 1)) (eCall 2 (m__law_draw) (aCons (eVar 0) (aCons (eArgs fMax (aCons (eBin opDiv (eArgs fLen (aCons (eVar 5) (aNil))) (eC (.int 2))) (aCons (eC (.int 1)) (aNil)))) (aNil))))))))
  (sRet (eSl (eBin opMul (eVar 6) (eVar 1)) (pNone) (pSome (eVar 3)))))
  (sNil))
  (sSeq (sIf (tVal (eBin opEq (eVar 4) (eC (.int 2))))
  (sSeq (sSet 6 (eSl (eVar 5) (pNone) (pSome (eBin opAdd (eC (.int 1)) (eCall 2 (m__law_draw) (aCons (eVar 0) (aCons (eArgs fMax (aCons (eBin opDiv (eArgs fLen (aCons (eVar 5) (aNil))) (eC (.int 3))) (aCons (eC (.int 1)) (aNil)))) (aNil))))))))
  (sRet (eIf (tVal (eBin opEq (eCall 2 (m__law_draw) (aCons (eVar 0) (aCons (eC (.int 2)) (aNil)))) (eC (.int 0)))) (eBin opMul (eVar 6) (eBin opDiv (eVar 1) (eArgs fLen (aCons (eVar 6) (aNil))))) (eBin opMul (eVar 6) (eBin opDiv (eVar 3) (eArgs fLen (aCons (eVar 6) (aNil))))))))
  (sNil))
  (sSeq (sIf (tVal (eBin opEq (eVar 4) (eC (.int 3))))
  (sSeq (sAsg (eArgs mkTup (aCons (eSl (eVar 5) (pNone) (pSome (eBin opAdd (eC (.int 1)) (eCall 2 (m__law_draw) (aCons (eVar 0) (aCons (eC (.int 3)) (aNil))))))) (aCons (eSl (eVar 5) (pSome (eBin opSub (eUn opNeg (eC (.int 1))) (eCall 2 (m__law_draw) (aCons (eVar 0) (aCons (eC (.int 3)) (aNil)))))) (pNone)) (aNil)))) (tTup 2 (tsCons (tName 7) (tsCons (tName 8) (tsNil)))))
  (sRet (eSl (eMeth "str" mJoin (eC (.str [])) (aCons (eLc (srcRange1 (aCons (eVar 1) (aNil))) (tName 9) [9] (tYes) (eCall 2 (m__law_pick) (aCons (eVar 0) (aCons (eArgs mkLst (aCons (eVar 7) (aCons (eVar 8) (aCons (eVar 7) (aNil))))) (aNil))))) (aNil))) (pNone) (pSome (eVar 3)))))
  (sNil))
  (sSeq (sIf (tVal (eBin opEq (eVar 4) (eC (.int 4))))
  (sRet (eSl (eBin opAdd (eVar 5) (eUn opRev (eVar 5))) (pNone) (pSome (eVar 1))))
  (sNil))
  (sRet (eSl (eBin opAdd (eSl (eVar 5) (pNone) (pSome (eBin opDiv (eArgs fLen (aCons (eVar 5) (aNil))) (eC (.int 2))))) (eSl (eVar 5) (pNone) (pSome (eBin opSub (eArgs fLen (aCons (eVar 5) (aNil))) (eBin opDiv (eArgs fLen (aCons (eVar 5) (aNil))) (eC (.int 2))))))) (pNone) (pSome (eVar 1)))))))))))
namespace VV
def v__law_word : List P → VM P := fnM 10 (sSeq (sPar 3 4 false false (eCall 2 (v__law_draw) (aCons (eVar 0) (aCons (eBin opAdd (eVar 1) (eC (.int 1))) (aNil)))) false false (eCall 2 (v__law_draw) (aCons (eVar 0) (aCons (eC (.int 6)) (aNil)))))
  (sSeq (sSet 5 false false (eMeth "str" mJoin (eC (.str [])) (aCons (eLc (srcRange1 (aCons (eVar 3) (aNil))) (tName 9) [9] (tYes) (eCall 2 (v__law_pick) (aCons (eVar 0) (aCons (eVar 2) (aNil))))) (aNil))))
  (sSeq (sIf (tOr (tVal (eBin opEq (eVar 4) (eC (.int 0)))) (tVal (eBin opEq (eVar 5) (eC (.str [])))))
  (sRet (eVar 5))
  (sNil))
  (sSeq (sIf (tVal (eBin opEq (eVar 4) (eC (.int 1))))
  (sSeq (sSet 6 false false (eSl (eVar 5) (pNone) (pSome (eBin opAdd (eC (.int 1)) (eCall 2 (v__law_draw) (aCons (eVar 0) (aCons (eArgs fMax (aCons (eBin opDiv (eArgs fLen (aCons (eVar 5) (aNil))) (eC (.int 2))) (aCons (eC (.int 1)) (aNil)))) (aNil))))))))
  (sRet (eSl (eBin opMul (eVar 6) (eVar 1)) (pNone) (pSome (eVar 3)))))
  (sNil))
  (sSeq (sIf (tVal (eBin opEq (eVar 4) (eC (.int 2))))
  (sSeq (sSet 6 false false (eSl (eVar 5) (pNone) (pSome (eBin opAdd (eC (.int 1)) (eCall 2 (v__law_draw) (aCons (eVar 0) (aCons (eArgs fMax (aCons (eBin opDiv (eArgs fLen (aCons (eVar 5) (aNil))) (eC (.int 3))) (aCons (eC (.int 1)) (aNil)))) (aNil))))))))
  (sRet (eIf (tVal (eBin opEq (eCall 2 (v__law_draw) (aCons (eVar 0) (aCons (eC (.int 2)) (aNil)))) (eC (.int 0)))) (eBin opMul (eVar 6) (eBin opDiv (eVar 1) (eArgs fLen (aCons (eVar 6) (aNil))))) (eBin opMul (eVar 6) (eBin opDiv (eVar 3) (eArgs fLen (aCons (eVar 6) (aNil))))))))
  (sNil))
  (sSeq (sIf (tVal (eBin opEq (eVar 4) (eC (.int 3))))
  (sSeq (sPar 7 8 false false (eSl (eVar 5) (pNone) (pSome (eBin opAdd (eC (.int 1)) (eCall 2 (v__law_draw) (aCons (eVar 0) (aCons (eC (.int 3)) (aNil))))))) false false (eSl (eVar 5) (pSome (eBin opSub (eUn opNeg (eC (.int 1))) (eCall 2 (v__law_draw) (aCons (eVar 0) (aCons (eC (.int 3)) (aNil)))))) (pNone)))
  (sRet (eSl (eMeth "str" mJoin (eC (.str [])) (aCons (eLc (srcRange1 (aCons (eVar 1) (aNil))) (tName 9) [9] (tYes) (eCall 2 (v__law_pick) (aCons (eVar 0) (aCons (eArgs mkLst (aCons (eVar 7) (aCons (eVar 8) (aCons (eVar 7) (aNil))))) (aNil))))) (aNil))) (pNone) (pSome (eVar 3)))))
  (sNil))
  (sSeq (sIf (tVal (eBin opEq (eVar 4) (eC (.int 4))))
  (sRet (eSl (eBin opAdd (eVar 5) (eUn opRev (eVar 5))) (pNone) (pSome (eVar 1))))
  (sNil))
  (sRet (eSl (eBin opAdd (eSl (eVar 5) (pNone) (pSome (eBin opDiv (eArgs fLen (aCons (eVar 5) (aNil))) (eC (.int 2))))) (eSl (eVar 5) (pNone) (pSome (eBin opSub (eArgs fLen (aCons (eVar 5) (aNil))) (eBin opDiv (eArgs fLen (aCons (eVar 5) (aNil))) (eC (.int 2))))))) (pNone) (pSome (eVar 1)))))))))))
end VV
theorem vf__law_word : OkF m__law_word VV.v__law_word false := q_fn (q_seq (q_par (q_call (vf__law_draw) (q_acons (q_var) (q_acons (q_bin p_add (q_var) (q_int)) (q_anil)))) (q_call (vf__law_draw) (q_acons (q_var) (q_acons (q_int) (q_anil)))))
  (q_seq (q_set (q_join (q_str) (q_acons (q_lc (q_irange1 (q_acons (q_var) (q_anil))) (q_tname) (q_yes) (q_call (vf__law_pick) (q_acons (q_var) (q_acons (q_var) (q_anil))))) (q_anil))))
  (q_seq (q_ifs (q_tor (q_tval (q_bin p_eq (q_var) (q_int))) (q_tval (q_bin p_eq (q_var) (q_str))))
  (q_ret (q_var))
  (q_nil))
  (q_seq (q_ifs (q_tval (q_bin p_eq (q_var) (q_int)))
  (q_seq (q_set (q_sl (q_var) (q_pnone) (q_psome (q_bin p_add (q_int) (q_call (vf__law_draw) (q_acons (q_var) (q_acons (q_args c_max' (q_acons (q_bin p_div (q_args c_len' (q_acons (q_var) (q_anil))) (q_int)) (q_acons (q_int) (q_anil)))) (q_anil))))))))
  (q_ret (q_sl (q_bin p_mul (q_var) (q_var)) (q_pnone) (q_psome (q_var))) (.inr rfl)))
  (q_nil))
  (q_seq (q_ifs (q_tval (q_bin p_eq (q_var) (q_int)))
  (q_seq (q_set (q_sl (q_var) (q_pnone) (q_psome (q_bin p_add (q_int) (q_call (vf__law_draw) (q_acons (q_var) (q_acons (q_args c_max' (q_acons (q_bin p_div (q_args c_len' (q_acons (q_var) (q_anil))) (q_int)) (q_acons (q_int) (q_anil)))) (q_anil))))))))
  (q_ret (q_if (q_tval (q_bin p_eq (q_call (vf__law_draw) (q_acons (q_var) (q_acons (q_int) (q_anil)))) (q_int))) (q_bin p_mul (q_var) (q_bin p_div (q_var) (q_args c_len' (q_acons (q_var) (q_anil))))) (q_bin p_mul (q_var) (q_bin p_div (q_var) (q_args c_len' (q_acons (q_var) (q_anil)))))) (.inr rfl)))
  (q_nil))
  (q_seq (q_ifs (q_tval (q_bin p_eq (q_var) (q_int)))
  (q_seq (q_parT (q_sl (q_var) (q_pnone) (q_psome (q_bin p_add (q_int) (q_call (vf__law_draw) (q_acons (q_var) (q_acons (q_int) (q_anil))))))) (q_sl (q_var) (q_psome (q_bin p_sub (q_un p_neg (q_int)) (q_call (vf__law_draw) (q_acons (q_var) (q_acons (q_int) (q_anil)))))) (q_pnone)))
  (q_ret (q_sl (q_join (q_str) (q_acons (q_lc (q_irange1 (q_acons (q_var) (q_anil))) (q_tname) (q_yes) (q_call (vf__law_pick) (q_acons (q_var) (q_acons (q_args p_mklst (q_acons (q_var) (q_acons (q_var) (q_acons (q_var) (q_anil))))) (q_anil))))) (q_anil))) (q_pnone) (q_psome (q_var))) (.inr rfl)))
  (q_nil))
  (q_seq (q_ifs (q_tval (q_bin p_eq (q_var) (q_int)))
  (q_ret (q_sl (q_bin p_add (q_var) (q_un p_rev (q_var))) (q_pnone) (q_psome (q_var))) (.inr rfl))
  (q_nil))
  (q_ret (q_sl (q_bin p_add (q_sl (q_var) (q_pnone) (q_psome (q_bin p_div (q_args c_len' (q_acons (q_var) (q_anil))) (q_int)))) (q_sl (q_var) (q_pnone) (q_psome (q_bin p_sub (q_args c_len' (q_acons (q_var) (q_anil))) (q_bin p_div (q_args c_len' (q_acons (q_var) (q_anil))) (q_int)))))) (q_pnone) (q_psome (q_var))) (.inr rfl)))))))))
def m__law_letters : List D → M D := fnM 2 (sRet (eSl (eCall 2 (m__law_mixed) (aCons (eVar 0) (aCons (eLc (srcSeq (eC (.str [97, 98, 99, 100, 101, 102, 103, 104, 105, 106, 107, 108, 109, 110, 111, 112, 113, 114, 115, 116, 117, 118, 119, 120, 121, 122]))) (tName 1) [1] (tYes) (eVar 1)) (aNil)))) (pNone) (pSome (eBin opAdd (eC (.int 1)) (eCall 2 (m__law_draw) (aCons (eVar 0) (aCons (eCall 2 (m__law_pick) (aCons (eVar 0) (aCons (eArgs mkLst (aCons (eC (.int 2)) (aCons (eC (.int 3)) (aCons (eC (.int 5)) (aNil))))) (aNil)))) (aNil))))))))
namespace VV
def v__law_letters : List P → VM P := fnM 2 (sRet (eSl (eCall 2 (v__law_mixed) (aCons (eVar 0) (aCons (eLc (srcSeq (eC (.str [97, 98, 99, 100, 101, 102, 103, 104, 105, 106, 107, 108, 109, 110, 111, 112, 113, 114, 115, 116, 117, 118, 119, 120, 121, 122]))) (tName 1) [1] (tYes) (eVar 1)) (aNil)))) (pNone) (pSome (eBin opAdd (eC (.int 1)) (eCall 2 (v__law_draw) (aCons (eVar 0) (aCons (eCall 2 (v__law_pick) (aCons (eVar 0) (aCons (eArgs mkLst (aCons (eC (.int 2)) (aCons (eC (.int 3)) (aCons (eC (.int 5)) (aNil))))) (aNil)))) (aNil))))))))
end VV
theorem vf__law_letters : OkF m__law_letters VV.v__law_letters true := q_fn (q_ret (q_sl (q_call (vf__law_mixed) (q_acons (q_var) (q_acons (q_lc (q_iseq (q_str)) (q_tname) (q_yes) (q_var)) (q_anil)))) (q_pnone) (q_psome (q_bin p_add (q_int) (q_call (vf__law_draw) (q_acons (q_var) (q_acons (q_call (vf__law_pick) (q_acons (q_var) (q_acons (q_args p_mklst (q_acons (q_int) (q_acons (q_int) (q_acons (q_int) (q_anil))))) (q_anil)))) (q_anil))))))))
end MM

/-! What the laws' common helpers give. -/
namespace MM
open PySem PySem.Spec PyProof.Rows L2

theorem atI_nat {α : Type} {xs : List α} {i : Nat} (h : i < xs.length) : atI xs (i : Int) = some xs[i] := by
  have e : ixN xs.length (i : Int) = some i := by
    unfold ixN
    rw [if_pos (by omega), if_pos (by omega)]
    simp
  unfold atI
  rw [e]
  simp [h]
theorem atI_int {α : Type} {xs : List α} {v : Int} (h0 : 0 ≤ v) (h : v < xs.length) : ∃ x, atI xs v = some x ∧ x ∈ xs := by
  obtain ⟨i, rfl⟩ := Int.eq_ofNat_of_zero_le h0
  have hi : i < xs.length := by omega
  exact ⟨xs[i], atI_nat hi, List.getElem_mem hi⟩
theorem ix_lst {xs : List P} {v : Int} {x : P} (h : atI xs v = some x) : VV.opIx (.lst xs) (.int v) = some x := h
theorem len_lst {xs : List P} : VV.fLen [.lst xs] = some (.int xs.length) := rfl
theorem len_str {w : List Nat} (h : w.length ≤ lim) : VV.fLen [.str w] = some (.int w.length) := by
  show (if w.length ≤ lim then some (P.int w.length) else none) = _
  rw [if_pos h]
theorem pick_ok {n : Nat} {s : SS} (g : Good (n + 1) s) {xs : List P} (h1 : 0 < xs.length) (h2 : xs.length < 1073741824) : ∃ x s', VV.v__law_pick [.strm, .lst xs] s = some (x, s') ∧ x ∈ xs ∧ Good n s' := by
  obtain ⟨v, s', e, v0, v1, g'⟩ := g.draw (many := xs.length) (by omega) (by omega)
  obtain ⟨x, ex, mx⟩ := atI_int v0 v1
  refine ⟨x, s', ?_, mx, g'⟩
  unfold VV.v__law_pick
  exact w_fn (w_ret (v_bin (v_var (x := .lst xs) rfl) (v_call (v_two (v_var (x := .strm) rfl) (v_args (v_one (v_var (x := .lst xs) rfl)) len_lst)) rfl e) (ix_lst ex)))
theorem popAt_nat {xs : List P} {v : Int} (h0 : 0 ≤ v) (h : v < xs.length) (hl : xs.length ≤ lim) : VV.popAt xs v = some v.toNat := by
  unfold VV.popAt
  have hl2 : lim = 16777216 := rfl
  rw [if_pos ⟨by omega, by omega⟩]
  unfold seqIndex?
  simp
  omega
theorem erase_perm : ∀ (xs : List P) (i : Nat) (h : i < xs.length), (xs[i] :: xs.eraseIdx i).Perm xs
  | [], i, h => absurd h (Nat.not_lt_zero _)
  | a :: xs, 0, _ => List.Perm.refl _
  | a :: xs, i + 1, h => by
    have hi : i < xs.length := by simpa using h
    exact (List.Perm.swap a (xs[i]'hi) (xs.eraseIdx i)).trans ((erase_perm xs i hi).cons a)
theorem perm_pop {xs ys : List P} {i : Nat} (h : i < xs.length) : (ys ++ [xs[i]] ++ xs.eraseIdx i).Perm (ys ++ xs) := by
  rw [List.append_assoc]
  refine List.Perm.append_left ys ?_
  exact erase_perm xs i h
theorem flats_perm {xs ys : List P} (h : ∀ y ∈ ys, y ∈ xs) (f : flats xs = true) : flats ys = true := by
  have all : ∀ l : List P, flats l = true ↔ ∀ x ∈ l, flat x = true := by
    intro l
    induction l with
    | nil => simp [flats]
    | cons a l ih =>
      show (flat a && flats l) = true ↔ _
      rw [Bool.and_eq_true, ih]
      simp
  rw [all] at f ⊢
  exact fun y hy => f y (h y hy)
theorem mixed_ok {n : Nat} {s : SS} {xs : List P} (g : Good (n + xs.length) s) (hf : flats xs = true) (hl : xs.length ≤ 1000000) : ∃ ys s', VV.v__law_mixed [.strm, .lst xs] s = some (.lst ys, s') ∧ ys.Perm xs ∧ Good n s' := by
  have hl2 : lim = 16777216 := rfl
  -- the loop
  let Q : Nat → VS → SS → Prop := fun i env s => ∃ left found k, env = [some (.val .strm), some (.val (.lst xs)), some (.own left), some (.own found), k] ∧ left.length + i = xs.length ∧ (found ++ left).Perm xs ∧ Good (n + left.length) s
  have start : VV.sPar 2 3 true false (VV.eArgs VV.fList (VV.aCons (VV.eVar 1) VV.aNil)) true false (VV.eArgs VV.mkLst VV.aNil) (VV.start 5 [.strm, .lst xs]) s = some (.nx [some (.val .strm), some (.val (.lst xs)), some (.own xs), some (.own []), none], s) := by
    unfold VV.sPar VV.sl
    have e1 : VV.eArgs VV.fList (VV.aCons (VV.eVar 1) VV.aNil) (VV.vis false (VV.start 5 [.strm, .lst xs])) s = some (.lst xs, s) := v_args (v_one (v_var (x := .lst xs) rfl)) rfl
    rw [e1, bd_some]
    unfold VV.mkSl
    dsimp only
    rw [if_pos hf]
    rfl
  have step : ∀ (i : Nat) (a : Nat) (env : VS) (s : SS), (List.range xs.length)[i]? = some a → Q i env s → ∃ bs env' s', VV.tName 4 (P.int ((a : Nat) : Int)) = some bs ∧
      (VV.sAppPop 3 2 (VV.eCall 2 VV.v__law_draw (VV.aCons (VV.eVar 0) (VV.aCons (VV.eArgs VV.fLen (VV.aCons (VV.eVar 2) VV.aNil)) VV.aNil))) (VV.setS env bs) s = some (.nx env', s') ∨ VV.sAppPop 3 2 (VV.eCall 2 VV.v__law_draw (VV.aCons (VV.eVar 0) (VV.aCons (VV.eArgs VV.fLen (VV.aCons (VV.eVar 2) VV.aNil)) VV.aNil))) (VV.setS env bs) s = some (.ct env', s')) ∧ Q (i + 1) env' s' := by
    rintro i a env s hi ⟨left, found, k, rfl, hlen, hp, hg⟩
    have hi' : i < xs.length := by simpa using lt_of_get hi
    obtain ⟨m, hm⟩ : ∃ m, left.length = m + 1 := ⟨left.length - 1, by omega⟩
    rw [hm, ← Nat.add_assoc] at hg
    obtain ⟨v, s', e, v0, v1, g'⟩ := hg.draw (many := left.length) (by omega) (by omega)
    refine ⟨_, [some (.val .strm), some (.val (.lst xs)), some (.own (left.eraseIdx v.toNat)), some (.own (found ++ [left[v.toNat]'(by omega)])), some (.val (.int a))], s', rfl, .inl ?_, _, _, _, rfl, ?_, ?_, ?_⟩
    · unfold VV.sAppPop
      have e1 : VV.eCall 2 VV.v__law_draw (VV.aCons (VV.eVar 0) (VV.aCons (VV.eArgs VV.fLen (VV.aCons (VV.eVar 2) VV.aNil)) VV.aNil)) (VV.vis2 [some (.val .strm), some (.val (.lst xs)), some (.own left), some (.own found), some (.val (.int a))]) s = some (.int v, s') :=
        v_call (v_two (v_var (x := .strm) rfl) (v_args (v_one (v_var (x := .lst left) rfl)) len_lst)) rfl e
      show bd (VV.eCall 2 _ _ (VV.vis2 [some (.val .strm), some (.val (.lst xs)), some (.own left), some (.own found), some (.val (.int a))]) s) _ = _
      rw [e1, bd_some]
      have hfl : found.length ≤ xs.length := by have := hp.length_eq; simp at this; omega
      show (match VV.popAt left v with | some l => (match left[l]? with | some x => if 3 ≠ 2 ∧ found.length < lim then _ else _ | none => _) | none => _) = _
      rw [popAt_nat v0 v1 (by omega)]
      dsimp only
      rw [List.getElem?_eq_getElem (show v.toNat < left.length by omega)]
      dsimp only
      rw [if_pos ⟨by decide, by omega⟩]
      rfl
    · rw [List.length_eraseIdx_of_lt (by omega)]; omega
    · exact (perm_pop (by omega)).trans hp
    · rw [List.length_eraseIdx_of_lt (by omega), hm]; exact g'
  obtain ⟨env', s', e2, left, found, k, rfl, hlen, hp, hg⟩ := w_forB (env := [some (.val .strm), some (.val (.lst xs)), some (.own xs), some (.own []), none]) (s := s) (tg := VV.tName 4) (src := VV.srcRange1 (VV.aCons (VV.eArgs VV.fLen (VV.aCons (VV.eVar 2) VV.aNil)) VV.aNil))
    (b := VV.sAppPop 3 2 (VV.eCall 2 VV.v__law_draw (VV.aCons (VV.eVar 0) (VV.aCons (VV.eArgs VV.fLen (VV.aCons (VV.eVar 2) VV.aNil)) VV.aNil)))) (l := List.range xs.length) (fun i : Nat => P.int ((i : Nat) : Int)) Q
    (v_range1 (v_one (v_args (v_one (v_var (x := .lst xs) rfl)) len_lst)) (by omega)) (flats_map _ (fun _ => rfl) _) ⟨xs, [], none, rfl, rfl, List.Perm.refl _, g⟩ step
  have hz : left = [] := List.eq_nil_of_length_eq_zero (by simpa using hlen)
  subst hz
  refine ⟨found, s', ?_, by simpa using hp, by simpa using hg⟩
  unfold VV.v__law_mixed
  refine w_fn ?_
  rw [w_seq start, w_seq e2]
  rfl
/-! texts -/
theorem sl_str {w : List Nat} {i j : Option Int} (h : w.length ≤ lim) : VV.opSl (.str w) i j = some (.str (cutL w i j)) := by
  show (if w.length ≤ lim then some (P.str (cutL w i j)) else none) = _
  rw [if_pos h]
theorem cut_mem {α : Type} {w : List α} {i j : Option Int} {c : α} (h : c ∈ cutL w i j) : c ∈ w := List.mem_of_mem_drop (List.mem_of_mem_take h)
theorem cut_len {α : Type} {w : List α} {i j : Option Int} : (cutL w i j).length ≤ w.length := by
  unfold cutL
  rw [List.length_take, List.length_drop]
  omega
theorem cut_to {α : Type} {w : List α} {k : Nat} : cutL w none (some (k : Int)) = w.take k := by
  unfold cutL
  rw [HT.sIx_none, HT.sIx_nat]
  simp only [List.drop_zero, Nat.sub_zero]
  rw [List.take_eq_take_iff]
  omega
theorem cut_from {α : Type} {w : List α} {k : Nat} : cutL w (some (k : Int)) none = w.drop k := by
  unfold cutL
  rw [HT.sIx_none, HT.sIx_nat]
  by_cases h : k ≤ w.length
  · rw [Nat.min_eq_left h, List.take_of_length_le (by simp)]
  · have h1 : w.drop (min k w.length) = [] := List.drop_eq_nil_of_le (by omega)
    have h2 : w.drop k = [] := List.drop_eq_nil_of_le (by omega)
    rw [h1, h2]
    simp
theorem cut_both {α : Type} {w : List α} {k l : Nat} : cutL w (some (k : Int)) (some (l : Int)) = (w.drop k).take (l - k) := by
  unfold cutL
  rw [HT.sIx_nat, HT.sIx_nat]
  by_cases h : k ≤ w.length
  · rw [Nat.min_eq_left h, List.take_eq_take_iff]
    simp only [List.length_drop]
    omega
  · have h1 : w.drop (min k w.length) = [] := List.drop_eq_nil_of_le (by omega)
    have h2 : w.drop k = [] := List.drop_eq_nil_of_le (by omega)
    rw [h1, h2]
    simp
theorem join_nil : ∀ ss : List (List Nat), joinL [] ss = ss.flatten
  | [] => rfl
  | [x] => by simp [joinL]
  | x :: y :: ss => by
    show x ++ [] ++ joinL [] (y :: ss) = _
    rw [join_nil (y :: ss)]
    simp
theorem rep_len {α : Type} (n : Nat) (l : List α) : (rep n l).length = n * l.length := by
  unfold rep
  simp
theorem rep_mem {α : Type} {n : Nat} {l : List α} {c : α} (h : c ∈ rep n l) : c ∈ l := by
  unfold rep at h
  obtain ⟨m, h1, h2⟩ := List.mem_flatten.mp h
  rw [List.mem_replicate] at h1
  rw [← h1.2]
  exact h2
def signOf : P → Nat
  | .str (c :: _) => c
  | _ => 0
theorem perm_signs {ys : List P} {az : List Nat} (hp : ys.Perm (az.map fun c => P.str [c])) : ∃ ls : List Nat, ys = ls.map (fun c => P.str [c]) ∧ ls.Perm az := by
  refine ⟨ys.map signOf, ?_, ?_⟩
  · rw [List.map_map]
    have h : ∀ y ∈ ys, ((fun c => P.str [c]) ∘ signOf) y = y := by
      intro y hy
      obtain ⟨c, _, rfl⟩ := List.mem_map.mp (hp.mem_iff.mp hy)
      rfl
    exact ((List.map_congr_left (g := id) h).trans (List.map_id ys)).symm
  · have := hp.map signOf
    rw [List.map_map] at this
    have e : az.map (signOf ∘ fun c => P.str [c]) = az := by
      have : (signOf ∘ fun c => P.str [c]) = id := rfl
      rw [this]; simp
    rw [e] at this
    exact this
/-- letters drawn: texts of one sign each -/
theorem letters_ok {n : Nat} {s : SS} (g : Good (n + 28) s) : ∃ (ls : List Nat) (s' : SS), VV.v__law_letters [.strm] s = some (.lst (ls.map fun c => .str [c]), s') ∧ 1 ≤ ls.length ∧ ls.length ≤ 5 ∧ (∀ c ∈ ls, 97 ≤ c ∧ c ≤ 122) ∧ ls.Nodup ∧ Good n s' := by
  let az : List Nat := [97, 98, 99, 100, 101, 102, 103, 104, 105, 106, 107, 108, 109, 110, 111, 112, 113, 114, 115, 116, 117, 118, 119, 120, 121, 122]
  have hz : ∀ c ∈ az, 97 ≤ c ∧ c ≤ 122 := by decide
  obtain ⟨ys, s1, e1, hp, g1⟩ := mixed_ok (n := n + 2) (s := s) (xs := az.map fun c => P.str [c]) (g.mono (by rw [List.length_map]; show n + 2 + 26 ≤ n + 28; omega)) (flats_map _ (fun _ => rfl) _) (by decide)
  obtain ⟨ls, rfl, hpl⟩ : ∃ ls : List Nat, ys = ls.map (fun c => P.str [c]) ∧ ls.Perm az := by
    exact perm_signs hp
  obtain ⟨x, s2, e2, hx, g2⟩ := pick_ok (n := n + 1) g1 (xs := [.int 2, .int 3, .int 5]) (by decide) (by decide)
  obtain ⟨k, rfl, hk0, hk⟩ : ∃ k : Int, x = .int k ∧ 0 < k ∧ k ≤ 5 := by
    simp at hx
    rcases hx with rfl | rfl | rfl
    · exact ⟨2, rfl, by decide, by decide⟩
    · exact ⟨3, rfl, by decide, by decide⟩
    · exact ⟨5, rfl, by decide, by decide⟩
  obtain ⟨v, s3, e3, v0, v1, g3⟩ := g2.draw hk0 (by omega)
  obtain ⟨m, rfl⟩ := Int.eq_ofNat_of_zero_le v0
  have hlen : ls.length = 26 := hpl.length_eq
  refine ⟨ls.take (1 + m), s3, ?_, by rw [List.length_take]; omega, by rw [List.length_take]; omega, fun c hc => hz c (hpl.mem_iff.mp (List.mem_of_mem_take hc)), (hpl.nodup_iff.mpr (by decide)).sublist (List.take_sublist _ _), g3⟩
  unfold VV.v__law_letters
  refine w_fn (w_ret ?_)
  have lc : VV.eLc (VV.srcSeq (VV.eC (.str az))) (VV.tName 1) [1] VV.tYes (VV.eVar 1) (VV.vis2 (VV.start 2 [.strm])) s = some (.lst (az.map fun c => P.str [c]), s) :=
    v_lc1 (fun c => P.str [c]) (fun c => P.str [c]) (v_seqS (w := az) rfl) (by decide) fun a _ => v_var rfl
  have c1 : VV.eCall 2 VV.v__law_mixed (VV.aCons (VV.eVar 0) (VV.aCons (VV.eLc (VV.srcSeq (VV.eC (.str az))) (VV.tName 1) [1] VV.tYes (VV.eVar 1)) VV.aNil)) (VV.vis2 (VV.start 2 [.strm])) s = some (.lst (ls.map fun c => .str [c]), s1) :=
    v_call (v_two (v_var (x := .strm) rfl) lc) rfl e1
  refine v_sl (i := none) (j := some ((1 + m : Nat) : Int)) c1 rfl (v_some (v_bin (x := .int 1) (y := .int m) rfl (v_call (v_two (v_var (x := .strm) rfl) (v_call (v_two (v_var (x := .strm) rfl) (v_args (xs := [.int 2, .int 3, .int 5]) rfl rfl)) rfl e2)) rfl e3) ?_)) ?_
  · show some (P.int (1 + (m : Int))) = _
    rw [show ((1 + m : Nat) : Int) = 1 + (m : Int) by omega]
  · show some (P.lst (cutL (ls.map fun c => P.str [c]) none (some ((1 + m : Nat) : Int)))) = _
    rw [cut_to, List.map_take]
end MM

/-! A drawn word; what is the same. -/
namespace MM
open PySem PySem.Spec PyProof.Rows L2

theorem signs_of {ls : List Nat} : ∀ {ys : List P}, (∀ y ∈ ys, ∃ c ∈ ls, y = .str [c]) → ∃ cs : List Nat, ys = cs.map (fun c => P.str [c]) ∧ ∀ c ∈ cs, c ∈ ls
  | [], _ => ⟨[], rfl, fun _ z => nomatch z⟩
  | y :: ys, h => by
    obtain ⟨c, hc, rfl⟩ := h y List.mem_cons_self
    obtain ⟨cs, rfl, h2⟩ := signs_of (ys := ys) fun z hz => h z (List.mem_cons_of_mem _ hz)
    exact ⟨c :: cs, rfl, fun d hd => (List.mem_cons.mp hd).elim (fun e => by rw [e]; exact hc) (h2 d)⟩
theorem words_of {ls : List Nat} : ∀ {ys : List P}, (∀ y ∈ ys, ∃ c : List Nat, c.length ≤ 3 ∧ (∀ d ∈ c, d ∈ ls) ∧ y = .str c) → ∃ cs : List (List Nat), ys = cs.map P.str ∧ (∀ c ∈ cs, c.length ≤ 3) ∧ ∀ c ∈ cs, ∀ d ∈ c, d ∈ ls
  | [], _ => ⟨[], rfl, fun _ z => (nomatch z), fun _ z => nomatch z⟩
  | y :: ys, h => by
    obtain ⟨c, hc, hm, rfl⟩ := h y List.mem_cons_self
    obtain ⟨cs, rfl, h2, h3⟩ := words_of (ys := ys) fun z hz => h z (List.mem_cons_of_mem _ hz)
    exact ⟨c :: cs, rfl, fun d hd => (List.mem_cons.mp hd).elim (fun e => by rw [e]; exact hc) (h2 d), fun d hd => (List.mem_cons.mp hd).elim (fun e => by rw [e]; exact hm) (h3 d)⟩
theorem strs_id (cs : List (List Nat)) : VV.strsOf (cs.map P.str) = some cs := by
  have := strs_map (fun c : List Nat => c) cs
  simpa using this
theorem sum_le {α : Type} (f : α → Nat) (k : Nat) : ∀ l : List α, (∀ a ∈ l, f a ≤ k) → (l.map f).sum ≤ l.length * k
  | [], _ => by simp
  | a :: l, h => by
    have h1 := h a List.mem_cons_self
    have h2 := sum_le f k l fun b hb => h b (List.mem_cons_of_mem _ hb)
    simp [Nat.add_mul]
    omega
theorem eq_int {i j : Int} : VV.opEq (.int i) (.int j) = some (.bl (decide (i = j))) := rfl
theorem eq_str {i j : List Nat} : VV.opEq (.str i) (.str j) = some (.bl (decide (i = j))) := rfl
theorem ne_str {i j : List Nat} : VV.opNe (.str i) (.str j) = some (.bl (!decide (i = j))) := rfl
theorem max_int {i j : Int} : VV.fMax [.int i, .int j] = some (.int (if j > i then j else i)) := rfl
theorem div_nat {a k : Nat} (h : 0 < k) (h2 : k < 1073741824) : VV.opDiv (.int (a : Int)) (.int (k : Int)) = some (.int ((a / k : Nat) : Int)) := by
  unfold VV.opDiv
  dsimp only
  rw [if_pos ⟨by omega, by omega⟩, Int.fdiv_eq_ediv_of_nonneg _ (by omega)]
  rfl
theorem mul_str {w : List Nat} {k : Nat} (h : k < 2 ^ 62) (hl : w.length * k ≤ lim) : VV.opMul (.str w) (.int (k : Int)) = some (.str (rep k w)) := by
  unfold VV.opMul
  dsimp only
  rw [if_pos ⟨by omega, by omega, by simpa using hl⟩]
  simp
theorem add_str {a b : List Nat} (h : a.length + b.length ≤ lim) : VV.opAdd (.str a) (.str b) = some (.str (a ++ b)) := by
  show (if a.length + b.length ≤ lim then some (P.str (a ++ b)) else none) = _
  rw [if_pos h]
theorem add_int {i j : Int} : VV.opAdd (.int i) (.int j) = some (.int (i + j)) := rfl
theorem sub_int {i j : Int} : VV.opSub (.int i) (.int j) = some (.int (i - j)) := rfl
section
variable {s s1 s2 : SS} {env : VEnv}
/-- 1 + a draw -/
theorem v_draw {n : Nat} {e : VEnv → VM P} {many : Int} (he : env[0]? = some (some .strm)) (hm : e env s = some (.int many, s)) (g : Good (n + 1) s) (h1 : 0 < many) (h2 : many < 1073741824) :
    ∃ (v : Nat) (s' : SS), VV.eCall 2 VV.v__law_draw (VV.aCons (VV.eVar 0) (VV.aCons e VV.aNil)) env s = some (.int v, s') ∧ (v : Int) < many ∧ Good n s' := by
  obtain ⟨v, s', e1, v0, v1, g1⟩ := g.draw h1 h2
  obtain ⟨m, rfl⟩ := Int.eq_ofNat_of_zero_le v0
  exact ⟨m, s', v_call (v_two (v_var he) hm) rfl e1, v1, g1⟩
theorem v_draw1 {n : Nat} {e : VEnv → VM P} {many : Int} (he : env[0]? = some (some .strm)) (hm : e env s = some (.int many, s)) (g : Good (n + 1) s) (h1 : 0 < many) (h2 : many < 1073741824) :
    ∃ (v : Nat) (s' : SS), VV.eBin VV.opAdd (VV.eC (.int 1)) (VV.eCall 2 VV.v__law_draw (VV.aCons (VV.eVar 0) (VV.aCons e VV.aNil))) env s = some (.int ((1 + v : Nat) : Int), s') ∧ (v : Int) < many ∧ Good n s' := by
  obtain ⟨v, s', e1, h3, g1⟩ := v_draw he hm g h1 h2
  refine ⟨v, s', v_bin rfl e1 ?_, h3, g1⟩
  rw [add_int]
  simp
end
end MM

/-! A drawn word. -/
namespace MM
open PySem PySem.Spec PyProof.Rows L2

section
variable {s s1 : SS} {env : VS}
theorem w_par {i j : Nat} {e1 e2 : VEnv → VM P} {x y : P} {s2 : SS} (h1 : e1 (VV.vis1 env) s = some (x, s1)) (h2 : e2 (VV.vis1 env) s1 = some (y, s2)) : VV.sPar i j false false e1 false false e2 env s = some (.nx ((env.set i (some (.val x))).set j (some (.val y))), s2) := by
  unfold VV.sPar VV.sl
  show bd (bd (e1 (VV.vis1 env) s) _) _ = _
  rw [h1]
  show bd (bd (e2 (VV.vis1 env) s1) _) _ = _
  rw [h2]; rfl
theorem w_parO {i j : Nat} {e1 e2 : VEnv → VM P} {xs : List P} {y : P} {s2 : SS} (h1 : e1 (VV.vis1 env) s = some (.lst xs, s1)) (hf : flats xs = true) (h2 : e2 (VV.vis1 env) s1 = some (y, s2)) : VV.sPar i j true false e1 false false e2 env s = some (.nx ((env.set i (some (.own xs))).set j (some (.val y))), s2) := by
  unfold VV.sPar VV.sl
  show bd (bd (e1 (VV.vis1 env) s) _) _ = _
  rw [h1, bd_some]
  unfold VV.mkSl
  dsimp only
  rw [if_pos hf]
  show bd (bd (e2 (VV.vis1 env) s1) _) _ = _
  rw [h2]; rfl
theorem w_parV {i j : Nat} {e1 e2 : VEnv → VM P} {xs : List P} {x : P} {s2 : SS} (h1 : e1 (VV.vis1 env) s = some (x, s1)) (h2 : e2 (VV.vis1 env) s1 = some (.lst xs, s2)) (hf : flats xs = true) : VV.sPar i j false false e1 true false e2 env s = some (.nx ((env.set i (some (.val x))).set j (some (.own xs))), s2) := by
  unfold VV.sPar VV.sl
  show bd (bd (e1 (VV.vis1 env) s) _) _ = _
  rw [h1]
  show bd (bd (e2 (VV.vis1 env) s1) _) _ = _
  rw [h2, bd_some]
  unfold VV.mkSl
  dsimp only
  rw [if_pos hf]; rfl
end
/-- a statement returns something that is R -/
def Rt (a : VSM) (env : VS) (s : SS) (R : P → SS → Prop) : Prop := ∃ x s', a env s = some (.ret x, s') ∧ R x s'
section
variable {s s1 : SS} {env env1 : VS} {a b : VSM} {R : P → SS → Prop} {t : VEnv → VM Bool} {e : VEnv → VM P} {x : P}
theorem Rt.seq (h : a env s = some (.nx env1, s1)) (k : Rt b env1 s1 R) : Rt (VV.sSeq a b) env s R := by
  obtain ⟨x, s', e, r⟩ := k
  exact ⟨x, s', (w_seq h).trans e, r⟩
theorem Rt.seqr (k : Rt a env s R) : Rt (VV.sSeq a b) env s R := by
  obtain ⟨x, s', e, r⟩ := k
  exact ⟨x, s', w_seqr e, r⟩
theorem Rt.ift (h : t (VV.vis2 env) s = some (true, s1)) (k : Rt a env s1 R) : Rt (VV.sIf t a b) env s R := by
  obtain ⟨x, s', e, r⟩ := k
  exact ⟨x, s', (w_ift h).trans e, r⟩
theorem Rt.iff (h : t (VV.vis2 env) s = some (false, s1)) (k : Rt b env s1 R) : Rt (VV.sIf t a b) env s R := by
  obtain ⟨x, s', e, r⟩ := k
  exact ⟨x, s', (w_iff h).trans e, r⟩
theorem Rt.ret (h : e (VV.vis2 env) s = some (x, s1)) (k : R x s1) : Rt (VV.sRet e) env s R := ⟨x, s1, w_ret h, k⟩
theorem Rt.fn {n : Nat} {vs : List P} (k : Rt a (VV.start n vs) s R) : ∃ x s', VV.fnM n a vs s = some (x, s') ∧ R x s' := by
  obtain ⟨x, s', e, r⟩ := k
  exact ⟨x, s', w_fn e, r⟩
/-- an if without else that is passed by -/
theorem pass_if (h : t (VV.vis2 env) s = some (false, s1)) : VV.sIf t a VV.sNil env s = some (.nx env, s1) := (w_iff h).trans rfl
end
/-- a text of signs of ls, of at most L -/
def WordIn (ls : List Nat) (L : Nat) (x : P) : Prop := ∃ w : List Nat, x = .str w ∧ w.length ≤ L ∧ ∀ c ∈ w, c ∈ ls
/-- picked texts, joined -/
theorem v_picks {n L K : Nat} {ls : List Nat} {s : SS} {env : VEnv} {e : VEnv → VM P} {i : Nat} {xs : List P} {src : VEnv → VM (List P)} (g : Good (n + L) s) (hsrc : src env s = some ((List.range L).map (fun i => P.int ((i : Nat) : Int)), s))
    (h0 : ∀ a s, VV.eVar 0 ((VV.wipeE env [9]).set 9 (some (.int ((a : Nat) : Int)))) s = some (.strm, s)) (he : ∀ a s, e ((VV.wipeE env [9]).set 9 (some (.int ((a : Nat) : Int)))) s = some (.lst xs, s)) (hx : ∀ x ∈ xs, ∃ c : List Nat, c.length ≤ K ∧ (∀ d ∈ c, d ∈ ls) ∧ x = .str c) (x1 : 0 < xs.length) (x2 : xs.length < 1000) (hL : L ≤ 100000) (hK : K ≤ 100) :
    ∃ (cs : List (List Nat)) (s' : SS), VV.eMeth "str" VV.mJoin (VV.eC (.str [])) (VV.aCons (VV.eLc src (VV.tName 9) [9] VV.tYes (VV.eCall 2 VV.v__law_pick (VV.aCons (VV.eVar 0) (VV.aCons e VV.aNil)))) VV.aNil) env s = some (.str cs.flatten, s') ∧ cs.length = L ∧ (∀ c ∈ cs, c.length ≤ K) ∧ (∀ c ∈ cs, ∀ d ∈ c, d ∈ ls) ∧ (∀ c ∈ cs, P.str c ∈ xs) ∧ Good n s' := by
  have hl2 : lim = 16777216 := rfl
  obtain ⟨ys, s1, e1, l1, y1, g1⟩ := v_lcd (env := env) (s1 := s) (src := src) (i := 9) (vs := [9]) (e := VV.eCall 2 VV.v__law_pick (VV.aCons (VV.eVar 0) (VV.aCons e VV.aNil))) (fun i : Nat => P.int ((i : Nat) : Int)) Good (fun y => y ∈ xs) n (l := List.range L) hsrc (by simp; omega) (by simpa using g) fun a _ n s g => by
    obtain ⟨x, s', e1, hm, g1⟩ := pick_ok g x1 (by omega)
    exact ⟨x, s', v_call (v_two (h0 a s) (he a s)) rfl e1, hm, g1⟩
  have hw : ∀ ys : List P, (∀ y ∈ ys, y ∈ xs) → ∃ cs : List (List Nat), ys = cs.map P.str ∧ (∀ c ∈ cs, c.length ≤ K) ∧ (∀ c ∈ cs, ∀ d ∈ c, d ∈ ls) ∧ ∀ c ∈ cs, P.str c ∈ xs := by
    intro ys
    induction ys with
    | nil => exact fun _ => ⟨[], rfl, fun _ z => (nomatch z), fun _ z => (nomatch z), fun _ z => nomatch z⟩
    | cons y ys ih =>
      intro h
      obtain ⟨cs, rfl, a1, a2, a3⟩ := ih fun z hz => h z (List.mem_cons_of_mem _ hz)
      have hy := h y List.mem_cons_self
      obtain ⟨c, c1, c2, rfl⟩ := hx y hy
      refine ⟨c :: cs, rfl, fun d hd => ?_, fun d hd => ?_, fun d hd => ?_⟩ <;> rcases List.mem_cons.mp hd with rfl | hd
      · exact c1
      · exact a1 d hd
      · exact c2
      · exact a2 d hd
      · exact hy
      · exact a3 d hd
  obtain ⟨cs, rfl, c1, c2, c3⟩ := hw ys y1
  refine ⟨cs, s1, ?_, by simpa using l1, c1, c2, c3, g1⟩
  have hsum : (cs.map (·.length)).sum ≤ cs.length * K := sum_le _ _ _ c1
  have hcl : cs.length = L := by simpa using l1
  have hLK : L * K ≤ 100000 * 100 := Nat.mul_le_mul hL hK
  rw [hcl] at hsum
  rw [v_join (z := []) rfl (v_one e1) (strs_id cs) (by simp; omega), join_nil]
theorem flatten_len {cs : List (List Nat)} {K : Nat} (h : ∀ c ∈ cs, c.length ≤ K) : cs.flatten.length ≤ cs.length * K := by
  rw [List.length_flatten]
  exact sum_le _ _ _ h
theorem word_ok {n L : Nat} {ls : List Nat} {s : SS} (g : Good (n + 2 * L + 4) s) (h1 : 1 ≤ ls.length) (h2 : ls.length < 1000) (hL : L ≤ 1000) : ∃ (w : List Nat) (s' : SS), VV.v__law_word [.strm, .int L, .lst (ls.map fun c => .str [c])] s = some (.str w, s') ∧ w.length ≤ L ∧ (∀ c ∈ w, c ∈ ls) ∧ Good n s' := by
  have hl2 : lim = 16777216 := rfl
  obtain ⟨num, s1, e1, b1, g1⟩ := v_draw (n := n + 2 * L + 3) (s := s) (e := VV.eBin VV.opAdd (VV.eVar 1) (VV.eC (.int 1))) (env := VV.vis1 (VV.start 10 [.strm, .int L, .lst (ls.map fun c => .str [c])])) rfl (v_bin (v_var (x := .int L) rfl) rfl add_int) (by simpa using g) (by omega) (by omega)
  obtain ⟨way, s2, e2, b2, g2⟩ := v_draw (n := n + 2 * L + 2) (s := s1) (e := VV.eC (.int 6)) (env := VV.vis1 (VV.start 10 [.strm, .int L, .lst (ls.map fun c => .str [c])])) rfl rfl g1 (by decide) (by decide)
  have hnum : num ≤ L := by omega
  have g2' : Good ((n + L + 2 + (L - num)) + num) s2 := g2.mono (by omega)
  obtain ⟨cs, s3, e3, c1, c2, c3, c4, g3⟩ := v_picks (n := n + L + 2 + (L - num)) (L := num) (K := 1) (ls := ls) (s := s2) (xs := ls.map fun c => .str [c]) (e := VV.eVar 2) (i := 9) (src := VV.srcRange1 (VV.aCons (VV.eVar 3) VV.aNil))
    (env := VV.vis1 [some (.val .strm), some (.val (.int L)), some (.val (.lst (ls.map fun c => .str [c]))), some (.val (.int num)), some (.val (.int way)), none, none, none, none, none]) g2' (v_range1 (v_one (v_var (x := .int num) rfl)) (by omega)) (fun _ _ => rfl) (fun _ _ => rfl)
    (fun x hx => by obtain ⟨c, hc, rfl⟩ := List.mem_map.mp hx; exact ⟨[c], by simp, fun d hd => by rw [List.mem_singleton.mp hd]; exact hc, rfl⟩) (by rw [List.length_map]; omega) (by rw [List.length_map]; omega) (by omega) (by omega)
  -- the signs drawn
  obtain ⟨dr, hdr⟩ : ∃ dr, dr = cs.flatten := ⟨_, rfl⟩
  have hdl : dr.length ≤ L := by have := flatten_len c2; rw [hdr]; omega
  have hdm : ∀ c ∈ dr, c ∈ ls := fun c hc => by
    rw [hdr] at hc
    obtain ⟨d, d1, d2⟩ := List.mem_flatten.mp hc
    exact c3 d d1 c d2
  rw [← hdr] at e3
  have g3 : Good (n + L + 2) s3 := g3.mono (by omega)
  have A1 := w_par (i := 3) (j := 4) (env := VV.start 10 [.strm, .int L, .lst (ls.map fun c => .str [c])]) e1 e2
  have A2 := w_set (i := 5) (env := [some (.val .strm), some (.val (.int L)), some (.val (.lst (ls.map fun c => .str [c]))), some (.val (.int num)), some (.val (.int way)), none, none, none, none, none]) e3
  suffices h : ∃ (x : P) (s' : SS), VV.v__law_word [.strm, .int L, .lst (ls.map fun c => .str [c])] s = some (x, s') ∧ ∃ w : List Nat, x = .str w ∧ w.length ≤ L ∧ (∀ c ∈ w, c ∈ ls) ∧ Good n s' by
    obtain ⟨x, s', e, w, rfl, q⟩ := h
    exact ⟨w, s', e, q⟩
  refine Rt.fn (Rt.seq A1 (Rt.seq A2 ?_))
  have lenD : ∀ {env : VEnv} {s : SS}, env[5]? = some (some (.str dr)) → VV.eArgs VV.fLen (VV.aCons (VV.eVar 5) VV.aNil) env s = some (.int dr.length, s) := fun h => v_args (v_one (v_var h)) (len_str (by omega))
  have T0 := v_tor (s1 := s3) (v_tval (v_bin (x := .int way) (env := VV.vis2 [some (.val .strm), some (.val (.int L)), some (.val (.lst (ls.map fun c => .str [c]))), some (.val (.int num)), some (.val (.int way)), some (.val (.str dr)), none, none, none, none]) (s := s3) (v_var (i := 4) rfl) (s_eC (d := .int 0)) eq_int)) (fun _ => v_tval (v_bin (x := .str dr) (v_var (i := 5) rfl) (s_eC (d := .str [])) eq_str))
  by_cases hret : way = 0 ∨ dr = []
  · refine Rt.seqr (Rt.ift (T0.trans ?_) (Rt.ret (v_var (x := .str dr) rfl) ⟨dr, rfl, hdl, hdm, g3.mono (by omega)⟩))
    rcases hret with h | h
    · rw [h]; rfl
    · rw [h]; simp
  have hw0 : way ≠ 0 := fun z => hret (.inl z)
  have hd0 : dr ≠ [] := fun z => hret (.inr z)
  have hdp : 0 < dr.length := List.length_pos_iff.mpr hd0
  refine Rt.seq (pass_if (T0.trans (show some ((decide ((way : Int) = 0) || decide (dr = [])), s3) = some (false, s3) by rw [decide_eq_false (by omega), decide_eq_false hd0]; rfl))) ?_
  have test : ∀ k : Int, VV.tVal (VV.eBin VV.opEq (VV.eVar 4) (VV.eC (.int k))) (VV.vis2 [some (.val .strm), some (.val (.int L)), some (.val (.lst (ls.map fun c => .str [c]))), some (.val (.int num)), some (.val (.int way)), some (.val (.str dr)), none, none, none, none]) s3 = some (decide ((way : Int) = k), s3) :=
    fun k => v_tval (v_bin (x := .int way) (v_var rfl) (s_eC (d := .int k)) eq_int)
  have yes : ∀ {k : Int}, (way : Int) = k → some (decide ((way : Int) = k), s3) = some (true, s3) := fun h => by rw [decide_eq_true h]
  have no : ∀ {k : Int}, (way : Int) ≠ k → some (decide ((way : Int) = k), s3) = some (false, s3) := fun h => by rw [decide_eq_false h]
  -- a beginning of it
  have base : ∀ (k : Nat), 0 < k → k < 10 → ∃ (m : Nat) (s4 : SS), VV.eSl (VV.eVar 5) VV.pNone (VV.pSome (VV.eBin VV.opAdd (VV.eC (.int 1)) (VV.eCall 2 VV.v__law_draw (VV.aCons (VV.eVar 0) (VV.aCons (VV.eArgs VV.fMax (VV.aCons (VV.eBin VV.opDiv (VV.eArgs VV.fLen (VV.aCons (VV.eVar 5) VV.aNil)) (VV.eC (.int (k : Int)))) (VV.aCons (VV.eC (.int 1)) VV.aNil))) VV.aNil)))))
      (VV.vis1 [some (.val .strm), some (.val (.int L)), some (.val (.lst (ls.map fun c => .str [c]))), some (.val (.int num)), some (.val (.int way)), some (.val (.str dr)), none, none, none, none]) s3 = some (.str (dr.take (1 + m)), s4) ∧ Good (n + L + 1) s4 := by
    intro k k0 k1
    have hdk : dr.length / k ≤ dr.length := Nat.div_le_self _ _
    obtain ⟨m, s4, e4, b4, g4⟩ := v_draw1 (n := n + L + 1) (s := s3) (env := VV.vis1 [some (.val .strm), some (.val (.int L)), some (.val (.lst (ls.map fun c => .str [c]))), some (.val (.int num)), some (.val (.int way)), some (.val (.str dr)), none, none, none, none]) (e := VV.eArgs VV.fMax (VV.aCons (VV.eBin VV.opDiv (VV.eArgs VV.fLen (VV.aCons (VV.eVar 5) VV.aNil)) (VV.eC (.int (k : Int)))) (VV.aCons (VV.eC (.int 1)) VV.aNil)))
      rfl (v_args (v_two (v_bin (lenD rfl) rfl (div_nat k0 (by omega))) rfl) max_int) g3 (by split <;> omega) (by split <;> omega)
    refine ⟨m, s4, ?_, g4⟩
    refine v_sl (i := none) (j := some ((1 + m : Nat) : Int)) (v_var (x := .str dr) rfl) rfl (v_some e4) ?_
    rw [sl_str (by omega), cut_to]
  have tkL : ∀ m, (dr.take (1 + m)).length ≤ dr.length := fun m => by rw [List.length_take]; omega
  have tkM : ∀ m, ∀ c ∈ dr.take (1 + m), c ∈ ls := fun m c hc => hdm c (List.mem_of_mem_take hc)
  have tkP : ∀ m, 0 < (dr.take (1 + m)).length := fun m => by rw [List.length_take]; omega
  have hLL : ∀ k, k ≤ L → k * L ≤ lim := fun k hk => by
    have : k * L ≤ 1000 * 1000 := Nat.mul_le_mul (by omega) hL
    omega
  by_cases hw1 : way = 1
  · obtain ⟨m, s4, e4, g4⟩ := base 2 (by decide) (by decide)
    have hk := tkL m
    have hb := hLL (dr.take (1 + m)).length (by omega)
    refine Rt.seqr (Rt.ift ((test 1).trans (yes (by omega))) (Rt.seq (w_set e4) (Rt.ret (x := .str ((rep L (dr.take (1 + m))).take num)) (v_sl (i := none) (j := some (num : Int)) (v_bin (v_var (x := .str (dr.take (1 + m))) rfl) (v_var (x := .int L) rfl) (mul_str (by omega) hb)) rfl (v_some (v_var rfl)) ?_) ⟨_, rfl, ?_, ?_, ?_⟩)))
    · rw [sl_str (by rw [rep_len, Nat.mul_comm]; exact hb), cut_to]
    · rw [List.length_take]; omega
    · exact fun c hc => tkM m c (rep_mem (List.mem_of_mem_take hc))
    · exact g4.mono (by omega)
  refine Rt.seq (pass_if ((test 1).trans (no (by omega)))) ?_
  by_cases hw2 : way = 2
  · obtain ⟨m, s4, e4, g4⟩ := base 3 (by decide) (by decide)
    have hk := tkL m
    have hp := tkP m
    obtain ⟨bs, hbs⟩ : ∃ bs, bs = dr.take (1 + m) := ⟨_, rfl⟩
    have hM := tkM m
    rw [← hbs] at e4 hk hp hM
    obtain ⟨v, s5, e5, b5, g5⟩ := v_draw (n := n + L) (s := s4) (e := VV.eC (.int 2)) (env := VV.vis2 [some (.val .strm), some (.val (.int L)), some (.val (.lst (ls.map fun c => .str [c]))), some (.val (.int num)), some (.val (.int way)), some (.val (.str dr)), some (.val (.str bs)), none, none, none]) rfl rfl g4 (by decide) (by decide)
    have lenB : VV.eArgs VV.fLen (VV.aCons (VV.eVar 6) VV.aNil) (VV.vis2 [some (.val .strm), some (.val (.int L)), some (.val (.lst (ls.map fun c => .str [c]))), some (.val (.int num)), some (.val (.int way)), some (.val (.str dr)), some (.val (.str bs)), none, none, none]) s5 = some (.int bs.length, s5) := v_args (v_one (v_var (x := .str bs) rfl)) (len_str (by omega))
    have times : ∀ k : Nat, k ≤ L → bs.length * (k / bs.length) ≤ L := fun k hk => Nat.le_trans (Nat.mul_div_le k bs.length) hk
    have dvl : ∀ k : Nat, k / bs.length ≤ k := fun k => Nat.div_le_self _ _
    refine Rt.seqr (Rt.ift ((test 2).trans (yes (by omega))) (Rt.seq (w_set e4) (Rt.ret (x := .str (rep ((if v = 0 then L else num) / bs.length) bs)) (s1 := s5) (v_if (s1 := s5) (c := decide ((v : Int) = 0)) (v_tval (v_bin e5 rfl eq_int)) (fun h => ?_) (fun h => ?_)) ⟨_, rfl, ?_, ?_, ?_⟩)))
    · have h := of_decide_eq_true h
      rw [if_pos (by omega)]
      exact v_bin (v_var (x := .str bs) rfl) (v_bin (v_var (x := .int L) rfl) lenB (div_nat hp (by omega))) (mul_str (by have := dvl L; omega) (by have := times L (Nat.le_refl _); omega))
    · have h := of_decide_eq_false h
      rw [if_neg (by omega)]
      exact v_bin (v_var (x := .str bs) rfl) (v_bin (v_var (x := .int num) rfl) lenB (div_nat hp (by omega))) (mul_str (by have := dvl num; omega) (by have := times num hnum; omega))
    · rw [rep_len, Nat.mul_comm]
      split
      · exact times L (Nat.le_refl _)
      · exact times num hnum
    · exact fun c hc => hM c (rep_mem hc)
    · exact g5.mono (by omega)
  refine Rt.seq (pass_if ((test 2).trans (no (by omega)))) ?_
  by_cases hw3 : way = 3
  · obtain ⟨m, s4, e4, b4, g4⟩ := v_draw1 (n := n + L + 1) (s := s3) (e := VV.eC (.int 3)) (env := VV.vis1 [some (.val .strm), some (.val (.int L)), some (.val (.lst (ls.map fun c => .str [c]))), some (.val (.int num)), some (.val (.int way)), some (.val (.str dr)), none, none, none, none]) rfl rfl g3 (by decide) (by decide)
    obtain ⟨v, s5, e5, b5, g5⟩ := v_draw (n := n + L) (s := s4) (e := VV.eC (.int 3)) (env := VV.vis1 [some (.val .strm), some (.val (.int L)), some (.val (.lst (ls.map fun c => .str [c]))), some (.val (.int num)), some (.val (.int way)), some (.val (.str dr)), none, none, none, none]) rfl rfl g4 (by decide) (by decide)
    have f1 := v_sl (l := VV.pNone) (i := none) (j := some ((1 + m : Nat) : Int)) (y := .str (dr.take (1 + m))) (v_var (x := .str dr) (i := 5) (env := VV.vis1 [some (.val .strm), some (.val (.int L)), some (.val (.lst (ls.map fun c => .str [c]))), some (.val (.int num)), some (.val (.int way)), some (.val (.str dr)), none, none, none, none]) rfl) rfl (v_some e4) (by rw [sl_str (by omega), cut_to])
    have f2 := v_sl (h := VV.pNone) (i := some (-1 - (v : Int))) (j := none) (y := .str (cutL dr (some (-1 - (v : Int))) none)) (v_var (x := .str dr) (i := 5) (env := VV.vis1 [some (.val .strm), some (.val (.int L)), some (.val (.lst (ls.map fun c => .str [c]))), some (.val (.int num)), some (.val (.int way)), some (.val (.str dr)), none, none, none, none]) rfl) (v_some (v_bin (x := .int (-1)) (a := VV.eUn VV.opNeg (VV.eC (.int 1))) rfl e5 sub_int)) rfl (sl_str (by omega))
    have ot : (cutL dr (some (-1 - (v : Int))) none).length ≤ 3 := by
      unfold cutL
      rw [HT.sIx_none, List.length_take, List.length_drop]
      have : HT.sIx dr.length 0 (some (-1 - (v : Int))) = (-1 - (v : Int) + dr.length).toNat := by
        show (if -1 - (v : Int) < 0 then _ else _) = _
        rw [if_pos (by omega)]
      rw [this]
      omega
    obtain ⟨ws, s6, e6, d1, d2, d3, _, g6⟩ := v_picks (n := n) (L := L) (K := 3) (ls := ls) (s := s5) (xs := [.str (dr.take (1 + m)), .str (cutL dr (some (-1 - (v : Int))) none), .str (dr.take (1 + m))]) (e := VV.eArgs VV.mkLst (VV.aCons (VV.eVar 7) (VV.aCons (VV.eVar 8) (VV.aCons (VV.eVar 7) VV.aNil)))) (i := 9) (src := VV.srcRange1 (VV.aCons (VV.eVar 1) VV.aNil))
      (env := VV.vis2 [some (.val .strm), some (.val (.int L)), some (.val (.lst (ls.map fun c => .str [c]))), some (.val (.int num)), some (.val (.int way)), some (.val (.str dr)), none, some (.val (.str (dr.take (1 + m)))), some (.val (.str (cutL dr (some (-1 - (v : Int))) none))), none]) g5 (v_range1 (v_one (v_var (x := .int L) rfl)) (by omega)) (fun _ _ => rfl) (fun _ _ => rfl)
      (fun x hx => by
        simp at hx
        rcases hx with rfl | rfl | rfl
        · exact ⟨_, by rw [List.length_take]; omega, fun d hd => hdm d (List.mem_of_mem_take hd), rfl⟩
        · exact ⟨_, ot, fun d hd => hdm d (cut_mem hd), rfl⟩
        · exact ⟨_, by rw [List.length_take]; omega, fun d hd => hdm d (List.mem_of_mem_take hd), rfl⟩) (by simp) (by simp) (by omega) (by decide)
    have hfl := flatten_len d2
    refine Rt.seqr (Rt.ift ((test 3).trans (yes (by omega))) (Rt.seq (w_par f1 f2) (Rt.ret (x := .str (ws.flatten.take num)) (s1 := s6) (v_sl (i := none) (j := some (num : Int)) e6 rfl (v_some (v_var rfl)) ?_) ⟨_, rfl, ?_, ?_, g6⟩)))
    · rw [sl_str (by omega), cut_to]
    · rw [List.length_take]; omega
    · intro c hc
      obtain ⟨d, q1, q2⟩ := List.mem_flatten.mp (List.mem_of_mem_take hc)
      exact d3 d q1 c q2
  refine Rt.seq (pass_if ((test 3).trans (no (by omega)))) ?_
  by_cases hw4 : way = 4
  · refine Rt.seqr (Rt.ift ((test 4).trans (yes (by omega))) (Rt.ret (x := .str ((dr ++ dr.reverse).take L)) (v_sl (i := none) (j := some (L : Int)) (v_bin (v_var (x := .str dr) rfl) (v_un (x := .str dr) (y := .str dr.reverse) (v_var rfl) ?_) (add_str ?_)) rfl (v_some (v_var rfl)) ?_) ⟨_, rfl, ?_, ?_, ?_⟩))
    · show (if dr.length ≤ lim then some (P.str dr.reverse) else none) = _
      rw [if_pos (by omega)]
    · rw [List.length_reverse]; omega
    · rw [sl_str (by simp; omega), cut_to]
    · rw [List.length_take]; omega
    · intro c hc
      rcases List.mem_append.mp (List.mem_of_mem_take hc) with h | h
      · exact hdm c h
      · exact hdm c (List.mem_reverse.mp h)
    · exact g3.mono (by omega)
  refine Rt.seq (pass_if ((test 4).trans (no (by omega)))) ?_
  have hh : dr.length / 2 ≤ dr.length := Nat.div_le_self _ _
  refine Rt.ret (x := .str ((dr.take (dr.length / 2) ++ dr.take (dr.length - dr.length / 2)).take L)) (v_sl (i := none) (j := some (L : Int)) (v_bin (v_sl (i := none) (j := some ((dr.length / 2 : Nat) : Int)) (y := .str (dr.take (dr.length / 2))) (v_var (x := .str dr) rfl) rfl (v_some (v_bin (lenD rfl) rfl (div_nat (k := 2) (by decide) (by decide)))) ?_) (v_sl (i := none) (j := some ((dr.length - dr.length / 2 : Nat) : Int)) (y := .str (dr.take (dr.length - dr.length / 2))) (v_var (x := .str dr) rfl) rfl (v_some (v_bin (lenD rfl) (v_bin (lenD rfl) rfl (div_nat (k := 2) (by decide) (by decide))) ?_)) ?_) (add_str ?_)) rfl (v_some (v_var rfl)) ?_) ⟨_, rfl, ?_, ?_, ?_⟩
  · rw [sl_str (by omega), cut_to]
  · rw [sub_int, Int.ofNat_sub hh]
  · rw [sl_str (by omega), cut_to]
  · rw [List.length_take, List.length_take]; omega
  · rw [sl_str (by rw [List.length_append, List.length_take, List.length_take]; omega), cut_to]
  · rw [List.length_take]; omega
  · intro c hc
    rcases List.mem_append.mp (List.mem_of_mem_take hc) with h | h <;> exact hdm c (List.mem_of_mem_take h)
  · exact g3.mono (by omega)
end MM

/-! What is the same is told so. -/
namespace MM
open PySem PySem.Spec PyProof.Rows L2

mutual
/-- data without dicts, no longer than may be -/
def fineP : P → Bool
  | .non => true
  | .bl _ => true
  | .int _ => true
  | .str _ => true
  | .tup vs => decide (vs.length ≤ lim) && finesP vs
  | .lst vs => decide (vs.length ≤ lim) && finesP vs
  | .strm => false
  | .ty _ => false
def finesP : List P → Bool
  | [] => true
  | v :: vs => fineP v && finesP vs
end
theorem fines_mem : ∀ {vs : List P} {v : P}, finesP vs = true → v ∈ vs → fineP v = true
  | a :: vs, v, h, m => by
    have h' : (fineP a && finesP vs) = true := h
    rw [Bool.and_eq_true] at h'
    rcases List.mem_cons.mp m with rfl | m
    · exact h'.1
    · exact fines_mem h'.2 m
theorem fines_of : ∀ {vs : List P}, (∀ v ∈ vs, fineP v = true) → finesP vs = true
  | [], _ => rfl
  | a :: vs, h => by
    show (fineP a && finesP vs) = true
    rw [h a List.mem_cons_self, fines_of fun v hv => h v (List.mem_cons_of_mem _ hv)]; rfl
theorem deps_mem : ∀ {vs : List P} {v : P}, v ∈ vs → depP v ≤ depsP vs
  | a :: vs, v, m => by
    show _ ≤ max (depP a) (depsP vs)
    rcases List.mem_cons.mp m with rfl | m
    · omega
    · have := deps_mem m; omega
theorem deps_le {k : Nat} : ∀ {vs : List P}, (∀ v ∈ vs, depP v ≤ k) → depsP vs ≤ k
  | [], _ => Nat.zero_le _
  | a :: vs, h => by
    have h1 := h a List.mem_cons_self
    have h2 := deps_le (vs := vs) fun v hv => h v (List.mem_cons_of_mem _ hv)
    show max (depP a) (depsP vs) ≤ k
    omega
theorem pairs_self : ∀ vs : List P, VV.pairsOf vs vs = vs.map fun v => P.tup [v, v]
  | [] => rfl
  | v :: vs => by
    show P.tup [v, v] :: VV.pairsOf vs vs = _
    rw [pairs_self vs]; rfl
theorem all_true : ∀ {α : Type} (l : List α), (l.map fun _ => true).all id = true
  | _, [] => rfl
  | _, a :: l => all_true l
/-- the items, one by one -/
theorem same_items {n : Nat} {s : SS} {vs : List P} {env : VEnv} (x : P) (hx : VV.seqOf x = some vs) (hi : VV.itemsOf x = some vs) (ns : ∀ w, x ≠ .str w) (h0 : env[0]? = some (some x)) (h1 : env[1]? = some (some x)) (h4 : env.length = 4) (hl : vs.length ≤ lim) (ih : ∀ v ∈ vs, VV.v__law_same n [v, v] s = some (.bl true, s)) :
    VV.eAnd (VV.eBin VV.opEq (VV.eArgs VV.fLen (VV.aCons (VV.eVar 0) VV.aNil)) (VV.eArgs VV.fLen (VV.aCons (VV.eVar 1) VV.aNil))) (VV.eArgs VV.fAll (VV.aCons (VV.eLc (VV.srcZip (VV.aCons (VV.eVar 0) (VV.aCons (VV.eVar 1) VV.aNil))) (VV.tTup 2 (VV.tsCons (VV.tName 2) (VV.tsCons (VV.tName 3) VV.tsNil))) [2, 3] VV.tYes (VV.eCall 2 (VV.v__law_same n) (VV.aCons (VV.eVar 2) (VV.aCons (VV.eVar 3) VV.aNil)))) VV.aNil)) env s = some (.bl true, s) := by
  have len : VV.fLen [x] = some (.int vs.length) := by
    cases x <;> first | (cases hx; done) | skip
    · cases hx; rfl
    · cases hx; rfl
  have a1 := v_bin (f := VV.opEq) (v_args (f := VV.fLen) (v_one (v_var h0)) len) (v_args (f := VV.fLen) (v_one (v_var (s := s) h1)) len) eq_int
  have e4 : ∃ a b c d, env = [a, b, c, d] := by
    match env, h4 with
    | [a, b, c, d], _ => exact ⟨a, b, c, d, rfl⟩
  obtain ⟨a, b, c, d, rfl⟩ := e4
  have a2 := v_lc (vs := [2, 3]) (s1 := s) (src := VV.srcZip (VV.aCons (VV.eVar 0) (VV.aCons (VV.eVar 1) VV.aNil))) (tg := VV.tTup 2 (VV.tsCons (VV.tName 2) (VV.tsCons (VV.tName 3) VV.tsNil))) (t := VV.tYes) (e := VV.eCall 2 (VV.v__law_same n) (VV.aCons (VV.eVar 2) (VV.aCons (VV.eVar 3) VV.aNil))) (l := vs) (fun v => P.tup [v, v]) (fun _ => true) (fun _ => P.bl true)
    (by rw [← pairs_self]; exact v_zip (v_two (v_var h0) (v_var h1)) hi hi) hl (fun v hv => ⟨[(2, v), (3, v)], rfl, rfl, fun _ => v_call (v_two (v_var rfl) (v_var rfl)) rfl (ih v hv)⟩)
  rw [List.filter_eq_self.mpr (by simp)] at a2
  have a3 := v_args (f := VV.fAll) (y := .bl true) (v_one a2) (by
    show ((VV.blsOf (vs.map fun _ => P.bl true)).map fun is => P.bl (is.all id)) = _
    rw [bls_map (fun _ => true) vs]
    show some (P.bl _) = _
    rw [all_true])
  have := v_and a1 (fun _ => a3)
  rw [this]
  simp
theorem same_ok : ∀ (n : Nat) (x : P) (s : SS), fineP x = true → depP x < n → VV.v__law_same n [x, x] s = some (.bl true, s)
  | 0, x, s, _, h => absurd h (Nat.not_lt_zero _)
  | n + 1, .non, s, _, _ => rfl
  | n + 1, .bl b, s, _, _ => by cases b <;> rfl
  | n + 1, .int i, s, _, _ => by
    have h : VV.v__law_same (n + 1) [.int i, .int i] s = some (.bl (decide (i = i)), s) := rfl
    rw [h]; simp
  | n + 1, .str i, s, _, _ => by
    have h : VV.v__law_same (n + 1) [.str i, .str i] s = some (.bl (decide (i = i)), s) := rfl
    rw [h]; simp
  | n + 1, .tup vs, s, h, d => by
    have h' : (decide (vs.length ≤ lim) && finesP vs) = true := h
    rw [Bool.and_eq_true, decide_eq_true_eq] at h'
    have d' : depsP vs + 1 < n + 1 := d
    refine w_fn (w_seqr ((w_ift rfl).trans ((w_seq (pass_if rfl)).trans (w_ret ?_))))
    exact same_items (.tup vs) rfl rfl (fun _ z => nomatch z) rfl rfl rfl h'.1 fun v hv => same_ok n v s (fines_mem h'.2 hv) (by have := deps_mem hv; omega)
  | n + 1, .lst vs, s, h, d => by
    have h' : (decide (vs.length ≤ lim) && finesP vs) = true := h
    rw [Bool.and_eq_true, decide_eq_true_eq] at h'
    have d' : depsP vs + 1 < n + 1 := d
    refine w_fn (w_seqr ((w_ift rfl).trans ((w_seq (pass_if rfl)).trans (w_ret ?_))))
    exact same_items (.lst vs) rfl rfl (fun _ z => nomatch z) rfl rfl rfl h'.1 fun v hv => same_ok n v s (fines_mem h'.2 hv) (by have := deps_mem hv; omega)
end MM

namespace MM
open PySem PySem.Spec PyProof.Rows L2
def m_is_word_of : List D → M D := fnM 2 (sRet (eAnd (eArgs fIsi (aCons (eVar 0) (aCons (eC (.ty "str")) (aNil)))) (eArgs fAll (aCons (eLc (srcSeq (eVar 0)) (tName 1) [1] (tYes) (eBin opIn (eVar 1) (eC (.str [97, 98, 99, 100, 101, 102, 103, 104, 105, 106, 107, 108, 109, 110, 111, 112, 113, 114, 115, 116, 117, 118, 119, 120, 121, 122])))) (aNil)))))
namespace VV
def v_is_word_of : List P → VM P := fnM 2 (sRet (eAnd (eArgs fIsi (aCons (eVar 0) (aCons (eC (.ty "str")) (aNil)))) (eArgs fAll (aCons (eLc (srcSeq (eVar 0)) (tName 1) [1] (tYes) (eBin opIn (eVar 1) (eC (.str [97, 98, 99, 100, 101, 102, 103, 104, 105, 106, 107, 108, 109, 110, 111, 112, 113, 114, 115, 116, 117, 118, 119, 120, 121, 122])))) (aNil)))))
end VV
theorem vf_is_word_of : OkF m_is_word_of VV.v_is_word_of true := q_fn (q_ret (q_and (q_args c_isi' (q_acons (q_var) (q_acons (q_ty) (q_anil)))) (q_args c_all' (q_acons (q_lc (q_iseq (q_var)) (q_tname) (q_yes) (q_bin p_in (q_var) (q_str))) (q_anil)))))
def m_check_word : List D → M D := fnM 1 (sIf (tNot (tVal (eCall 1 (m_is_word_of) (aCons (eVar 0) (aNil)))))
  (sBad)
  (sNil))
namespace VV
def v_check_word : List P → VM P := fnM 1 (sIf (tNot (tVal (eCall 1 (v_is_word_of) (aCons (eVar 0) (aNil)))))
  (sBad)
  (sNil))
end VV
theorem vf_check_word : OkF m_check_word VV.v_check_word true := q_fn (q_ifs (q_tnot (q_tval (q_call (vf_is_word_of) (q_acons (q_var) (q_anil)))))
  (q_bad)
  (q_nil))
def m_alike_from : List D → M D := fnM 4 (sSeq (sSet 3 (eC (.int 0)))
  (sSeq (sWhile (tAnd (tVal (eBin opLt (eBin opAdd (eArgs fMax (aCons (eVar 1) (aCons (eVar 2) (aNil)))) (eVar 3)) (eArgs fLen (aCons (eVar 0) (aNil))))) (tVal (eBin opEq (eBin opIx (eVar 0) (eBin opAdd (eVar 1) (eVar 3))) (eBin opIx (eVar 0) (eBin opAdd (eVar 2) (eVar 3))))))
  (sSet 3 (eBin opAdd (eVar 3) (eC (.int 1)))))
  (sRet (eVar 3))))
namespace VV
def v_alike_from : List P → VM P := fnM 4 (sSeq (sSet 3 false false (eC (.int 0)))
  (sSeq (sWhile (tAnd (tVal (eBin opLt (eBin opAdd (eArgs fMax (aCons (eVar 1) (aCons (eVar 2) (aNil)))) (eVar 3)) (eArgs fLen (aCons (eVar 0) (aNil))))) (tVal (eBin opEq (eBin opIx (eVar 0) (eBin opAdd (eVar 1) (eVar 3))) (eBin opIx (eVar 0) (eBin opAdd (eVar 2) (eVar 3))))))
  (sSet 3 false false (eBin opAdd (eVar 3) (eC (.int 1)))))
  (sRet (eVar 3))))
end VV
theorem vf_alike_from : OkF m_alike_from VV.v_alike_from false := q_fn (q_seq (q_set (q_int))
  (q_seq (q_while (q_tand (q_tval (q_bin p_lt (q_bin p_add (q_args c_max' (q_acons (q_var) (q_acons (q_var) (q_anil)))) (q_var)) (q_args c_len' (q_acons (q_var) (q_anil))))) (q_tval (q_bin p_eq (q_bin p_ix (q_var) (q_bin p_add (q_var) (q_var))) (q_bin p_ix (q_var) (q_bin p_add (q_var) (q_var))))))
  (q_set (q_bin p_add (q_var) (q_int))))
  (q_ret (q_var))))
def m_before_of : List D → M D := fnM 3 (sRet (eLc (srcRange1 (aCons (eArgs fLen (aCons (eVar 0) (aNil))) (aNil))) (tName 1) [1] (tYes) (eArgs fMax (aCons (eArgs mkLst (aCons (eC (.int 0)) (aStar (eLc (srcRange1 (aCons (eVar 1) (aNil))) (tName 2) [2] (tYes) (eCall 3 (m_alike_from) (aCons (eVar 0) (aCons (eVar 2) (aCons (eVar 1) (aNil)))))) (aNil)))) (aNil)))))
namespace VV
def v_before_of : List P → VM P := fnM 3 (sRet (eLc (srcRange1 (aCons (eArgs fLen (aCons (eVar 0) (aNil))) (aNil))) (tName 1) [1] (tYes) (eArgs fMax (aCons (eArgs mkLst (aCons (eC (.int 0)) (aStar (eLc (srcRange1 (aCons (eVar 1) (aNil))) (tName 2) [2] (tYes) (eCall 3 (v_alike_from) (aCons (eVar 0) (aCons (eVar 2) (aCons (eVar 1) (aNil)))))) (aNil)))) (aNil)))))
end VV
theorem vf_before_of : OkF m_before_of VV.v_before_of true := q_fn (q_ret (q_lc (q_irange1 (q_acons (q_args c_len' (q_acons (q_var) (q_anil))) (q_anil))) (q_tname) (q_yes) (q_args c_max' (q_acons (q_args p_mklst (q_acons (q_int) (q_astar (q_lc (q_irange1 (q_acons (q_var) (q_anil))) (q_tname) (q_yes) (q_call (vf_alike_from) (q_acons (q_var) (q_acons (q_var) (q_acons (q_var) (q_anil)))))) (q_anil)))) (q_anil)))))
def m_ends_of : List D → M D := fnM 3 (sSeq (sPar 1 2 (aCons (eArgs mkLst (aNil)) (aCons (eC (.int 0)) (aNil))))
  (sSeq (sWhile (tVal (eBin opLt (eVar 2) (eArgs fLen (aCons (eVar 0) (aNil)))))
  (sSeq (sSet 2 (eBin opAdd (eVar 2) (eArgs fMax (aCons (eC (.int 1)) (aCons (eBin opIx (eVar 0) (eVar 2)) (aNil))))))
  (sExpr (eMeth "list" mAppend (eVar 1) (aCons (eVar 2) (aNil))))))
  (sRet (eVar 1))))
namespace VV
def v_ends_of : List P → VM P := fnM 3 (sSeq (sPar 1 2 true false (eArgs mkLst (aNil)) false false (eC (.int 0)))
  (sSeq (sWhile (tVal (eBin opLt (eVar 2) (eArgs fLen (aCons (eVar 0) (aNil)))))
  (sSeq (sSet 2 false false (eBin opAdd (eVar 2) (eArgs fMax (aCons (eC (.int 1)) (aCons (eBin opIx (eVar 0) (eVar 2)) (aNil))))))
  (sApp 1 false (eVar 2))))
  (sRetO 1)))
end VV
theorem vf_ends_of : OkF m_ends_of VV.v_ends_of true := q_fn (q_seq (q_par (q_args p_mklst (q_anil)) (q_int))
  (q_seq (q_while (q_tval (q_bin p_lt (q_var) (q_args c_len' (q_acons (q_var) (q_anil)))))
  (q_seq (q_set (q_bin p_add (q_var) (q_args c_max' (q_acons (q_int) (q_acons (q_bin p_ix (q_var) (q_var)) (q_anil))))))
  (q_app (q_var))))
  (q_retO)))
def m_fewest_parts : List D → M D := fnM 1 (sSeq (sExpr (eCall 1 (m_check_word) (aCons (eVar 0) (aNil))))
  (sRet (eArgs fLen (aCons (eCall 1 (m_ends_of) (aCons (eCall 1 (m_before_of) (aCons (eVar 0) (aNil))) (aNil))) (aNil)))))
namespace VV
def v_fewest_parts : List P → VM P := fnM 1 (sSeq (sExpr (eCall 1 (v_check_word) (aCons (eVar 0) (aNil))))
  (sRet (eArgs fLen (aCons (eCall 1 (v_ends_of) (aCons (eCall 1 (v_before_of) (aCons (eVar 0) (aNil))) (aNil))) (aNil)))))
end VV
theorem vf_fewest_parts : OkF m_fewest_parts VV.v_fewest_parts true := q_fn (q_seq (q_expr (q_call (vf_check_word) (q_acons (q_var) (q_anil))))
  (q_ret (q_args c_len' (q_acons (q_call (vf_ends_of) (q_acons (q_call (vf_before_of) (q_acons (q_var) (q_anil))) (q_anil))) (q_anil)))))
def m_longest_before : List D → M D := fnM 1 (sSeq (sExpr (eCall 1 (m_check_word) (aCons (eVar 0) (aNil))))
  (sRet (eCall 1 (m_before_of) (aCons (eVar 0) (aNil)))))
namespace VV
def v_longest_before : List P → VM P := fnM 1 (sSeq (sExpr (eCall 1 (v_check_word) (aCons (eVar 0) (aNil))))
  (sRet (eCall 1 (v_before_of) (aCons (eVar 0) (aNil)))))
end VV
theorem vf_longest_before : OkF m_longest_before VV.v_longest_before true := q_fn (q_seq (q_expr (q_call (vf_check_word) (q_acons (q_var) (q_anil))))
  (q_ret (q_call (vf_before_of) (q_acons (q_var) (q_anil)))))
def m_parted_by : List D → M D := fnM 8 (sSeq (sExpr (eCall 1 (m_check_word) (aCons (eVar 0) (aNil))))
  (sSeq (sPar 1 2 (aCons (eCall 1 (m_before_of) (aCons (eVar 0) (aNil))) (aCons (eArgs mkLst (aNil)) (aNil))))
  (sSeq (sSet 3 (eCall 1 (m_ends_of) (aCons (eVar 1) (aNil))))
  (sSeq (sFor (srcZip (aCons (eArgs mkLst (aCons (eC (.int 0)) (aStar (eVar 3) (aNil)))) (aCons (eVar 3) (aNil)))) (tTup 2 (tsCons (tName 4) (tsCons (tName 5) (tsNil))))
  (sSeq (sSet 6 (eLc (srcRange1 (aCons (eVar 4) (aNil))) (tName 7) [7] (tVal (eBin opEq (eSl (eVar 0) (pSome (eVar 7)) (pSome (eBin opSub (eBin opAdd (eVar 7) (eVar 5)) (eVar 4)))) (eSl (eVar 0) (pSome (eVar 4)) (pSome (eVar 5))))) (eVar 7)))
  (sExpr (eMeth "list" mAppend (eVar 2) (aCons (eArgs mkTup (aCons (eIf (tVal (eBin opNe (eVar 6) (eArgs mkLst (aNil)))) (eBin opIx (eVar 6) (eC (.int 0))) (eC .non)) (aCons (eBin opSub (eVar 5) (eVar 4)) (aNil)))) (aNil))))))
  (sRet (eVar 2))))))
namespace VV
def v_parted_by : List P → VM P := fnM 8 (sSeq (sExpr (eCall 1 (v_check_word) (aCons (eVar 0) (aNil))))
  (sSeq (sPar 1 2 false false (eCall 1 (v_before_of) (aCons (eVar 0) (aNil))) true false (eArgs mkLst (aNil)))
  (sSeq (sSet 3 false false (eCall 1 (v_ends_of) (aCons (eVar 1) (aNil))))
  (sSeq (sFor false (srcZip (aCons (eArgs mkLst (aCons (eC (.int 0)) (aStar (eVar 3) (aNil)))) (aCons (eVar 3) (aNil)))) (tTup 2 (tsCons (tName 4) (tsCons (tName 5) (tsNil))))
  (sSeq (sSet 6 false false (eLc (srcRange1 (aCons (eVar 4) (aNil))) (tName 7) [7] (tVal (eBin opEq (eSl (eVar 0) (pSome (eVar 7)) (pSome (eBin opSub (eBin opAdd (eVar 7) (eVar 5)) (eVar 4)))) (eSl (eVar 0) (pSome (eVar 4)) (pSome (eVar 5))))) (eVar 7)))
  (sApp 2 false (eArgs mkTup (aCons (eIf (tVal (eBin opNe (eVar 6) (eArgs mkLst (aNil)))) (eBin opIx (eVar 6) (eC (.int 0))) (eC .non)) (aCons (eBin opSub (eVar 5) (eVar 4)) (aNil)))))))
  (sRetO 2)))))
end VV
theorem vf_parted_by : OkF m_parted_by VV.v_parted_by true := q_fn (q_seq (q_expr (q_call (vf_check_word) (q_acons (q_var) (q_anil))))
  (q_seq (q_par (q_call (vf_before_of) (q_acons (q_var) (q_anil))) (q_args p_mklst (q_anil)))
  (q_seq (q_set (q_call (vf_ends_of) (q_acons (q_var) (q_anil))))
  (q_seq (q_for (q_izip (q_acons (q_args p_mklst (q_acons (q_int) (q_astar (q_var) (q_anil)))) (q_acons (q_var) (q_anil)))) (q_ttup (q_tscons (q_tname) (q_tscons (q_tname) (q_tsnil))))
  (q_seq (q_set (q_lc (q_irange1 (q_acons (q_var) (q_anil))) (q_tname) (q_tval (q_bin p_eq (q_sl (q_var) (q_psome (q_var)) (q_psome (q_bin p_sub (q_bin p_add (q_var) (q_var)) (q_var)))) (q_sl (q_var) (q_psome (q_var)) (q_psome (q_var))))) (q_var)))
  (q_app (q_args p_mktup (q_acons (q_if (q_tval (q_bin p_ne (q_var) (q_args p_mklst (q_anil)))) (q_bin p_ix (q_var) (q_int)) (q_non)) (q_acons (q_bin p_sub (q_var) (q_var)) (q_anil)))))))
  (q_retO)))))
def m__law_alike_from : List D → M D := fnM 6 (sSeq (sSet 3 (eC (.int 0)))
  (sSeq (sFor (srcZip (aCons (eSl (eVar 0) (pSome (eVar 1)) (pNone)) (aCons (eSl (eVar 0) (pSome (eVar 2)) (pNone)) (aNil)))) (tTup 2 (tsCons (tName 4) (tsCons (tName 5) (tsNil))))
  (sSeq (sIf (tVal (eBin opNe (eVar 4) (eVar 5)))
  (sRet (eVar 3))
  (sNil))
  (sSet 3 (eBin opAdd (eVar 3) (eC (.int 1))))))
  (sRet (eVar 3))))
namespace VV
def v__law_alike_from : List P → VM P := fnM 6 (sSeq (sSet 3 false false (eC (.int 0)))
  (sSeq (sFor false (srcZip (aCons (eSl (eVar 0) (pSome (eVar 1)) (pNone)) (aCons (eSl (eVar 0) (pSome (eVar 2)) (pNone)) (aNil)))) (tTup 2 (tsCons (tName 4) (tsCons (tName 5) (tsNil))))
  (sSeq (sIf (tVal (eBin opNe (eVar 4) (eVar 5)))
  (sRet (eVar 3))
  (sNil))
  (sSet 3 false false (eBin opAdd (eVar 3) (eC (.int 1))))))
  (sRet (eVar 3))))
end VV
theorem vf__law_alike_from : OkF m__law_alike_from VV.v__law_alike_from false := q_fn (q_seq (q_set (q_int))
  (q_seq (q_for (q_izip (q_acons (q_sl (q_var) (q_psome (q_var)) (q_pnone)) (q_acons (q_sl (q_var) (q_psome (q_var)) (q_pnone)) (q_anil)))) (q_ttup (q_tscons (q_tname) (q_tscons (q_tname) (q_tsnil))))
  (q_seq (q_ifs (q_tval (q_bin p_ne (q_var) (q_var)))
  (q_ret (q_var))
  (q_nil))
  (q_set (q_bin p_add (q_var) (q_int)))))
  (q_ret (q_var))))
def m__law_written : List D → M D := fnM 7 (sSeq (sPar 2 3 (aCons (eC (.str [])) (aCons (eArgs fList (aCons (eVar 1) (aNil))) (aNil))))
  (sSeq (sFor (srcSeq (eVar 0)) (tTup 2 (tsCons (tName 4) (tsCons (tName 5) (tsNil))))
  (sIf (tVal (eBin opIs (eVar 4) (eC .non)))
  (sSeq (sSet 2 (eBin opAdd (eVar 2) (eBin opIx (eVar 3) (eC (.int 0)))))
  (sSet 3 (eSl (eVar 3) (pSome (eC (.int 1))) (pNone))))
  (sFor (srcRange1 (aCons (eVar 5) (aNil))) (tName 6)
  (sSet 2 (eBin opAdd (eVar 2) (eBin opIx (eVar 2) (eBin opAdd (eVar 4) (eVar 6))))))))
  (sRet (eVar 2))))
namespace VV
def v__law_written : List P → VM P := fnM 7 (sSeq (sPar 2 3 false false (eC (.str [])) false false (eArgs fList (aCons (eVar 1) (aNil))))
  (sSeq (sFor false (srcSeq (eVar 0)) (tTup 2 (tsCons (tName 4) (tsCons (tName 5) (tsNil))))
  (sIf (tVal (eBin opIs (eVar 4) (eC .non)))
  (sSeq (sSet 2 false false (eBin opAdd (eVar 2) (eBin opIx (eVar 3) (eC (.int 0)))))
  (sSet 3 false false (eSl (eVar 3) (pSome (eC (.int 1))) (pNone))))
  (sFor false (srcRange1 (aCons (eVar 5) (aNil))) (tName 6)
  (sSet 2 false false (eBin opAdd (eVar 2) (eBin opIx (eVar 2) (eBin opAdd (eVar 4) (eVar 6))))))))
  (sRet (eVar 2))))
end VV
theorem vf__law_written : OkF m__law_written VV.v__law_written false := q_fn (q_seq (q_par (q_str) (q_args c_list' (q_acons (q_var) (q_anil))))
  (q_seq (q_for (q_iseq (q_var)) (q_ttup (q_tscons (q_tname) (q_tscons (q_tname) (q_tsnil))))
  (q_ifs (q_tval (q_bin p_is (q_var) (q_non)))
  (q_seq (q_set (q_bin p_add (q_var) (q_bin p_ix (q_var) (q_int))))
  (q_set (q_sl (q_var) (q_psome (q_int)) (q_pnone))))
  (q_for (q_irange1 (q_acons (q_var) (q_anil))) (q_tname)
  (q_set (q_bin p_add (q_var) (q_bin p_ix (q_var) (q_bin p_add (q_var) (q_var))))))))
  (q_ret (q_var))))
abbrev m_law_rest : SM := sSeq (sFor (srcRange1 (aCons (eC (.int 9)) (aNil))) (tName 2)
  (sSeq (sSet 5 (eCall 3 (m__law_word) (aCons (eVar 1) (aCons (eIf (tVal (eBin opLt (eVar 2) (eC (.int 8)))) (eCall 2 (m__law_pick) (aCons (eVar 1) (aCons (eArgs mkLst (aCons (eC (.int 4)) (aCons (eC (.int 12)) (aCons (eC (.int 30)) (aNil))))) (aNil)))) (eC (.int 80))) (aCons (eCall 1 (m__law_letters) (aCons (eVar 1) (aNil))) (aNil))))))
  (sSeq (sSet 6 (eLc (srcRange1 (aCons (eArgs fLen (aCons (eVar 5) (aNil))) (aNil))) (tName 14) [14] (tYes) (eArgs fMax (aCons (eBin opAdd (eLc (srcRange1 (aCons (eVar 14) (aNil))) (tName 16) [16] (tYes) (eCall 3 (m__law_alike_from) (aCons (eVar 5) (aCons (eVar 16) (aCons (eVar 14) (aNil)))))) (eArgs mkLst (aCons (eC (.int 0)) (aNil)))) (aNil)))))
  (sSeq (sSet 3 (eArgs mkLst (aCons (eCall 1 (m_longest_before) (aCons (eVar 5) (aNil))) (aCons (eCallK 0 1 1 [0] (m_longest_before) aNil (aCons (eVar 5) (aNil))) (aNil)))))
  (sSeq (sIf (tNot (tVal (eCall 2 (m__law_same 40) (aCons (eVar 3) (aCons (eArgs mkLst (aCons (eVar 6) (aCons (eVar 6) (aNil)))) (aNil))))))
  (sRet (eC (.bl false)))
  (sNil))
  (sSeq (sExpr (eMeth "list" mAppend (eBin opIx (eVar 3) (eC (.int 0))) (aCons (eC (.str [108, 97, 116, 101])) (aNil))))
  (sSeq (sAsg (eArgs mkTup (aCons (eArgs mkLst (aNil)) (aCons (eC (.int 0)) (aNil)))) (tTup 2 (tsCons (tName 7) (tsCons (tName 8) (tsNil)))))
  (sSeq (sFor (srcRange1 (aCons (eArgs fLen (aCons (eVar 5) (aNil))) (aNil))) (tName 9)
  (sIf (tVal (eBin opLt (eVar 8) (eArgs fLen (aCons (eVar 5) (aNil)))))
  (sSeq (sSet 12 (eArgs fMax (aCons (eC (.int 1)) (aCons (eBin opIx (eVar 6) (eVar 8)) (aNil)))))
  (sSeq (sSet 13 (eLc (srcRange1 (aCons (eVar 8) (aNil))) (tName 14) [14] (tVal (eBin opEq (eSl (eVar 5) (pSome (eVar 14)) (pSome (eBin opAdd (eVar 14) (eVar 12)))) (eSl (eVar 5) (pSome (eVar 8)) (pSome (eBin opAdd (eVar 8) (eVar 12)))))) (eVar 14)))
  (sSeq (sExpr (eMeth "list" mAppend (eVar 7) (aCons (eArgs mkTup (aCons (eIf (tVal (eBin opNe (eVar 13) (eArgs mkLst (aNil)))) (eBin opIx (eVar 13) (eC (.int 0))) (eC .non)) (aCons (eVar 12) (aNil)))) (aNil))))
  (sSet 8 (eBin opAdd (eVar 8) (eVar 12))))))
  (sNil)))
  (sSeq (sSet 10 (eArgs mkLst (aCons (eCall 1 (m_parted_by) (aCons (eVar 5) (aNil))) (aCons (eCallK 0 1 1 [0] (m_parted_by) aNil (aCons (eVar 5) (aNil))) (aNil)))))
  (sSeq (sIf (tNot (tVal (eCall 2 (m__law_same 40) (aCons (eVar 10) (aCons (eArgs mkLst (aCons (eVar 7) (aCons (eVar 7) (aNil)))) (aNil))))))
  (sRet (eC (.bl false)))
  (sNil))
  (sSeq (sExpr (eMeth "list" mAppend (eBin opIx (eVar 10) (eC (.int 0))) (aCons (eC (.str [108, 97, 116, 101])) (aNil))))
  (sSeq (sIf (tNot (tVal (eCall 2 (m__law_same 40) (aCons (eArgs mkLst (aCons (eCall 1 (m_parted_by) (aCons (eVar 5) (aNil))) (aCons (eCall 1 (m_longest_before) (aCons (eVar 5) (aNil))) (aNil)))) (aCons (eArgs mkLst (aCons (eVar 7) (aCons (eVar 6) (aNil)))) (aNil))))))
  (sRet (eC (.bl false)))
  (sNil))
  (sSeq (sSet 11 (eLc (srcEnum (aCons (eVar 5) (aNil))) (tTup 2 (tsCons (tName 14) (tsCons (tName 15) (tsNil)))) [14, 15] (tVal (eBin opNotIn (eVar 15) (eSl (eVar 5) (pNone) (pSome (eVar 14))))) (eVar 15)))
  (sIf (tOr (tVal (eBin opNe (eCall 2 (m__law_written) (aCons (eVar 7) (aCons (eVar 11) (aNil)))) (eVar 5))) (tNot (tVal (eCall 2 (m__law_same 40) (aCons (eCall 1 (m_fewest_parts) (aCons (eVar 5) (aNil))) (aCons (eArgs fLen (aCons (eVar 7) (aNil))) (aNil)))))))
  (sRet (eC (.bl false)))
  (sNil)))))))))))))))
  (sSeq (sSet 3 (eArgs mkLst (aCons (eCall 1 (m_parted_by) (aCons (eC (.str [97, 98, 97, 98, 97, 98, 97, 98])) (aNil))) (aCons (eCall 1 (m_longest_before) (aCons (eC (.str [97, 98, 97, 97, 98])) (aNil))) (aCons (eCall 1 (m_parted_by) (aCons (eC (.str [])) (aNil))) (aCons (eCall 1 (m_parted_by) (aCons (eC (.str [97, 97, 97, 97])) (aNil))) (aNil)))))))
  (sSeq (sSet 4 (eArgs mkLst (aCons (eArgs mkLst (aCons (eArgs mkTup (aCons (eC .non) (aCons (eC (.int 1)) (aNil)))) (aCons (eArgs mkTup (aCons (eC .non) (aCons (eC (.int 1)) (aNil)))) (aCons (eArgs mkTup (aCons (eC (.int 0)) (aCons (eC (.int 6)) (aNil)))) (aNil))))) (aCons (eArgs mkLst (aCons (eC (.int 0)) (aCons (eC (.int 0)) (aCons (eC (.int 1)) (aCons (eC (.int 2)) (aCons (eC (.int 1)) (aNil))))))) (aCons (eArgs mkLst (aNil)) (aCons (eArgs mkLst (aCons (eArgs mkTup (aCons (eC .non) (aCons (eC (.int 1)) (aNil)))) (aCons (eArgs mkTup (aCons (eC (.int 0)) (aCons (eC (.int 3)) (aNil)))) (aNil)))) (aNil)))))))
  (sRet (eCall 2 (m__law_same 40) (aCons (eVar 3) (aCons (eVar 4) (aNil)))))))
def m_law : List D → M D := fnM 17 (sSeq (sSet 1 (eCall 1 (m__law_stream) (aCons (eVar 0) (aNil)))) m_law_rest)
namespace VV
def v_law : VSM := sSeq (sFor false (srcRange1 (aCons (eC (.int 9)) (aNil))) (tName 2)
  (sSeq (sSet 5 false false (eCall 3 (v__law_word) (aCons (eVar 1) (aCons (eIf (tVal (eBin opLt (eVar 2) (eC (.int 8)))) (eCall 2 (v__law_pick) (aCons (eVar 1) (aCons (eArgs mkLst (aCons (eC (.int 4)) (aCons (eC (.int 12)) (aCons (eC (.int 30)) (aNil))))) (aNil)))) (eC (.int 80))) (aCons (eCall 1 (v__law_letters) (aCons (eVar 1) (aNil))) (aNil))))))
  (sSeq (sSet 6 false false (eLc (srcRange1 (aCons (eArgs fLen (aCons (eVar 5) (aNil))) (aNil))) (tName 14) [14] (tYes) (eArgs fMax (aCons (eBin opAdd (eLc (srcRange1 (aCons (eVar 14) (aNil))) (tName 16) [16] (tYes) (eCall 3 (v__law_alike_from) (aCons (eVar 5) (aCons (eVar 16) (aCons (eVar 14) (aNil)))))) (eArgs mkLst (aCons (eC (.int 0)) (aNil)))) (aNil)))))
  (sSeq (sTmp 3 (aCons (eCall 1 (v_longest_before) (aCons (eVar 5) (aNil))) (aCons (eCallK 0 1 1 [0] (v_longest_before) aNil (aCons (eVar 5) (aNil))) (aNil))))
  (sSeq (sIf (tNot (tVal (eCall 2 (v__law_same 40) (aCons (eVar 3) (aCons (eArgs mkLst (aCons (eVar 6) (aCons (eVar 6) (aNil)))) (aNil))))))
  (sRet (eC (.bl false)))
  (sNil))
  (sSeq (sLate 3 [0] (eC (.str [108, 97, 116, 101])))
  (sSeq (sPar 7 8 true false (eArgs mkLst (aNil)) false false (eC (.int 0)))
  (sSeq (sFor false (srcRange1 (aCons (eArgs fLen (aCons (eVar 5) (aNil))) (aNil))) (tName 9)
  (sIf (tVal (eBin opLt (eVar 8) (eArgs fLen (aCons (eVar 5) (aNil)))))
  (sSeq (sSet 12 false false (eArgs fMax (aCons (eC (.int 1)) (aCons (eBin opIx (eVar 6) (eVar 8)) (aNil)))))
  (sSeq (sSet 13 false false (eLc (srcRange1 (aCons (eVar 8) (aNil))) (tName 14) [14] (tVal (eBin opEq (eSl (eVar 5) (pSome (eVar 14)) (pSome (eBin opAdd (eVar 14) (eVar 12)))) (eSl (eVar 5) (pSome (eVar 8)) (pSome (eBin opAdd (eVar 8) (eVar 12)))))) (eVar 14)))
  (sSeq (sApp 7 false (eArgs mkTup (aCons (eIf (tVal (eBin opNe (eVar 13) (eArgs mkLst (aNil)))) (eBin opIx (eVar 13) (eC (.int 0))) (eC .non)) (aCons (eVar 12) (aNil)))))
  (sSet 8 false false (eBin opAdd (eVar 8) (eVar 12))))))
  (sNil)))
  (sSeq (sTmp 10 (aCons (eCall 1 (v_parted_by) (aCons (eVar 5) (aNil))) (aCons (eCallK 0 1 1 [0] (v_parted_by) aNil (aCons (eVar 5) (aNil))) (aNil))))
  (sSeq (sIf (tNot (tVal (eCall 2 (v__law_same 40) (aCons (eVar 10) (aCons (eArgs mkLst (aCons (eVar 7) (aCons (eVar 7) (aNil)))) (aNil))))))
  (sRet (eC (.bl false)))
  (sNil))
  (sSeq (sLate 10 [0] (eC (.str [108, 97, 116, 101])))
  (sSeq (sIf (tNot (tVal (eCall 2 (v__law_same 40) (aCons (eArgs mkLst (aCons (eCall 1 (v_parted_by) (aCons (eVar 5) (aNil))) (aCons (eCall 1 (v_longest_before) (aCons (eVar 5) (aNil))) (aNil)))) (aCons (eArgs mkLst (aCons (eVar 7) (aCons (eVar 6) (aNil)))) (aNil))))))
  (sRet (eC (.bl false)))
  (sNil))
  (sSeq (sSet 11 false false (eLc (srcEnum (aCons (eVar 5) (aNil))) (tTup 2 (tsCons (tName 14) (tsCons (tName 15) (tsNil)))) [14, 15] (tVal (eBin opNotIn (eVar 15) (eSl (eVar 5) (pNone) (pSome (eVar 14))))) (eVar 15)))
  (sIf (tOr (tVal (eBin opNe (eCall 2 (v__law_written) (aCons (eVar 7) (aCons (eVar 11) (aNil)))) (eVar 5))) (tNot (tVal (eCall 2 (v__law_same 40) (aCons (eCall 1 (v_fewest_parts) (aCons (eVar 5) (aNil))) (aCons (eArgs fLen (aCons (eVar 7) (aNil))) (aNil)))))))
  (sRet (eC (.bl false)))
  (sNil)))))))))))))))
  (sSeq (sTmp 3 (aCons (eCall 1 (v_parted_by) (aCons (eC (.str [97, 98, 97, 98, 97, 98, 97, 98])) (aNil))) (aCons (eCall 1 (v_longest_before) (aCons (eC (.str [97, 98, 97, 97, 98])) (aNil))) (aCons (eCall 1 (v_parted_by) (aCons (eC (.str [])) (aNil))) (aCons (eCall 1 (v_parted_by) (aCons (eC (.str [97, 97, 97, 97])) (aNil))) (aNil))))))
  (sSeq (sSet 4 false false (eArgs mkLst (aCons (eArgs mkLst (aCons (eArgs mkTup (aCons (eC .non) (aCons (eC (.int 1)) (aNil)))) (aCons (eArgs mkTup (aCons (eC .non) (aCons (eC (.int 1)) (aNil)))) (aCons (eArgs mkTup (aCons (eC (.int 0)) (aCons (eC (.int 6)) (aNil)))) (aNil))))) (aCons (eArgs mkLst (aCons (eC (.int 0)) (aCons (eC (.int 0)) (aCons (eC (.int 1)) (aCons (eC (.int 2)) (aCons (eC (.int 1)) (aNil))))))) (aCons (eArgs mkLst (aNil)) (aCons (eArgs mkLst (aCons (eArgs mkTup (aCons (eC .non) (aCons (eC (.int 1)) (aNil)))) (aCons (eArgs mkTup (aCons (eC (.int 0)) (aCons (eC (.int 3)) (aNil)))) (aNil)))) (aNil)))))))
  (sRet (eCall 2 (v__law_same 40) (aCons (eVar 3) (aCons (eVar 4) (aNil)))))))
end VV
theorem vs_law : OkS m_law_rest VV.v_law true := q_seq (q_for (q_irange1 (q_acons (q_int) (q_anil))) (q_tname)
  (q_seq (q_set (q_call (vf__law_word) (q_acons (q_var) (q_acons (q_if (q_tval (q_bin p_lt (q_var) (q_int))) (q_call (vf__law_pick) (q_acons (q_var) (q_acons (q_args p_mklst (q_acons (q_int) (q_acons (q_int) (q_acons (q_int) (q_anil))))) (q_anil)))) (q_int)) (q_acons (q_call (vf__law_letters) (q_acons (q_var) (q_anil))) (q_anil))))))
  (q_seq (q_set (q_lc (q_irange1 (q_acons (q_args c_len' (q_acons (q_var) (q_anil))) (q_anil))) (q_tname) (q_yes) (q_args c_max' (q_acons (q_bin p_add (q_lc (q_irange1 (q_acons (q_var) (q_anil))) (q_tname) (q_yes) (q_call (vf__law_alike_from) (q_acons (q_var) (q_acons (q_var) (q_acons (q_var) (q_anil)))))) (q_args p_mklst (q_acons (q_int) (q_anil)))) (q_anil)))))
  (q_seq (q_tmp (q_dcons (q_call (vf_longest_before) (q_acons (q_var) (q_anil))) (q_dcons (q_callK (vf_longest_before) q_anil (q_acons (q_var) (q_anil))) (q_dnil))))
  (q_seq (q_ifs (q_tnot (q_tval (q_call (vf__law_same 40) (q_acons (q_var) (q_acons (q_args p_mklst (q_acons (q_var) (q_acons (q_var) (q_anil)))) (q_anil))))))
  (q_ret (q_bl))
  (q_nil))
  (q_seq (q_late (ks := [0]) rfl (q_str))
  (q_seq (q_parT (q_args p_mklst (q_anil)) (q_int))
  (q_seq (q_for (q_irange1 (q_acons (q_args c_len' (q_acons (q_var) (q_anil))) (q_anil))) (q_tname)
  (q_ifs (q_tval (q_bin p_lt (q_var) (q_args c_len' (q_acons (q_var) (q_anil)))))
  (q_seq (q_set (q_args c_max' (q_acons (q_int) (q_acons (q_bin p_ix (q_var) (q_var)) (q_anil)))))
  (q_seq (q_set (q_lc (q_irange1 (q_acons (q_var) (q_anil))) (q_tname) (q_tval (q_bin p_eq (q_sl (q_var) (q_psome (q_var)) (q_psome (q_bin p_add (q_var) (q_var)))) (q_sl (q_var) (q_psome (q_var)) (q_psome (q_bin p_add (q_var) (q_var)))))) (q_var)))
  (q_seq (q_app (q_args p_mktup (q_acons (q_if (q_tval (q_bin p_ne (q_var) (q_args p_mklst (q_anil)))) (q_bin p_ix (q_var) (q_int)) (q_non)) (q_acons (q_var) (q_anil)))))
  (q_set (q_bin p_add (q_var) (q_var))))))
  (q_nil)))
  (q_seq (q_tmp (q_dcons (q_call (vf_parted_by) (q_acons (q_var) (q_anil))) (q_dcons (q_callK (vf_parted_by) q_anil (q_acons (q_var) (q_anil))) (q_dnil))))
  (q_seq (q_ifs (q_tnot (q_tval (q_call (vf__law_same 40) (q_acons (q_var) (q_acons (q_args p_mklst (q_acons (q_var) (q_acons (q_var) (q_anil)))) (q_anil))))))
  (q_ret (q_bl))
  (q_nil))
  (q_seq (q_late (ks := [0]) rfl (q_str))
  (q_seq (q_ifs (q_tnot (q_tval (q_call (vf__law_same 40) (q_acons (q_args p_mklst (q_acons (q_call (vf_parted_by) (q_acons (q_var) (q_anil))) (q_acons (q_call (vf_longest_before) (q_acons (q_var) (q_anil))) (q_anil)))) (q_acons (q_args p_mklst (q_acons (q_var) (q_acons (q_var) (q_anil)))) (q_anil))))))
  (q_ret (q_bl))
  (q_nil))
  (q_seq (q_set (q_lc (q_ienum (q_acons (q_var) (q_anil))) (q_ttup (q_tscons (q_tname) (q_tscons (q_tname) (q_tsnil)))) (q_tval (q_bin p_notin (q_var) (q_sl (q_var) (q_pnone) (q_psome (q_var))))) (q_var)))
  (q_ifs (q_tor (q_tval (q_bin p_ne (q_call (vf__law_written) (q_acons (q_var) (q_acons (q_var) (q_anil)))) (q_var))) (q_tnot (q_tval (q_call (vf__law_same 40) (q_acons (q_call (vf_fewest_parts) (q_acons (q_var) (q_anil))) (q_acons (q_args c_len' (q_acons (q_var) (q_anil))) (q_anil)))))))
  (q_ret (q_bl))
  (q_nil)))))))))))))))
  (q_seq (q_tmp (q_dcons (q_call (vf_parted_by) (q_acons (q_str) (q_anil))) (q_dcons (q_call (vf_longest_before) (q_acons (q_str) (q_anil))) (q_dcons (q_call (vf_parted_by) (q_acons (q_str) (q_anil))) (q_dcons (q_call (vf_parted_by) (q_acons (q_str) (q_anil))) (q_dnil))))))
  (q_seq (q_set (q_args p_mklst (q_acons (q_args p_mklst (q_acons (q_args p_mktup (q_acons (q_non) (q_acons (q_int) (q_anil)))) (q_acons (q_args p_mktup (q_acons (q_non) (q_acons (q_int) (q_anil)))) (q_acons (q_args p_mktup (q_acons (q_int) (q_acons (q_int) (q_anil)))) (q_anil))))) (q_acons (q_args p_mklst (q_acons (q_int) (q_acons (q_int) (q_acons (q_int) (q_acons (q_int) (q_acons (q_int) (q_anil))))))) (q_acons (q_args p_mklst (q_anil)) (q_acons (q_args p_mklst (q_acons (q_args p_mktup (q_acons (q_non) (q_acons (q_int) (q_anil)))) (q_acons (q_args p_mktup (q_acons (q_int) (q_acons (q_int) (q_anil)))) (q_anil)))) (q_anil)))))))
  (q_ret (q_call (vf__law_same 40) (q_acons (q_var) (q_acons (q_var) (q_anil)))))))
end MM

/-! k85: where parts come from: what the defs compute. -/
namespace MM
open PySem PySem.Spec PyProof.Rows L2

/-- a loop's body, a statement comes to its end -/
def Nx (a : VSM) (env : VS) (s : SS) (R : VS → SS → Prop) : Prop := ∃ env' s', a env s = some (.nx env', s') ∧ R env' s'
section
variable {s s1 : SS} {env env1 : VS} {a b : VSM} {R : VS → SS → Prop} {t : VEnv → VM Bool}
theorem Nx.seq (h : a env s = some (.nx env1, s1)) (k : Nx b env1 s1 R) : Nx (VV.sSeq a b) env s R := by
  obtain ⟨x, s', e, r⟩ := k
  exact ⟨x, s', (w_seq h).trans e, r⟩
theorem Nx.bind {R1 : VS → SS → Prop} (h : Nx a env s R1) (k : ∀ env1 s1, R1 env1 s1 → Nx b env1 s1 R) : Nx (VV.sSeq a b) env s R := by
  obtain ⟨env1, s1, e, r⟩ := h
  exact Nx.seq e (k env1 s1 r)
theorem Nx.ift (h : t (VV.vis2 env) s = some (true, s1)) (k : Nx a env s1 R) : Nx (VV.sIf t a b) env s R := by
  obtain ⟨x, s', e, r⟩ := k
  exact ⟨x, s', (w_ift h).trans e, r⟩
theorem Nx.iff (h : t (VV.vis2 env) s = some (false, s1)) (k : Nx b env s1 R) : Nx (VV.sIf t a b) env s R := by
  obtain ⟨x, s', e, r⟩ := k
  exact ⟨x, s', (w_iff h).trans e, r⟩
theorem Nx.of (h : a env s = some (.nx env1, s1)) (k : R env1 s1) : Nx a env s R := ⟨env1, s1, h, k⟩
end
/-! ### words -/
def Letters (w : List Nat) : Prop := ∀ c ∈ w, 97 ≤ c ∧ c ≤ 122
theorem in_az {c : Nat} (h : 97 ≤ c ∧ c ≤ 122) : VV.opIn (.str [c]) (.str [97, 98, 99, 100, 101, 102, 103, 104, 105, 106, 107, 108, 109, 110, 111, 112, 113, 114, 115, 116, 117, 118, 119, 120, 121, 122]) = some (.bl true) := by
  show some (P.bl (decide (c ∈ _))) = _
  rw [decide_eq_true]
  have : ∀ c ∈ List.range 123, 97 ≤ c → c ∈ [97, 98, 99, 100, 101, 102, 103, 104, 105, 106, 107, 108, 109, 110, 111, 112, 113, 114, 115, 116, 117, 118, 119, 120, 121, 122] := by decide
  exact this c (List.mem_range.mpr (by omega)) h.1
theorem is_word {w : List Nat} {s : SS} (h : Letters w) (hl : w.length ≤ lim) : VV.v_is_word_of [.str w] s = some (.bl true, s) := by
  refine w_fn (w_ret ?_)
  have a1 : VV.eArgs VV.fIsi (VV.aCons (VV.eVar 0) (VV.aCons (VV.eC (.ty "str")) VV.aNil)) (VV.vis2 (VV.start 2 [.str w])) s = some (.bl true, s) := rfl
  have a2 := v_lc1 (env := VV.vis2 (VV.start 2 [.str w])) (i := 1) (vs := [1]) (e := VV.eBin VV.opIn (VV.eVar 1) (VV.eC (.str [97, 98, 99, 100, 101, 102, 103, 104, 105, 106, 107, 108, 109, 110, 111, 112, 113, 114, 115, 116, 117, 118, 119, 120, 121, 122]))) (fun c => P.str [c]) (fun _ => P.bl true) (v_seqS (s := s) (a := VV.eVar 0) (w := w) (v_var rfl)) hl
    (fun c hc => v_bin (v_var (x := .str [c]) rfl) rfl (in_az (h c hc)))
  have a3 := v_args (f := VV.fAll) (y := .bl true) (v_one a2) (by
    show ((VV.blsOf (w.map fun _ => P.bl true)).map fun is => P.bl (is.all id)) = _
    rw [bls_map (fun _ => true) w]
    show some (P.bl _) = _
    rw [all_true])
  exact v_and (c := true) (d := true) a1 fun _ => a3
theorem check_ok {w : List Nat} {s : SS} (h : Letters w) (hl : w.length ≤ lim) : VV.v_check_word [.str w] s = some (.non, s) := by
  refine w_fnn (pass_if ?_)
  exact v_tnot (c := true) (v_tval (v_call (v_one (v_var (x := .str w) rfl)) rfl (is_word h hl)))

/-! ### alike from two places on -/
def alikeL : List Nat → List Nat → Nat
  | a :: as, b :: bs => if a = b then alikeL as bs + 1 else 0
  | _, _ => 0
theorem alikeL_le : ∀ as bs : List Nat, alikeL as bs ≤ as.length ∧ alikeL as bs ≤ bs.length
  | [], bs => by simp [alikeL]
  | a :: as, [] => by simp [alikeL]
  | a :: as, b :: bs => by
    have := alikeL_le as bs
    unfold alikeL
    split <;> simp <;> omega
def alk (w : List Nat) (i j : Nat) : Nat := alikeL (w.drop i) (w.drop j)
theorem alk_cons {w : List Nat} {i j : Nat} (hi : i < w.length) (hj : j < w.length) : alk w i j = if w[i] = w[j] then alk w (i + 1) (j + 1) + 1 else 0 := by
  unfold alk
  rw [List.drop_eq_getElem_cons hi, List.drop_eq_getElem_cons hj]
  rfl
theorem alk_end {w : List Nat} {i j : Nat} (h : w.length ≤ i ∨ w.length ≤ j) : alk w i j = 0 := by
  unfold alk
  rcases h with h | h
  · rw [List.drop_eq_nil_of_le h]; rfl
  · rw [List.drop_eq_nil_of_le h]
    cases w.drop i <;> rfl
theorem ix_str {w : List Nat} {i : Nat} (h : i < w.length) (hl : w.length ≤ lim) : VV.opIx (.str w) (.int (i : Int)) = some (.str [w[i]]) := by
  show (if w.length ≤ lim then (atI w (i : Int)).map fun c => P.str [c] else none) = _
  rw [if_pos hl, atI_nat h]; rfl
theorem lt_int {i j : Int} : VV.opLt (.int i) (.int j) = some (.bl (decide (i < j))) := rfl
theorem max_nat {i j : Nat} : VV.fMax [.int (i : Int), .int (j : Int)] = some (.int ((max i j : Nat) : Int)) := by
  rw [max_int]
  congr 2
  split <;> omega
theorem alike_ok {w : List Nat} {i j : Nat} {s : SS} (hl : w.length ≤ lim) (hi : i ≤ w.length) (hj : j ≤ w.length) : VV.v_alike_from [.str w, .int i, .int j] s = some (.int (alk w i j), s) := by
  have hl2 : lim = 16777216 := rfl
  let E : Nat → VS := fun m => [some (.val (.str w)), some (.val (.int i)), some (.val (.int j)), some (.val (.int (m : Nat)))]
  let c : Nat → Bool := fun m => decide (max i j + m < w.length) && decide (w[i + m]?.getD 0 = w[j + m]?.getD 0)
  obtain ⟨m, e1, ⟨q1, q2, q3⟩, q4⟩ := w_while (s := s) (t := VV.tAnd (VV.tVal (VV.eBin VV.opLt (VV.eBin VV.opAdd (VV.eArgs VV.fMax (VV.aCons (VV.eVar 1) (VV.aCons (VV.eVar 2) VV.aNil))) (VV.eVar 3)) (VV.eArgs VV.fLen (VV.aCons (VV.eVar 0) VV.aNil)))) (VV.tVal (VV.eBin VV.opEq (VV.eBin VV.opIx (VV.eVar 0) (VV.eBin VV.opAdd (VV.eVar 1) (VV.eVar 3))) (VV.eBin VV.opIx (VV.eVar 0) (VV.eBin VV.opAdd (VV.eVar 2) (VV.eVar 3))))))
    (b := VV.sSet 3 false false (VV.eBin VV.opAdd (VV.eVar 3) (VV.eC (.int 1)))) E c (fun m => m + 1) (fun m => w.length - m) (fun m => alk w i j = m + alk w (i + m) (j + m) ∧ i + m ≤ w.length ∧ j + m ≤ w.length)
    (fun m _ => by
      refine v_tand (c := decide (max i j + m < w.length)) (d := decide (w[i + m]?.getD 0 = w[j + m]?.getD 0)) (v_tval (v_bin (v_bin (v_args (v_two (v_var rfl) (v_var rfl)) max_nat) (v_var rfl) add_int) (v_args (v_one (v_var (x := .str w) rfl)) (len_str hl)) ?_)) fun hc => ?_
      · rw [lt_int]
        congr 2
        rw [decide_eq_decide]
        omega
      · have hc := of_decide_eq_true hc
        have h1 : i + m < w.length := by omega
        have h2 : j + m < w.length := by omega
        refine v_tval (v_bin (v_bin (v_var (x := .str w) rfl) (v_bin (v_var rfl) (v_var rfl) add_int) (y := .int ((i : Int) + (m : Int))) (z := .str [w[i + m]]) (by rw [← ix_str h1 hl]; norm_cast)) (v_bin (v_var (x := .str w) rfl) (v_bin (v_var rfl) (v_var rfl) add_int) (y := .int ((j : Int) + (m : Int))) (z := .str [w[j + m]]) (by rw [← ix_str h2 hl]; norm_cast)) ?_)
        rw [eq_str, List.getElem?_eq_getElem h1, List.getElem?_eq_getElem h2]
        simp)
    (fun m ⟨q1, q2, q3⟩ hc => by
      rw [Bool.and_eq_true, decide_eq_true_eq, decide_eq_true_eq] at hc
      obtain ⟨hc1, hc2⟩ := hc
      have h1 : i + m < w.length := by omega
      have h2 : j + m < w.length := by omega
      rw [List.getElem?_eq_getElem h1, List.getElem?_eq_getElem h2] at hc2
      have hc2 : w[i + m] = w[j + m] := hc2
      refine ⟨?_, ⟨?_, by omega, by omega⟩, by omega⟩
      · rw [w_set (x := .int ((m + 1 : Nat) : Int)) (v_bin (v_var rfl) rfl (by rw [add_int]; simp))]
        rfl
      · rw [q1, alk_cons h1 h2, if_pos hc2]
        rw [show i + (m + 1) = i + m + 1 by omega, show j + (m + 1) = j + m + 1 by omega]
        omega) 0 ⟨by simp, by omega, by omega⟩ (by omega)
  have hz : alk w (i + m) (j + m) = 0 := by
    by_cases h : max i j + m < w.length
    · have h1 : i + m < w.length := by omega
      have h2 : j + m < w.length := by omega
      have hne : ¬ (w[i + m] = w[j + m]) := by
        intro z
        have : c m = true := by
          show (decide _ && decide _) = true
          rw [decide_eq_true h, List.getElem?_eq_getElem h1, List.getElem?_eq_getElem h2, decide_eq_true (by simpa using z)]
          rfl
        rw [this] at q4
        cases q4
      rw [alk_cons h1 h2, if_neg hne]
    · exact alk_end (by omega)
  rw [hz] at q1
  refine w_fn ((w_seq (env1 := E 0) (w_set rfl)).trans ((w_seq e1).trans (w_ret (v_var ?_))))
  rw [q1]
  rfl
/-! ### the longest that came before -/
def befN (w : List Nat) (p : Nat) : Nat := ((List.range p).map fun q => alk w q p).foldl max 0
theorem maxL_nat : ∀ (l : List Nat) (i : Nat), maxL (i : Int) (l.map fun a => ((a : Nat) : Int)) = ((l.foldl max i : Nat) : Int)
  | [], i => rfl
  | a :: l, i => by
    show maxL (if (a : Int) > (i : Int) then (a : Int) else (i : Int)) (l.map fun a => ((a : Nat) : Int)) = _
    have : (if (a : Int) > (i : Int) then (a : Int) else (i : Int)) = ((max i a : Nat) : Int) := by split <;> omega
    rw [this, maxL_nat l (max i a)]
    rfl
theorem ints_app {xs ys : List P} {is js : List Int} (h1 : VV.intsOf xs = some is) (h2 : VV.intsOf ys = some js) : VV.intsOf (xs ++ ys) = some (is ++ js) := by
  induction xs generalizing is with
  | nil => cases h1; exact h2
  | cons x xs ih =>
    cases x <;> first | (cases h1; done) | skip
    rename_i k
    obtain ⟨ks, e1, e2⟩ := Option.map_eq_some_iff.mp (show (VV.intsOf xs).map (k :: ·) = some is from h1)
    subst e2
    show (VV.intsOf (xs ++ ys)).map (k :: ·) = _
    rw [ih e1]; rfl
theorem max0 (f : Nat → Nat) (p : Nat) : VV.fMax [.lst (.int 0 :: (List.range p).map fun q => .int ((f q : Nat) : Int))] = some (.int ((((List.range p).map f).foldl max 0 : Nat) : Int)) := by
  have h := ints_app (xs := [.int 0]) (is := [0]) rfl (ints_map (fun q => ((f q : Nat) : Int)) (List.range p))
  show (match VV.intsOf ([.int 0] ++ (List.range p).map fun q => .int ((f q : Nat) : Int)) with | some (i :: is) => some (P.int (maxL i is)) | _ => none) = _
  rw [h]
  show some (P.int (maxL ((0 : Nat) : Int) ((List.range p).map fun q => ((f q : Nat) : Int)))) = _
  have e : ((List.range p).map fun q => ((f q : Nat) : Int)) = ((List.range p).map f).map fun a => ((a : Nat) : Int) := by rw [List.map_map]; rfl
  rw [e, maxL_nat]
theorem max1 (f : Nat → Nat) (p : Nat) : VV.fMax [.lst ((List.range p).map (fun q => .int ((f q : Nat) : Int)) ++ [.int 0])] = some (.int ((((List.range p).map f).foldl max 0 : Nat) : Int)) := by
  have h := ints_app (ys := [.int 0]) (js := [0]) (ints_map (fun q => ((f q : Nat) : Int)) (List.range p)) rfl
  show (match VV.intsOf ((List.range p).map (fun q => .int ((f q : Nat) : Int)) ++ [.int 0]) with | some (i :: is) => some (P.int (maxL i is)) | _ => none) = _
  rw [h]
  have e : ((List.range p).map fun q => ((f q : Nat) : Int)) ++ [0] = (((List.range p).map f) ++ [0]).map fun a => ((a : Nat) : Int) := by rw [List.map_append, List.map_map]; rfl
  rw [e]
  cases hl : (List.range p).map f with
  | nil => rfl
  | cons a l =>
    show some (P.int (maxL ((a : Nat) : Int) ((l ++ [0]).map fun a => ((a : Nat) : Int)))) = _
    rw [maxL_nat, List.foldl_append]
    show some (P.int ((max (l.foldl max a) 0 : Nat) : Int)) = some (P.int ((l.foldl max (max 0 a) : Nat) : Int))
    rw [Nat.max_zero, Nat.zero_max]
def befP (w : List Nat) : List P := (List.range w.length).map fun p => .int ((befN w p : Nat) : Int)
theorem before_ok {w : List Nat} {s : SS} (hl : w.length ≤ 100000) : VV.v_before_of [.str w] s = some (.lst (befP w), s) := by
  have hl2 : lim = 16777216 := rfl
  refine w_fn (w_ret ?_)
  refine v_lc1 (fun p : Nat => P.int ((p : Nat) : Int)) (fun p => .int ((befN w p : Nat) : Int)) (v_range1 (v_one (v_args (v_one (v_var (x := .str w) rfl)) (len_str (by omega)))) (by omega)) (by simp; omega) fun p hp => ?_
  have hp := List.mem_range.mp hp
  refine v_args (v_one (v_args (v_cons rfl (v_star (v_lc1 (fun q : Nat => P.int ((q : Nat) : Int)) (fun q => .int ((alk w q p : Nat) : Int)) (v_range1 (v_one (v_var (x := .int (p : Nat)) rfl)) (by omega)) (by simp; omega) fun q hq => ?_) rfl rfl)) ?_)) (max0 (fun q => alk w q p) p)
  · have hq := List.mem_range.mp hq
    exact v_call (v_cons (v_var (x := .str w) rfl) (v_two (v_var (x := .int (q : Nat)) rfl) (v_var (x := .int (p : Nat)) rfl))) rfl (alike_ok (by omega) (by omega) (by omega))
  · show VV.mkLst (.int 0 :: ((List.range p).map _ ++ [])) = _
    unfold VV.mkLst
    rw [List.append_nil, if_pos (by simp; omega)]
theorem longest_ok {w : List Nat} {s : SS} (h : Letters w) (hl : w.length ≤ 100000) : VV.v_longest_before [.str w] s = some (.lst (befP w), s) := by
  have hl2 : lim = 16777216 := rfl
  exact w_fn ((w_seq (w_expr (v_call (v_one (v_var (x := .str w) rfl)) rfl (check_ok h (by omega))))).trans (w_ret (v_call (v_one (v_var (x := .str w) rfl)) rfl (before_ok hl))))
/-! the law's own looking -/
def signP (c : Nat) : P := .str [c]
theorem law_alike_run {x0 x1 x2 : Option Sl} {s : SS} : ∀ (as bs : List Nat) (m : Nat) (o4 o5 : Option Sl),
    (∃ t, VV.sSeq (VV.sIf (VV.tVal (VV.eBin VV.opNe (VV.eVar 4) (VV.eVar 5))) (VV.sRet (VV.eVar 3)) VV.sNil) (VV.sSet 3 false false (VV.eBin VV.opAdd (VV.eVar 3) (VV.eC (.int 1)))) = t ∧
    (VV.forL (VV.tTup 2 (VV.tsCons (VV.tName 4) (VV.tsCons (VV.tName 5) VV.tsNil))) t (VV.pairsOf (as.map signP) (bs.map signP)) [x0, x1, x2, some (.val (.int (m : Nat))), o4, o5] s = some (.ret (.int ((m + alikeL as bs : Nat) : Int)), s) ∨
    ∃ a b, VV.forL (VV.tTup 2 (VV.tsCons (VV.tName 4) (VV.tsCons (VV.tName 5) VV.tsNil))) t (VV.pairsOf (as.map signP) (bs.map signP)) [x0, x1, x2, some (.val (.int (m : Nat))), o4, o5] s = some (.nx [x0, x1, x2, some (.val (.int ((m + alikeL as bs : Nat) : Int))), a, b], s)))
  | [], bs, m, o4, o5 => ⟨_, rfl, .inr ⟨o4, o5, by simp [VV.pairsOf, alikeL]; rfl⟩⟩
  | a :: as, [], m, o4, o5 => ⟨_, rfl, .inr ⟨o4, o5, by simp [VV.pairsOf, alikeL]; rfl⟩⟩
  | a :: as, b :: bs, m, o4, o5 => by
    refine ⟨_, rfl, ?_⟩
    have T : VV.tVal (VV.eBin VV.opNe (VV.eVar 4) (VV.eVar 5)) (VV.vis2 [x0, x1, x2, some (.val (.int (m : Nat))), some (.val (.str [a])), some (.val (.str [b]))]) s = some (!decide ([a] = [b]), s) := v_tval (v_bin (v_var (x := .str [a]) rfl) (v_var (x := .str [b]) rfl) ne_str)
    by_cases h : a = b
    · subst h
      obtain ⟨t, et, q⟩ := law_alike_run as bs (m + 1) (x0 := x0) (x1 := x1) (x2 := x2) (s := s) (some (.val (.str [a]))) (some (.val (.str [a])))
      have e : alikeL (a :: as) (a :: bs) = alikeL as bs + 1 := by
        show (if a = a then alikeL as bs + 1 else 0) = _
        rw [if_pos rfl]
      have body : VV.sSeq (VV.sIf (VV.tVal (VV.eBin VV.opNe (VV.eVar 4) (VV.eVar 5))) (VV.sRet (VV.eVar 3)) VV.sNil) (VV.sSet 3 false false (VV.eBin VV.opAdd (VV.eVar 3) (VV.eC (.int 1)))) [x0, x1, x2, some (.val (.int (m : Nat))), some (.val (.str [a])), some (.val (.str [a]))] s = some (.nx [x0, x1, x2, some (.val (.int ((m + 1 : Nat) : Int))), some (.val (.str [a])), some (.val (.str [a]))], s) := by
        have T0 := T.trans (show some (!decide ([a] = [a]), s) = some (false, s) by rw [decide_eq_true rfl]; rfl)
        rw [w_seq (pass_if T0)]
        exact w_set (x := .int ((m + 1 : Nat) : Int)) (v_bin (v_var (x := .int (m : Nat)) rfl) (s_eC (d := .int 1)) (by rw [add_int]; simp))
      rw [e, show m + (alikeL as bs + 1) = m + 1 + alikeL as bs by omega]
      subst et
      have go : ∀ t, VV.forL t (VV.sSeq (VV.sIf (VV.tVal (VV.eBin VV.opNe (VV.eVar 4) (VV.eVar 5))) (VV.sRet (VV.eVar 3)) VV.sNil) (VV.sSet 3 false false (VV.eBin VV.opAdd (VV.eVar 3) (VV.eC (.int 1))))) (VV.pairsOf ((a :: as).map signP) ((a :: bs).map signP)) = VV.forL t (VV.sSeq (VV.sIf (VV.tVal (VV.eBin VV.opNe (VV.eVar 4) (VV.eVar 5))) (VV.sRet (VV.eVar 3)) VV.sNil) (VV.sSet 3 false false (VV.eBin VV.opAdd (VV.eVar 3) (VV.eC (.int 1))))) (.tup [.str [a], .str [a]] :: VV.pairsOf (as.map signP) (bs.map signP)) := fun _ => rfl
      rw [go]
      unfold VV.forL
      show (bd (VV.sSeq _ _ [x0, x1, x2, some (.val (.int (m : Nat))), some (.val (.str [a])), some (.val (.str [a]))] s) _ = _) ∨ ∃ c d, bd (VV.sSeq _ _ [x0, x1, x2, some (.val (.int (m : Nat))), some (.val (.str [a])), some (.val (.str [a]))] s) _ = _
      rw [body]
      exact q
    · have e : alikeL (a :: as) (b :: bs) = 0 := by unfold alikeL; rw [if_neg h]
      rw [e]
      refine .inl ?_
      show bd (VV.sSeq _ _ [x0, x1, x2, some (.val (.int (m : Nat))), some (.val (.str [a])), some (.val (.str [b]))] s) _ = _
      have T1 := T.trans (show some (!decide ([a] = [b]), s) = some (true, s) by rw [decide_eq_false (by simpa using h)]; rfl)
      rw [w_seqr ((w_ift T1).trans (w_ret (v_var (x := .int (m : Nat)) rfl)))]
      rfl
theorem law_alike_ok {w : List Nat} {i j : Nat} {s : SS} (hl : w.length ≤ lim) : VV.v__law_alike_from [.str w, .int i, .int j] s = some (.int (alk w i j), s) := by
  have src : VV.srcZip (VV.aCons (VV.eSl (VV.eVar 0) (VV.pSome (VV.eVar 1)) VV.pNone) (VV.aCons (VV.eSl (VV.eVar 0) (VV.pSome (VV.eVar 2)) VV.pNone) VV.aNil)) (VV.vis1 [some (.val (.str w)), some (.val (.int i)), some (.val (.int j)), some (.val (.int 0)), none, none]) s = some (VV.pairsOf ((w.drop i).map signP) ((w.drop j).map signP), s) := by
    refine v_zip (x := .str (w.drop i)) (y := .str (w.drop j)) (v_two (s1 := s) ?_ ?_) rfl rfl
    · exact v_sl (i := some (i : Int)) (j := none) (v_var (x := .str w) rfl) (v_some (v_var rfl)) rfl (by rw [sl_str hl, cut_from])
    · exact v_sl (i := some (j : Int)) (j := none) (v_var (x := .str w) rfl) (v_some (v_var rfl)) rfl (by rw [sl_str hl, cut_from])
  obtain ⟨t, et, q⟩ := law_alike_run (w.drop i) (w.drop j) 0 (x0 := some (.val (.str w))) (x1 := some (.val (.int i))) (x2 := some (.val (.int j))) (s := s) none none
  subst et
  rw [Nat.zero_add] at q
  refine w_fn ((w_seq (env1 := [some (.val (.str w)), some (.val (.int i)), some (.val (.int j)), some (.val (.int 0)), none, none]) (w_set rfl)).trans ?_)
  have loop : ∀ b, VV.sFor false (VV.srcZip (VV.aCons (VV.eSl (VV.eVar 0) (VV.pSome (VV.eVar 1)) VV.pNone) (VV.aCons (VV.eSl (VV.eVar 0) (VV.pSome (VV.eVar 2)) VV.pNone) VV.aNil))) (VV.tTup 2 (VV.tsCons (VV.tName 4) (VV.tsCons (VV.tName 5) VV.tsNil))) b [some (.val (.str w)), some (.val (.int i)), some (.val (.int j)), some (.val (.int 0)), none, none] s = VV.forL (VV.tTup 2 (VV.tsCons (VV.tName 4) (VV.tsCons (VV.tName 5) VV.tsNil))) b (VV.pairsOf ((w.drop i).map signP) ((w.drop j).map signP)) [some (.val (.str w)), some (.val (.int i)), some (.val (.int j)), some (.val (.int 0)), none, none] s := by
    intro b
    unfold VV.sFor
    show bd (VV.srcZip _ (VV.vis1 _) s) _ = _
    rw [src]; rfl
  rcases q with q | ⟨a, b, q⟩
  · exact w_seqr ((loop _).trans q)
  · exact (w_seq ((loop _).trans q)).trans (w_ret (v_var rfl))
end MM

/-! k85: parts. -/
namespace MM
open PySem PySem.Spec PyProof.Rows L2

def stp (w : List Nat) (h : Nat) : Nat := max 1 (befN w h)
/-- where the parts begin -/
def begs (w : List Nat) : Nat → Nat → List Nat
  | 0, _ => []
  | n + 1, h => if h < w.length then h :: begs w n (h + stp w h) else []
theorem stp_pos (w : List Nat) (h : Nat) : 1 ≤ stp w h := by unfold stp; omega
theorem begs_end {w : List Nat} {h : Nat} (hh : w.length ≤ h) : ∀ n, begs w n h = []
  | 0 => rfl
  | n + 1 => by unfold begs; rw [if_neg (by omega)]
theorem begs_len (w : List Nat) : ∀ n h, (begs w n h).length ≤ n
  | 0, _ => Nat.le_refl _
  | n + 1, h => by
    unfold begs
    split
    · have := begs_len w n (h + stp w h); simp; omega
    · simp
theorem begs_lt (w : List Nat) : ∀ n h a, a ∈ begs w n h → a < w.length
  | 0, _, _, m => nomatch m
  | n + 1, h, a, m => by
    unfold begs at m
    split at m
    · rename_i hh
      rcases List.mem_cons.mp m with rfl | m
      · exact hh
      · exact begs_lt w n _ a m
    · cases m
def nxt (w : List Nat) (h : Nat) : Nat := h + stp w h
theorem befN_le {w : List Nat} {p : Nat} : befN w p ≤ w.length - p := by
  unfold befN
  have : ∀ (l : List Nat) (i : Nat), i ≤ w.length - p → (∀ a ∈ l, a ≤ w.length - p) → l.foldl max i ≤ w.length - p := by
    intro l
    induction l with
    | nil => exact fun i h _ => h
    | cons a l ih => exact fun i h h2 => ih _ (by have := h2 a List.mem_cons_self; omega) fun b hb => h2 b (List.mem_cons_of_mem _ hb)
  refine this _ 0 (Nat.zero_le _) fun a ha => ?_
  obtain ⟨q, _, rfl⟩ := List.mem_map.mp ha
  have := (alikeL_le (w.drop q) (w.drop p)).2
  rw [List.length_drop] at this
  exact this
theorem nxt_le {w : List Nat} {h : Nat} (hh : h < w.length) : nxt w h ≤ w.length := by
  have := befN_le (w := w) (p := h)
  unfold nxt stp
  omega
theorem ix_bef {w : List Nat} {h : Nat} (hh : h < w.length) : VV.opIx (.lst (befP w)) (.int (h : Int)) = some (.int ((befN w h : Nat) : Int)) := by
  have hl : h < (befP w).length := by unfold befP; simpa using hh
  refine (ix_lst (atI_nat hl)).trans ?_
  have : (befP w)[h]? = some (.int ((befN w h : Nat) : Int)) := by
    unfold befP
    rw [List.getElem?_map, List.getElem?_range hh]; rfl
  rw [← List.getElem?_eq_getElem hl, this]
theorem step_int {w : List Nat} {h : Nat} : VV.fMax [.int 1, .int ((befN w h : Nat) : Int)] = some (.int ((stp w h : Nat) : Int)) := max_nat (i := 1)
theorem bef_len (w : List Nat) : (befP w).length = w.length := by unfold befP; simp
def endP (w : List Nat) (n h : Nat) : List P := (begs w n h).map fun a => .int ((nxt w a : Nat) : Int)
theorem ends_ok {w : List Nat} {s : SS} (hl : w.length ≤ 100000) : VV.v_ends_of [.lst (befP w)] s = some (.lst (endP w w.length 0), s) := by
  have hl2 : lim = 16777216 := rfl
  let E : Nat × List P → VS := fun x => [some (.val (.lst (befP w))), some (.own x.2), some (.val (.int (x.1 : Nat)))]
  obtain ⟨⟨h, f⟩, e1, ⟨n, q1, q2, q3⟩, q4⟩ := w_while (s := s) (t := VV.tVal (VV.eBin VV.opLt (VV.eVar 2) (VV.eArgs VV.fLen (VV.aCons (VV.eVar 0) VV.aNil)))) (b := VV.sSeq (VV.sSet 2 false false (VV.eBin VV.opAdd (VV.eVar 2) (VV.eArgs VV.fMax (VV.aCons (VV.eC (.int 1)) (VV.aCons (VV.eBin VV.opIx (VV.eVar 0) (VV.eVar 2)) VV.aNil))))) (VV.sApp 1 false (VV.eVar 2)))
    E (fun x => decide (x.1 < w.length)) (fun x => (nxt w x.1, x.2 ++ [.int ((nxt w x.1 : Nat) : Int)])) (fun x => w.length - x.1) (fun x => ∃ n, w.length ≤ x.1 + n ∧ x.2 ++ endP w n x.1 = endP w w.length 0 ∧ x.2.length ≤ x.1)
    (fun x _ => v_tval (v_bin (v_var (x := .int (x.1 : Nat)) rfl) (v_args (v_one (v_var (x := .lst (befP w)) rfl)) len_lst) (by rw [lt_int, bef_len]; congr 2; rw [decide_eq_decide]; omega)))
    (fun x ⟨n, q1, q2, q3⟩ hc => by
      obtain ⟨h, f⟩ := x
      have hc : h < w.length := of_decide_eq_true hc
      obtain ⟨m, rfl⟩ : ∃ m, n = m + 1 := ⟨n - 1, by simp at q1; omega⟩
      have hp := stp_pos w h
      have hs : nxt w h = h + stp w h := rfl
      refine ⟨?_, ⟨m, by show w.length ≤ nxt w h + m; simp at q1; omega, ?_, by show (f ++ _).length ≤ nxt w h; simp at q3 ⊢; omega⟩, by show w.length - nxt w h < w.length - h; omega⟩
      · refine (w_seq (w_set (x := .int ((nxt w h : Nat) : Int)) (v_bin (v_var (x := .int (h : Nat)) rfl) (v_args (v_two rfl (v_bin (v_var (x := .lst (befP w)) rfl) (v_var (x := .int (h : Nat)) rfl) (ix_bef hc))) step_int) (by rw [add_int, hs]; simp)))).trans ?_
        exact w_app (xs := f) (v_var (x := .int ((nxt w h : Nat) : Int)) rfl) rfl (fun z => nomatch z) (by simp at q3; omega)
      · rw [← q2, List.append_assoc]
        congr 1
        unfold endP
        conv => rhs; unfold begs
        rw [if_pos hc]
        rfl) (0, []) ⟨w.length, by simp, rfl, by simp⟩ (by show w.length - 0 < _; omega)
  have q4 := of_decide_eq_false q4
  have hz : endP w n h = [] := by unfold endP; rw [begs_end (by simp at q4; omega)]; rfl
  have hf : f = endP w w.length 0 := by rw [← q2, hz, List.append_nil]
  subst hf
  have p0 : VV.sPar 1 2 true false (VV.eArgs VV.mkLst VV.aNil) false false (VV.eC (.int 0)) (VV.start 3 [.lst (befP w)]) s = some (.nx (E (0, [])), s) := w_parO (xs := []) rfl rfl rfl
  exact w_fn ((w_seq p0).trans ((w_seq e1).trans rfl))
theorem fewest_ok {w : List Nat} {s : SS} (h : Letters w) (hl : w.length ≤ 100000) : VV.v_fewest_parts [.str w] s = some (.int ((begs w w.length 0).length : Nat), s) := by
  have hl2 : lim = 16777216 := rfl
  refine w_fn ((w_seq (w_expr (v_call (v_one (v_var (x := .str w) rfl)) rfl (check_ok h (by omega))))).trans (w_ret (v_args (v_one (v_call (v_one (v_call (v_one (v_var (x := .str w) rfl)) rfl (before_ok hl))) rfl (ends_ok hl))) ?_)))
  rw [len_lst]
  unfold endP
  simp
/-! the part that begins at a place -/
def stands85 (w : List Nat) (h m : Nat) : List Nat := (List.range h).filter fun q => decide ((w.drop q).take m = (w.drop h).take m)
def fstP (w : List Nat) (h m : Nat) : P := match (stands85 w h m).head? with
  | some q => .int ((q : Nat) : Int)
  | none => .non
def partP (w : List Nat) (h : Nat) : P := .tup [fstP w h (stp w h), .int ((stp w h : Nat) : Int)]
theorem slice_ok {w : List Nat} {a b : Nat} {env : VEnv} {s : SS} {e1 e2 e3 : VEnv → VM P} (hl : w.length ≤ lim) (h1 : e1 env s = some (.str w, s)) (h2 : e2 env s = some (.int (a : Nat), s)) (h3 : e3 env s = some (.int (b : Nat), s)) : VV.eSl e1 (VV.pSome e2) (VV.pSome e3) env s = some (.str ((w.drop a).take (b - a)), s) :=
  v_sl h1 (v_some h2) (v_some h3) (by rw [sl_str hl, cut_both])
/-- the places where the part stands before, and what is told of them -/
theorem first_int {w : List Nat} {h m : Nat} {env : VEnv} {s : SS} {e : VEnv → VM P} (he : e env s = some (.lst ((stands85 w h m).map fun q => .int ((q : Nat) : Int)), s)) :
    VV.eIf (VV.tVal (VV.eBin VV.opNe e (VV.eArgs VV.mkLst VV.aNil))) (VV.eBin VV.opIx e (VV.eC (.int 0))) (VV.eC .non) env s = some (fstP w h m, s) := by
  have hne : VV.opNe (.lst ((stands85 w h m).map fun q => .int ((q : Nat) : Int))) (.lst []) = some (.bl (!decide (stands85 w h m = []))) := by
    have := eqP_ints ((stands85 w h m).map fun q => ((q : Nat) : Int)) []
    rw [List.map_map] at this
    show (VV.eqP _ _).map _ = _
    rw [show (.lst [] : P) = .lst (([] : List Int).map .int) from rfl, show (P.lst ((stands85 w h m).map fun q => .int ((q : Nat) : Int))) = .lst ((stands85 w h m).map (P.int ∘ fun q => ((q : Nat) : Int))) from rfl, this]
    cases stands85 w h m <;> rfl
  have T := v_tval (v_bin he (show VV.eArgs VV.mkLst VV.aNil env s = some (P.lst [], s) from rfl) hne)
  unfold fstP
  cases hst : stands85 w h m with
  | nil =>
    rw [hst] at T
    exact v_if T (fun z => by simp at z) fun _ => rfl
  | cons q qs =>
    rw [hst] at T he
    refine v_if T (fun _ => v_bin he rfl ?_) fun z => by simp at z
    exact ix_lst (atI_nat (i := 0) (by simp))
theorem zip_ends (w : List Nat) : ∀ n h, VV.pairsOf (.int (h : Nat) :: endP w n h) (endP w n h) = (begs w n h).map fun a => P.tup [.int (a : Nat), .int ((nxt w a : Nat) : Int)]
  | 0, h => rfl
  | n + 1, h => by
    by_cases hh : h < w.length
    · have e : endP w (n + 1) h = .int ((nxt w h : Nat) : Int) :: endP w n (nxt w h) := by
        show (if h < w.length then h :: begs w n (h + stp w h) else []).map _ = _
        rw [if_pos hh]; rfl
      have e2 : begs w (n + 1) h = h :: begs w n (nxt w h) := by
        show (if h < w.length then h :: begs w n (h + stp w h) else []) = _
        rw [if_pos hh]; rfl
      rw [e, e2]
      show P.tup _ :: VV.pairsOf (.int ((nxt w h : Nat) : Int) :: endP w n (nxt w h)) (endP w n (nxt w h)) = _
      rw [zip_ends w n (nxt w h)]
      rfl
    · have e : endP w (n + 1) h = [] := by
        show (if h < w.length then h :: begs w n (h + stp w h) else []).map _ = _
        rw [if_neg hh]; rfl
      have e2 : begs w (n + 1) h = [] := by
        show (if h < w.length then h :: begs w n (h + stp w h) else []) = _
        rw [if_neg hh]
      rw [e, e2]
      rfl
/-- the comprehension over the places ahead -/
theorem stands_ok {w : List Nat} {h m : Nat} {env : VEnv} {s : SS} {i : Nat} {e1 e2 e3 e4 e5 eh : VEnv → VM P} {vs : List Nat} (hl : w.length ≤ 100000) (hh : h ≤ w.length) (he : eh env s = some (.int (h : Nat), s))
    (H : ∀ q : Nat, e1 ((VV.wipeE env vs).set i (some (.int (q : Nat)))) s = some (.str w, s) ∧ e2 ((VV.wipeE env vs).set i (some (.int (q : Nat)))) s = some (.int (q : Nat), s) ∧ e3 ((VV.wipeE env vs).set i (some (.int (q : Nat)))) s = some (.int ((q + m : Nat) : Int), s) ∧
      e4 ((VV.wipeE env vs).set i (some (.int (q : Nat)))) s = some (.int (h : Nat), s) ∧ e5 ((VV.wipeE env vs).set i (some (.int (q : Nat)))) s = some (.int ((h + m : Nat) : Int), s)) :
    VV.eLc (VV.srcRange1 (VV.aCons eh VV.aNil)) (VV.tName i) vs (VV.tVal (VV.eBin VV.opEq (VV.eSl e1 (VV.pSome e2) (VV.pSome e3)) (VV.eSl e1 (VV.pSome e4) (VV.pSome e5)))) e2 env s = some (.lst ((stands85 w h m).map fun q => .int ((q : Nat) : Int)), s) := by
  have hl2 : lim = 16777216 := rfl
  refine v_lc (fun q : Nat => P.int ((q : Nat) : Int)) (fun q => decide ((w.drop q).take m = (w.drop h).take m)) (fun q => .int ((q : Nat) : Int)) (v_range1 (v_one he) (by omega)) (by simp; omega) fun q hq => ?_
  obtain ⟨a1, a2, a3, a4, a5⟩ := H q
  refine ⟨[(i, .int (q : Nat))], rfl, ?_, fun _ => a2⟩
  have b1 := slice_ok (a := q) (b := q + m) (by omega) a1 a2 a3
  have b2 := slice_ok (a := h) (b := h + m) (by omega) a1 a4 a5
  rw [Nat.add_sub_cancel_left] at b1 b2
  exact v_tval (v_bin b1 b2 eq_str)
theorem parted_ok {w : List Nat} {s : SS} (h : Letters w) (hl : w.length ≤ 100000) : VV.v_parted_by [.str w] s = some (.lst ((begs w w.length 0).map (partP w)), s) := by
  have hl2 : lim = 16777216 := rfl
  have p0 := w_parV (i := 1) (j := 2) (s := s) (env := VV.start 8 [.str w]) (e1 := VV.eCall 1 VV.v_before_of (VV.aCons (VV.eVar 0) VV.aNil)) (e2 := VV.eArgs VV.mkLst VV.aNil) (xs := []) (v_call (v_one (v_var (x := .str w) rfl)) rfl (before_ok hl)) rfl rfl
  have p1 := w_set (i := 3) (s := s) (env := [some (.val (.str w)), some (.val (.lst (befP w))), some (.own []), none, none, none, none, none]) (e := VV.eCall 1 VV.v_ends_of (VV.aCons (VV.eVar 1) VV.aNil)) (v_call (v_one (v_var (x := .lst (befP w)) rfl)) rfl (ends_ok hl))
  have el : (endP w w.length 0).length ≤ w.length := by unfold endP; rw [List.length_map]; exact begs_len _ _ _
  obtain ⟨env', s', e2, rfl, o4, o5, o6, o7, rfl⟩ := w_for (env := [some (.val (.str w)), some (.val (.lst (befP w))), some (.own []), some (.val (.lst (endP w w.length 0))), none, none, none, none]) (s := s) (s1 := s) (tg := VV.tTup 2 (VV.tsCons (VV.tName 4) (VV.tsCons (VV.tName 5) VV.tsNil)))
    (src := VV.srcZip (VV.aCons (VV.eArgs VV.mkLst (VV.aCons (VV.eC (.int 0)) (VV.aStar (VV.eVar 3) VV.aNil))) (VV.aCons (VV.eVar 3) VV.aNil))) (l := begs w w.length 0) (fun a : Nat => P.tup [.int (a : Nat), .int ((nxt w a : Nat) : Int)])
    (b := VV.sSeq (VV.sSet 6 false false (VV.eLc (VV.srcRange1 (VV.aCons (VV.eVar 4) VV.aNil)) (VV.tName 7) [7] (VV.tVal (VV.eBin VV.opEq (VV.eSl (VV.eVar 0) (VV.pSome (VV.eVar 7)) (VV.pSome (VV.eBin VV.opSub (VV.eBin VV.opAdd (VV.eVar 7) (VV.eVar 5)) (VV.eVar 4)))) (VV.eSl (VV.eVar 0) (VV.pSome (VV.eVar 4)) (VV.pSome (VV.eVar 5))))) (VV.eVar 7)))
      (VV.sApp 2 false (VV.eArgs VV.mkTup (VV.aCons (VV.eIf (VV.tVal (VV.eBin VV.opNe (VV.eVar 6) (VV.eArgs VV.mkLst VV.aNil))) (VV.eBin VV.opIx (VV.eVar 6) (VV.eC (.int 0))) (VV.eC .non)) (VV.aCons (VV.eBin VV.opSub (VV.eVar 5) (VV.eVar 4)) VV.aNil)))))
    (fun i env s' => s' = s ∧ ∃ o4 o5 o6 o7, env = [some (.val (.str w)), some (.val (.lst (befP w))), some (.own (((begs w w.length 0).take i).map (partP w))), some (.val (.lst (endP w w.length 0))), o4, o5, o6, o7])
    (by
      rw [← zip_ends]
      refine v_zip (x := .lst (.int 0 :: endP w w.length 0)) (v_two (v_args (xs := .int 0 :: endP w w.length 0) (v_cons rfl ?_) ?_) (v_var rfl)) rfl rfl
      · have := v_star (env := VV.vis1 [some (.val (.str w)), some (.val (.lst (befP w))), some (.own []), some (.val (.lst (endP w w.length 0))), none, none, none, none]) (s := s) (a := VV.eVar 3) (r := VV.aNil) (x := .lst (endP w w.length 0)) (v_var rfl) rfl rfl
        rw [List.append_nil] at this
        exact this
      · unfold VV.mkLst
        rw [if_pos (by simp; omega)])
    ⟨rfl, none, none, none, none, rfl⟩
    (fun i a env s' hi q => by
      obtain ⟨rfl, o4, o5, o6, o7, rfl⟩ := q
      have ha := begs_lt w _ _ a (List.mem_of_getElem? hi)
      have il := lt_of_get hi
      refine ⟨[(4, .int (a : Nat)), (5, .int ((nxt w a : Nat) : Int))], [some (.val (.str w)), some (.val (.lst (befP w))), some (.own (((begs w w.length 0).take i).map (partP w) ++ [partP w a])), some (.val (.lst (endP w w.length 0))), some (.val (.int (a : Nat))), some (.val (.int ((nxt w a : Nat) : Int))), some (.val (.lst ((stands85 w a (stp w a)).map fun q => .int ((q : Nat) : Int)))), o7], s', rfl, .inl ?_, rfl, some (.val (.int (a : Nat))), some (.val (.int ((nxt w a : Nat) : Int))), some (.val (.lst ((stands85 w a (stp w a)).map fun q => .int ((q : Nat) : Int)))), o7, ?_⟩
      · refine (w_seq (w_set (x := .lst ((stands85 w a (stp w a)).map fun q => .int ((q : Nat) : Int))) (stands_ok hl (by omega) (v_var rfl) fun q => ⟨v_var rfl, v_var rfl, v_bin (v_bin (v_var (x := .int (q : Nat)) rfl) (v_var (x := .int ((nxt w a : Nat) : Int)) rfl) add_int) (v_var (x := .int (a : Nat)) rfl) ?_, v_var rfl, v_var rfl⟩))).trans ?_
        · rw [sub_int]
          have : nxt w a = a + stp w a := rfl
          congr 2
          omega
        · refine w_app (xs := ((begs w w.length 0).take i).map (partP w)) (v_args (v_two (first_int (v_var rfl)) (v_bin (v_var (x := .int ((nxt w a : Nat) : Int)) rfl) (v_var (x := .int (a : Nat)) rfl) sub_int)) ?_) rfl (fun z => nomatch z) ?_
          · show some (P.tup [fstP w a (stp w a), .int (((nxt w a : Nat) : Int) - (a : Nat))]) = _
            have : ((nxt w a : Nat) : Int) - (a : Nat) = ((stp w a : Nat) : Int) := by unfold nxt; omega
            rw [this]; rfl
          · have := begs_len w w.length 0
            rw [List.length_map, List.length_take]
            omega
      · have ht : (begs w w.length 0).take (i + 1) = (begs w w.length 0).take i ++ [a] := by
          rw [List.take_succ, hi]; rfl
        rw [ht, List.map_append]; rfl)
  rw [List.take_of_length_le (Nat.le_refl _)] at e2
  exact w_fn ((w_seq (w_expr (v_call (v_one (v_var (x := .str w) rfl)) rfl (check_ok h (by omega))))).trans ((w_seq p0).trans ((w_seq p1).trans ((w_seq e2).trans rfl))))
end MM

/-! k85: what is written of the parts. -/
namespace MM
open PySem PySem.Spec PyProof.Rows L2

theorem alikeL_take : ∀ as bs : List Nat, as.take (alikeL as bs) = bs.take (alikeL as bs)
  | [], bs => by
    have : alikeL [] bs = 0 := by cases bs <;> rfl
    rw [this]; simp
  | a :: as, [] => rfl
  | a :: as, b :: bs => by
    by_cases h : a = b
    · have e : alikeL (a :: as) (b :: bs) = alikeL as bs + 1 := by
        show (if a = b then alikeL as bs + 1 else 0) = _
        rw [if_pos h]
      rw [e, List.take_succ_cons, List.take_succ_cons, h, alikeL_take as bs]
    · have e : alikeL (a :: as) (b :: bs) = 0 := by
        show (if a = b then alikeL as bs + 1 else 0) = _
        rw [if_neg h]
      rw [e]; simp
theorem fold_mem : ∀ (l : List Nat) (i : Nat), l.foldl max i = i ∨ l.foldl max i ∈ l
  | [], i => .inl rfl
  | a :: l, i => by
    show l.foldl max (max i a) = i ∨ l.foldl max (max i a) ∈ a :: l
    rcases fold_mem l (max i a) with h | h
    · rw [h]
      by_cases hi : a ≤ i
      · exact .inl (Nat.max_eq_left hi)
      · rw [Nat.max_eq_right (by omega)]
        exact .inr List.mem_cons_self
    · exact .inr (List.mem_cons_of_mem _ h)
theorem fold_ge : ∀ (l : List Nat) (i : Nat), i ≤ l.foldl max i ∧ ∀ a ∈ l, a ≤ l.foldl max i
  | [], i => ⟨Nat.le_refl _, fun _ h => nomatch h⟩
  | b :: l, i => by
    obtain ⟨h1, h2⟩ := fold_ge l (max i b)
    refine ⟨by show i ≤ l.foldl max (max i b); omega, fun a ha => ?_⟩
    show a ≤ l.foldl max (max i b)
    rcases List.mem_cons.mp ha with rfl | ha
    · omega
    · exact h2 a ha
theorem stands_none {w : List Nat} {h : Nat} (hh : h < w.length) (hs : stands85 w h (stp w h) = []) : stp w h = 1 ∧ w[h] ∉ w.take h := by
  have hb : befN w h = 0 := by
    refine Nat.eq_zero_of_not_pos fun hp => ?_
    have hm := fold_mem ((List.range h).map fun q => alk w q h) 0
    have hbe : ((List.range h).map fun q => alk w q h).foldl max 0 = befN w h := rfl
    rw [hbe] at hm
    rcases hm with e | hm
    · omega
    · obtain ⟨q, hq, e⟩ := List.mem_map.mp hm
      have hst : stp w h = befN w h := by unfold stp; omega
      have : q ∈ stands85 w h (stp w h) := by
        unfold stands85
        refine List.mem_filter.mpr ⟨hq, decide_eq_true ?_⟩
        rw [hst, ← e]
        exact alikeL_take _ _
      rw [hs] at this
      cases this
  refine ⟨by unfold stp; omega, fun hm => ?_⟩
  obtain ⟨q, hq, e⟩ := List.getElem_of_mem hm
  have hq' : q < h := by rw [List.length_take] at hq; omega
  rw [List.getElem_take] at e
  have ha : 1 ≤ alk w q h := by
    rw [alk_cons (by omega) hh, if_pos e]; omega
  have := (fold_ge ((List.range h).map fun q => alk w q h) 0).2 _ (List.mem_map.mpr ⟨q, List.mem_range.mpr hq', rfl⟩)
  have hbe : ((List.range h).map fun q => alk w q h).foldl max 0 = befN w h := rfl
  rw [hbe, hb] at this
  omega
theorem stands_some {w : List Nat} {h m q : Nat} {qs : List Nat} (hs : stands85 w h m = q :: qs) (hm : h + m ≤ w.length) : q < h ∧ ∀ t, (ht : t < m) → ∃ (h1 : q + t < w.length) (h2 : h + t < w.length), w[q + t] = w[h + t] := by
  have : q ∈ stands85 w h m := by rw [hs]; exact List.mem_cons_self
  unfold stands85 at this
  obtain ⟨h1, h2⟩ := List.mem_filter.mp this
  have h1 := List.mem_range.mp h1
  have h2 := of_decide_eq_true h2
  refine ⟨h1, fun t ht => ⟨by omega, by omega, ?_⟩⟩
  have e := congrArg (fun l => l[t]?) h2
  simp only [List.getElem?_take, List.getElem?_drop, if_pos ht] at e
  rw [List.getElem?_eq_getElem (by omega), List.getElem?_eq_getElem (by omega)] at e
  exact Option.some.inj e
/-! the letters as they come first -/
def newL : List Nat → List Nat → List Nat
  | _, [] => []
  | pre, c :: r => if c ∈ pre then newL (pre ++ [c]) r else c :: newL (pre ++ [c]) r
theorem take_snoc {w : List Nat} {h : Nat} (hh : h < w.length) : w.take h ++ [w[h]] = w.take (h + 1) := by
  rw [List.take_succ, List.getElem?_eq_getElem hh]; rfl
theorem newL_step {w : List Nat} {h : Nat} (hh : h < w.length) : newL (w.take h) (w.drop h) = if w[h] ∈ w.take h then newL (w.take (h + 1)) (w.drop (h + 1)) else w[h] :: newL (w.take (h + 1)) (w.drop (h + 1)) := by
  rw [List.drop_eq_getElem_cons hh]
  show (if w[h] ∈ w.take h then newL (w.take h ++ [w[h]]) (w.drop (h + 1)) else w[h] :: newL (w.take h ++ [w[h]]) (w.drop (h + 1))) = _
  rw [take_snoc hh]
theorem newL_skip {w : List Nat} {h q m : Nat} (hq : q < h) (hm : h + m ≤ w.length) (e : ∀ t, (ht : t < m) → ∃ (h1 : q + t < w.length) (h2 : h + t < w.length), w[q + t] = w[h + t]) : ∀ t, t ≤ m → newL (w.take h) (w.drop h) = newL (w.take (h + t)) (w.drop (h + t))
  | 0, _ => rfl
  | t + 1, ht => by
    rw [newL_skip hq hm e t (by omega)]
    obtain ⟨h1, h2, e1⟩ := e t (by omega)
    rw [newL_step h2, if_pos]
    · rfl
    · rw [← e1]
      refine List.mem_take_iff_getElem.mpr ⟨q + t, by omega, rfl⟩
theorem notin_str {c : Nat} {pre : List Nat} : VV.opNotIn (.str [c]) (.str pre) = some (.bl (!decide (c ∈ pre))) := rfl
theorem new_list (w : List Nat) : ∀ (r : List Nat) (k : Nat), w.drop k = r → ((r.zipIdx k).filter fun q => !decide (q.1 ∈ w.take q.2)).map (fun q => signP q.1) = (newL (w.take k) r).map signP
  | [], k, _ => rfl
  | c :: r, k, h => by
    have hk : k < w.length := by
      refine Nat.lt_of_not_le fun z => ?_
      rw [List.drop_eq_nil_of_le z] at h
      cases h
    have hc : w[k] = c ∧ w.drop (k + 1) = r := by
      rw [List.drop_eq_getElem_cons hk] at h
      exact ⟨(List.cons.inj h).1, (List.cons.inj h).2⟩
    have ih := new_list w r (k + 1) hc.2
    rw [List.zipIdx_cons]
    show _ = (if c ∈ w.take k then newL (w.take k ++ [c]) r else c :: newL (w.take k ++ [c]) r).map signP
    rw [← hc.1, take_snoc hk]
    by_cases hm : w[k] ∈ w.take k
    · rw [List.filter_cons_of_neg (by simp [hm]), if_pos hm, ih]
    · rw [List.filter_cons_of_pos (by simp [hm]), if_neg hm, List.map_cons, List.map_cons, ih]
theorem is_non {x : P} : VV.opIs x .non = some (.bl (VV.isNon x)) := rfl
theorem cut1 {xs : List P} : cutL xs (some 1) none = xs.drop 1 := cut_from (k := 1)
theorem written_run {w : List Nat} {s : SS} {p0 p1 : Option Sl} (hl : w.length ≤ 100000) : ∀ (n h : Nat) (o4 o5 o6 : Option Sl), w.length ≤ h + n → h ≤ w.length →
    ∃ env', VV.forL (VV.tTup 2 (VV.tsCons (VV.tName 4) (VV.tsCons (VV.tName 5) VV.tsNil))) (VV.sIf (VV.tVal (VV.eBin VV.opIs (VV.eVar 4) (VV.eC .non)))
      (VV.sSeq (VV.sSet 2 false false (VV.eBin VV.opAdd (VV.eVar 2) (VV.eBin VV.opIx (VV.eVar 3) (VV.eC (.int 0))))) (VV.sSet 3 false false (VV.eSl (VV.eVar 3) (VV.pSome (VV.eC (.int 1))) VV.pNone)))
      (VV.sFor false (VV.srcRange1 (VV.aCons (VV.eVar 5) VV.aNil)) (VV.tName 6) (VV.sSet 2 false false (VV.eBin VV.opAdd (VV.eVar 2) (VV.eBin VV.opIx (VV.eVar 2) (VV.eBin VV.opAdd (VV.eVar 4) (VV.eVar 6)))))))
      ((begs w n h).map (partP w)) [p0, p1, some (.val (.str (w.take h))), some (.val (.lst ((newL (w.take h) (w.drop h)).map signP))), o4, o5, o6] s = some (.nx env', s) ∧ env'[2]? = some (some (.val (.str w)))
  | 0, h, o4, o5, o6, h1, h2 => ⟨_, rfl, by show some (some (Sl.val (.str (w.take h)))) = _; rw [List.take_of_length_le (by omega)]⟩
  | n + 1, h, o4, o5, o6, h1, h2 => by
    have hl2 : lim = 16777216 := rfl
    by_cases hh : h < w.length
    · have e2 : begs w (n + 1) h = h :: begs w n (nxt w h) := by
        show (if h < w.length then h :: begs w n (h + stp w h) else []) = _
        rw [if_pos hh]; rfl
      have hn := nxt_le hh
      have hsp := stp_pos w h
      have hnx : nxt w h = h + stp w h := rfl
      rw [e2]
      -- the body brings it to the next part
      have body : ∃ o6', VV.sIf (VV.tVal (VV.eBin VV.opIs (VV.eVar 4) (VV.eC .non)))
          (VV.sSeq (VV.sSet 2 false false (VV.eBin VV.opAdd (VV.eVar 2) (VV.eBin VV.opIx (VV.eVar 3) (VV.eC (.int 0))))) (VV.sSet 3 false false (VV.eSl (VV.eVar 3) (VV.pSome (VV.eC (.int 1))) VV.pNone)))
          (VV.sFor false (VV.srcRange1 (VV.aCons (VV.eVar 5) VV.aNil)) (VV.tName 6) (VV.sSet 2 false false (VV.eBin VV.opAdd (VV.eVar 2) (VV.eBin VV.opIx (VV.eVar 2) (VV.eBin VV.opAdd (VV.eVar 4) (VV.eVar 6))))))
          [p0, p1, some (.val (.str (w.take h))), some (.val (.lst ((newL (w.take h) (w.drop h)).map signP))), some (.val (fstP w h (stp w h))), some (.val (.int ((stp w h : Nat) : Int))), o6] s =
          some (.nx [p0, p1, some (.val (.str (w.take (nxt w h)))), some (.val (.lst ((newL (w.take (nxt w h)) (w.drop (nxt w h))).map signP))), some (.val (fstP w h (stp w h))), some (.val (.int ((stp w h : Nat) : Int))), o6'], s) := by
        cases hst : stands85 w h (stp w h) with
        | nil =>
          obtain ⟨s1, s2⟩ := stands_none hh hst
          have hf : fstP w h (stp w h) = .non := by unfold fstP; rw [hst]; rfl
          rw [hf]
          refine ⟨o6, ?_⟩
          have hne : newL (w.take h) (w.drop h) = w[h] :: newL (w.take (nxt w h)) (w.drop (nxt w h)) := by
            rw [newL_step hh, if_neg s2, hnx, s1]
          rw [hne]
          refine (w_ift (v_tval (v_bin (v_var (x := .non) rfl) rfl is_non))).trans ?_
          refine (w_seq (w_set (x := .str (w.take (nxt w h))) (v_bin (v_var (x := .str (w.take h)) rfl) (v_bin (y := .int 0) (z := .str [w[h]]) (v_var (x := .lst ((w[h] :: newL (w.take (nxt w h)) (w.drop (nxt w h))).map signP)) rfl) rfl (ix_lst (atI_nat (i := 0) (by simp)))) ?_))).trans ?_
          · rw [add_str (by rw [List.length_take]; simp; omega), take_snoc hh, hnx, s1]
          · exact w_set (v_sl (i := some 1) (j := none) (v_var (x := .lst ((w[h] :: newL (w.take (nxt w h)) (w.drop (nxt w h))).map signP)) rfl) rfl rfl (by show some (P.lst (cutL _ (some 1) none)) = _; rw [cut1]; rfl))
        | cons q qs =>
          have hf : fstP w h (stp w h) = .int (q : Nat) := by unfold fstP; rw [hst]; rfl
          rw [hf]
          obtain ⟨hq, he⟩ := stands_some hst (by omega)
          obtain ⟨env', s', e1, rfl, o6', rfl⟩ := w_for (env := [p0, p1, some (.val (.str (w.take h))), some (.val (.lst ((newL (w.take h) (w.drop h)).map signP))), some (.val (.int (q : Nat))), some (.val (.int ((stp w h : Nat) : Int))), o6]) (s := s) (s1 := s) (src := VV.srcRange1 (VV.aCons (VV.eVar 5) VV.aNil)) (tg := VV.tName 6) (b := VV.sSet 2 false false (VV.eBin VV.opAdd (VV.eVar 2) (VV.eBin VV.opIx (VV.eVar 2) (VV.eBin VV.opAdd (VV.eVar 4) (VV.eVar 6)))))
            (l := List.range (stp w h)) (fun t : Nat => P.int ((t : Nat) : Int)) (fun t env s' => s' = s ∧ ∃ o6', env = [p0, p1, some (.val (.str (w.take (h + t)))), some (.val (.lst ((newL (w.take h) (w.drop h)).map signP))), some (.val (.int (q : Nat))), some (.val (.int ((stp w h : Nat) : Int))), o6'])
            (v_range1 (v_one (v_var rfl)) (by omega)) ⟨rfl, o6, rfl⟩ (fun i t env s' hi qq => by
              obtain ⟨rfl, o6', rfl⟩ := qq
              have hil := lt_of_get hi
              rw [List.length_range] at hil
              rw [List.getElem?_range hil] at hi
              cases hi
              obtain ⟨b1, b2, b3⟩ := he i hil
              refine ⟨_, [p0, p1, some (.val (.str (w.take (h + i + 1)))), some (.val (.lst ((newL (w.take h) (w.drop h)).map signP))), some (.val (.int (q : Nat))), some (.val (.int ((stp w h : Nat) : Int))), some (.val (.int (i : Nat)))], s', rfl, .inl ?_, rfl, _, rfl⟩
              refine w_set (x := .str (w.take (h + i + 1))) (v_bin (v_var (x := .str (w.take (h + i))) rfl) (v_bin (v_var (x := .str (w.take (h + i))) rfl) (v_bin (v_var (x := .int (q : Nat)) rfl) (v_var (x := .int (i : Nat)) rfl) add_int) (z := .str [w[h + i]]) ?_) ?_)
              · have hqi : q + i < (w.take (h + i)).length := by rw [List.length_take]; omega
                have := ix_str hqi (by rw [List.length_take]; omega)
                rw [List.getElem_take, b3] at this
                rw [← this]
                norm_cast
              · rw [add_str (by rw [List.length_take]; simp; omega), take_snoc b2])
          rw [List.length_range] at e1
          refine ⟨o6', (w_iff (v_tval (v_bin (v_var (x := .int (q : Nat)) rfl) rfl is_non))).trans ?_⟩
          rw [newL_skip hq (by omega) he (stp w h) (Nat.le_refl _)] at e1
          rw [newL_skip hq (by omega) he (stp w h) (Nat.le_refl _)]
          exact e1
      obtain ⟨o6', body⟩ := body
      obtain ⟨env', e3, q3⟩ := written_run hl n (nxt w h) (some (.val (fstP w h (stp w h)))) (some (.val (.int ((stp w h : Nat) : Int)))) o6' (by omega) hn
      refine ⟨env', ?_, q3⟩
      show bd (VV.sIf _ _ _ [p0, p1, some (.val (.str (w.take h))), some (.val (.lst ((newL (w.take h) (w.drop h)).map signP))), some (.val (fstP w h (stp w h))), some (.val (.int ((stp w h : Nat) : Int))), o6] s) _ = _
      rw [body]
      exact e3
    · have e2 : begs w (n + 1) h = [] := by
        show (if h < w.length then h :: begs w n (h + stp w h) else []) = _
        rw [if_neg hh]
      rw [e2]
      exact ⟨_, rfl, by show some (some (Sl.val (.str (w.take h)))) = _; rw [List.take_of_length_le (by omega)]⟩
theorem written_ok {w : List Nat} {s : SS} (hl : w.length ≤ 100000) : VV.v__law_written [.lst ((begs w w.length 0).map (partP w)), .lst ((newL [] w).map signP)] s = some (.str w, s) := by
  obtain ⟨env', e1, q1⟩ := written_run (s := s) (p0 := some (.val (.lst ((begs w w.length 0).map (partP w))))) (p1 := some (.val (.lst ((newL [] w).map signP)))) hl w.length 0 none none none (by omega) (Nat.zero_le _)
  have p0 := w_par (i := 2) (j := 3) (s := s) (env := VV.start 7 [.lst ((begs w w.length 0).map (partP w)), .lst ((newL [] w).map signP)]) (e1 := VV.eC (.str [])) (e2 := VV.eArgs VV.fList (VV.aCons (VV.eVar 1) VV.aNil)) rfl (v_args (v_one (v_var (x := .lst ((newL [] w).map signP)) rfl)) rfl)
  refine w_fn ((w_seq p0).trans ((w_seq (env1 := env') (s1 := s) ?_).trans (w_ret (v_var ?_))))
  · unfold VV.sFor
    show bd (VV.srcSeq (VV.eVar 0) (VV.vis1 _) s) _ = _
    rw [v_seqL (v_var (x := .lst ((begs w w.length 0).map (partP w))) rfl), bd_some]
    exact e1
  · unfold VV.vis2
    rw [List.getElem?_map, q1]; rfl
end MM

/-! k85: the law. -/
namespace MM
open PySem PySem.Spec PyProof.Rows L2

theorem w_tmp {i : Nat} {a : VEnv → VM (List P)} {xs : List P} {env : VS} {s s1 : SS} (h : a (VV.vis2 env) s = some (xs, s1)) (hd : xs.all d1 = true) (hl : xs.length ≤ lim) : VV.sTmp i a env s = some (.nx (env.set i (some (.tmp (.lst xs)))), s1) := by
  unfold VV.sTmp
  rw [h, bd_some, hd, decide_eq_true hl]; rfl
theorem w_late {i : Nat} {ks : List Int} {e : VEnv → VM P} {env : VS} {s s1 : SS} {t : P} {ys : List P} {x : P} (h : e (VV.vis2 env) s = some (x, s1)) (ht : env[i]? = some (some (.tmp t))) (hp : VV.pathP t ks = some ys) (hf : flat x = true) (hl : ys.length < lim) : VV.sLate i ks e env s = some (.nx (VV.wipeT env), s1) := by
  unfold VV.sLate
  rw [h, bd_some]
  unfold VV.tmpAt
  rw [ht]
  show (match VV.pathP t ks with | some ys => _ | none => _) = _
  rw [hp]
  dsimp only
  rw [hf, decide_eq_true hl]; rfl
theorem v_kw1 {g : List P → VM P} {e : VEnv → VM P} {env : VEnv} {s s1 s2 : SS} {x y : P} (h : e env s = some (x, s1)) (hg : g [x] s1 = some (y, s2)) : VV.eCallK 0 1 1 [0] g VV.aNil (VV.aCons e VV.aNil) env s = some (y, s2) := by
  unfold VV.eCallK
  rw [s_aNil, bd_some, v_one h, bd_some]
  rw [if_pos ⟨rfl, rfl, rfl⟩]
  exact hg
theorem flats_bef (w : List Nat) : flats (befP w) = true := flats_map _ (fun _ => rfl) _
theorem flats_part (w : List Nat) : flats ((begs w w.length 0).map (partP w)) = true := flats_map _ (fun a => by
  show (flat (fstP w a (stp w a)) && (true && true)) = true
  unfold fstP
  cases (stands85 w a (stp w a)).head? <;> rfl) _
theorem fine_bef {w : List Nat} (hl : w.length ≤ 100000) : fineP (.lst (befP w)) = true := by
  have hl2 : lim = 16777216 := rfl
  show (decide ((befP w).length ≤ lim) && finesP (befP w)) = true
  rw [decide_eq_true (by rw [bef_len]; omega), fines_of]
  · rfl
  · intro v hv
    obtain ⟨a, _, rfl⟩ := List.mem_map.mp hv
    rfl
theorem fine_part {w : List Nat} (hl : w.length ≤ 100000) : fineP (.lst ((begs w w.length 0).map (partP w))) = true := by
  have hl2 : lim = 16777216 := rfl
  show (decide (((begs w w.length 0).map (partP w)).length ≤ lim) && finesP ((begs w w.length 0).map (partP w))) = true
  rw [decide_eq_true (by rw [List.length_map]; have := begs_len w w.length 0; omega), fines_of]
  · rfl
  · intro v hv
    obtain ⟨a, _, rfl⟩ := List.mem_map.mp hv
    show (decide (2 ≤ lim) && (fineP (fstP w a (stp w a)) && (true && true))) = true
    rw [decide_eq_true (by omega)]
    unfold fstP
    cases (stands85 w a (stp w a)).head? <;> rfl
theorem dep_bef (w : List Nat) : depP (.lst (befP w)) ≤ 1 := by
  show depsP (befP w) + 1 ≤ 1
  have := deps_le (k := 0) (vs := befP w) fun v hv => by
    obtain ⟨a, _, rfl⟩ := List.mem_map.mp hv
    exact Nat.le_refl _
  omega
theorem dep_part (w : List Nat) : depP (.lst ((begs w w.length 0).map (partP w))) ≤ 2 := by
  show depsP _ + 1 ≤ 2
  have := deps_le (k := 1) (vs := (begs w w.length 0).map (partP w)) fun v hv => by
    obtain ⟨a, _, rfl⟩ := List.mem_map.mp hv
    show max (depP (fstP w a (stp w a))) (max 0 0) + 1 ≤ 1
    have : depP (fstP w a (stp w a)) = 0 := by
      unfold fstP
      cases (stands85 w a (stp w a)).head? <;> rfl
    omega
  omega
theorem fine_two {a b : P} (ha : fineP a = true) (hb : fineP b = true) : fineP (.lst [a, b]) = true := by
  show (decide (2 ≤ lim) && (fineP a && (fineP b && true))) = true
  rw [ha, hb]; rfl
theorem dep_two {a b : P} {k : Nat} (ha : depP a ≤ k) (hb : depP b ≤ k) : depP (.lst [a, b]) ≤ k + 1 := by
  show max (depP a) (max (depP b) 0) + 1 ≤ k + 1
  omega
theorem mk2 {a b : P} : VV.mkLst [a, b] = some (.lst [a, b]) := rfl
/-- the test that something is not the same, passed -/
theorem not_same {x : P} {env : VEnv} {s : SS} {e1 e2 : VEnv → VM P} (h1 : e1 env s = some (x, s)) (h2 : e2 env s = some (x, s)) (hf : fineP x = true) (hd : depP x < 40) : VV.tNot (VV.tVal (VV.eCall 2 (VV.v__law_same 40) (VV.aCons e1 (VV.aCons e2 VV.aNil)))) env s = some (false, s) :=
  v_tnot (c := true) (v_tval (v_call (v_two h1 h2) rfl (same_ok 40 x s hf hd)))
/-- the drawn word -/
theorem word85 {n i : Nat} {s : SS} {env : VEnv} (g : Good (n + 193) s) (h1 : env[1]? = some (some .strm)) (h2 : env[2]? = some (some (.int (i : Nat)))) : ∃ (w : List Nat) (s' : SS), VV.eCall 3 VV.v__law_word (VV.aCons (VV.eVar 1) (VV.aCons (VV.eIf (VV.tVal (VV.eBin VV.opLt (VV.eVar 2) (VV.eC (.int 8)))) (VV.eCall 2 VV.v__law_pick (VV.aCons (VV.eVar 1) (VV.aCons (VV.eArgs VV.mkLst (VV.aCons (VV.eC (.int 4)) (VV.aCons (VV.eC (.int 12)) (VV.aCons (VV.eC (.int 30)) VV.aNil)))) VV.aNil))) (VV.eC (.int 80))) (VV.aCons (VV.eCall 1 VV.v__law_letters (VV.aCons (VV.eVar 1) VV.aNil)) VV.aNil))) env s = some (.str w, s') ∧
    Letters w ∧ w.length ≤ 80 ∧ Good n s' := by
  have len : ∃ (L : Nat) (s1 : SS), VV.eIf (VV.tVal (VV.eBin VV.opLt (VV.eVar 2) (VV.eC (.int 8)))) (VV.eCall 2 VV.v__law_pick (VV.aCons (VV.eVar 1) (VV.aCons (VV.eArgs VV.mkLst (VV.aCons (VV.eC (.int 4)) (VV.aCons (VV.eC (.int 12)) (VV.aCons (VV.eC (.int 30)) VV.aNil)))) VV.aNil))) (VV.eC (.int 80)) env s = some (.int (L : Nat), s1) ∧ L ≤ 80 ∧ Good (n + 192) s1 := by
    have T : VV.tVal (VV.eBin VV.opLt (VV.eVar 2) (VV.eC (.int 8))) env s = some (decide ((i : Int) < 8), s) := v_tval (v_bin (v_var h2) rfl lt_int)
    by_cases hi : (i : Int) < 8
    · obtain ⟨x, s1, e1, hx, g1⟩ := pick_ok (n := n + 192) (xs := [.int 4, .int 12, .int 30]) g (by decide) (by decide)
      have E : VV.eCall 2 VV.v__law_pick (VV.aCons (VV.eVar 1) (VV.aCons (VV.eArgs VV.mkLst (VV.aCons (VV.eC (.int 4)) (VV.aCons (VV.eC (.int 12)) (VV.aCons (VV.eC (.int 30)) VV.aNil)))) VV.aNil)) env s = some (x, s1) := v_call (v_two (v_var h1) (v_args (xs := [.int 4, .int 12, .int 30]) rfl rfl)) rfl e1
      simp at hx
      rcases hx with rfl | rfl | rfl
      · exact ⟨4, s1, v_if T (fun _ => E) (fun z => by rw [decide_eq_true hi] at z; cases z), by decide, g1⟩
      · exact ⟨12, s1, v_if T (fun _ => E) (fun z => by rw [decide_eq_true hi] at z; cases z), by decide, g1⟩
      · exact ⟨30, s1, v_if T (fun _ => E) (fun z => by rw [decide_eq_true hi] at z; cases z), by decide, g1⟩
    · exact ⟨80, s, v_if T (fun z => by rw [decide_eq_false hi] at z; cases z) (fun _ => rfl), by decide, g.mono (by omega)⟩
  obtain ⟨L, s1, e1, hL, g1⟩ := len
  obtain ⟨ls, s2, e2, l1, l2, l3, _, g2⟩ := letters_ok (n := n + 164) (s := s1) (g1.mono (by omega))
  obtain ⟨w, s3, e3, w1, w2, g3⟩ := word_ok (n := n) (L := L) (ls := ls) (s := s2) (g2.mono (by omega)) l1 (by omega) (by omega)
  exact ⟨w, s3, v_call (v_cons (v_var h1) (v_two e1 (v_call (v_one (v_var h1)) rfl e2))) rfl e3, fun c hc => l3 c (w2 c hc), by omega, g3⟩
/-- the law's own table -/
theorem before85 {w : List Nat} {env : VEnv} {s : SS} (hl : w.length ≤ 100000) (h5 : env[5]? = some (some (.str w))) (hlen : env.length = 17) :
    VV.eLc (VV.srcRange1 (VV.aCons (VV.eArgs VV.fLen (VV.aCons (VV.eVar 5) VV.aNil)) VV.aNil)) (VV.tName 14) [14] VV.tYes (VV.eArgs VV.fMax (VV.aCons (VV.eBin VV.opAdd (VV.eLc (VV.srcRange1 (VV.aCons (VV.eVar 14) VV.aNil)) (VV.tName 16) [16] VV.tYes (VV.eCall 3 VV.v__law_alike_from (VV.aCons (VV.eVar 5) (VV.aCons (VV.eVar 16) (VV.aCons (VV.eVar 14) VV.aNil))))) (VV.eArgs VV.mkLst (VV.aCons (VV.eC (.int 0)) VV.aNil))) VV.aNil)) env s = some (.lst (befP w), s) := by
  have hl2 : lim = 16777216 := rfl
  refine v_lc1 (fun p : Nat => P.int ((p : Nat) : Int)) (fun p => .int ((befN w p : Nat) : Int)) (v_range1 (v_one (v_args (v_one (v_var h5)) (len_str (by omega)))) (by omega)) (by simp; omega) fun p hp => ?_
  have hp := List.mem_range.mp hp
  have g5 : ((VV.wipeE env [14]).set 14 (some (.int (p : Nat))))[5]? = some (some (.str w)) := by
    show ((env.set 14 none).set 14 _)[5]? = _
    rw [List.getElem?_set_ne (by decide), List.getElem?_set_ne (by decide)]; exact h5
  have g14 : ((VV.wipeE env [14]).set 14 (some (.int (p : Nat))))[14]? = some (some (.int (p : Nat))) := by
    show ((env.set 14 none).set 14 _)[14]? = _
    rw [List.getElem?_set_self (by simp; omega)]
  have glen : ((VV.wipeE env [14]).set 14 (some (.int (p : Nat)))).length = 17 := by
    show ((env.set 14 none).set 14 _).length = _
    simp [hlen]
  have inner := v_lc1 (env := (VV.wipeE env [14]).set 14 (some (.int (p : Nat)))) (s1 := s) (s := s) (i := 16) (vs := [16]) (src := VV.srcRange1 (VV.aCons (VV.eVar 14) VV.aNil)) (e := VV.eCall 3 VV.v__law_alike_from (VV.aCons (VV.eVar 5) (VV.aCons (VV.eVar 16) (VV.aCons (VV.eVar 14) VV.aNil)))) (l := List.range p) (fun q : Nat => P.int ((q : Nat) : Int)) (fun q => .int ((alk w q p : Nat) : Int)) (v_range1 (v_one (v_var g14)) (by omega)) (by simp; omega) fun q hq => by
    have k5 : ((VV.wipeE ((VV.wipeE env [14]).set 14 (some (.int (p : Nat)))) [16]).set 16 (some (.int (q : Nat))))[5]? = some (some (.str w)) := by
      show ((((VV.wipeE env [14]).set 14 (some (.int (p : Nat)))).set 16 none).set 16 _)[5]? = _
      rw [List.getElem?_set_ne (by decide), List.getElem?_set_ne (by decide)]; exact g5
    have k14 : ((VV.wipeE ((VV.wipeE env [14]).set 14 (some (.int (p : Nat)))) [16]).set 16 (some (.int (q : Nat))))[14]? = some (some (.int (p : Nat))) := by
      show ((((VV.wipeE env [14]).set 14 (some (.int (p : Nat)))).set 16 none).set 16 _)[14]? = _
      rw [List.getElem?_set_ne (by decide), List.getElem?_set_ne (by decide)]; exact g14
    have k16 : ((VV.wipeE ((VV.wipeE env [14]).set 14 (some (.int (p : Nat)))) [16]).set 16 (some (.int (q : Nat))))[16]? = some (some (.int (q : Nat))) := by
      show ((((VV.wipeE env [14]).set 14 (some (.int (p : Nat)))).set 16 none).set 16 _)[16]? = _
      rw [List.getElem?_set_self (by rw [List.length_set, glen]; decide)]
    exact v_call (v_cons (v_var k5) (v_two (v_var k16) (v_var k14))) rfl (law_alike_ok (by omega))
  refine v_args (v_one (v_bin inner (v_args (f := VV.mkLst) (xs := [.int 0]) rfl rfl) (z := .lst ((List.range p).map (fun q => .int ((alk w q p : Nat) : Int)) ++ [.int 0])) ?_)) (max1 (fun q => alk w q p) p)
  show (if ((List.range p).map (fun q => P.int ((alk w q p : Nat) : Int))).length + [P.int 0].length ≤ lim then some (P.lst _) else none) = _
  rw [if_pos (by simp; omega)]
/-- the law's own parts -/
theorem pairs85 {w : List Nat} {s : SS} {a0 a1 a2 a3 a4 a9 a10 a11 a12 a13 a14 a15 a16 : Option Sl} (hl : w.length ≤ 100000) :
    ∃ b8 b9 b12 b13, VV.sFor false (VV.srcRange1 (VV.aCons (VV.eArgs VV.fLen (VV.aCons (VV.eVar 5) VV.aNil)) VV.aNil)) (VV.tName 9)
      (VV.sIf (VV.tVal (VV.eBin VV.opLt (VV.eVar 8) (VV.eArgs VV.fLen (VV.aCons (VV.eVar 5) VV.aNil))))
      (VV.sSeq (VV.sSet 12 false false (VV.eArgs VV.fMax (VV.aCons (VV.eC (.int 1)) (VV.aCons (VV.eBin VV.opIx (VV.eVar 6) (VV.eVar 8)) VV.aNil))))
      (VV.sSeq (VV.sSet 13 false false (VV.eLc (VV.srcRange1 (VV.aCons (VV.eVar 8) VV.aNil)) (VV.tName 14) [14] (VV.tVal (VV.eBin VV.opEq (VV.eSl (VV.eVar 5) (VV.pSome (VV.eVar 14)) (VV.pSome (VV.eBin VV.opAdd (VV.eVar 14) (VV.eVar 12)))) (VV.eSl (VV.eVar 5) (VV.pSome (VV.eVar 8)) (VV.pSome (VV.eBin VV.opAdd (VV.eVar 8) (VV.eVar 12)))))) (VV.eVar 14)))
      (VV.sSeq (VV.sApp 7 false (VV.eArgs VV.mkTup (VV.aCons (VV.eIf (VV.tVal (VV.eBin VV.opNe (VV.eVar 13) (VV.eArgs VV.mkLst VV.aNil))) (VV.eBin VV.opIx (VV.eVar 13) (VV.eC (.int 0))) (VV.eC .non)) (VV.aCons (VV.eVar 12) VV.aNil))))
      (VV.sSet 8 false false (VV.eBin VV.opAdd (VV.eVar 8) (VV.eVar 12))))))
      VV.sNil) [a0, a1, a2, a3, a4, some (.val (.str w)), some (.val (.lst (befP w))), some (.own []), some (.val (.int 0)), a9, a10, a11, a12, a13, a14, a15, a16] s =
      some (.nx [a0, a1, a2, a3, a4, some (.val (.str w)), some (.val (.lst (befP w))), some (.own ((begs w w.length 0).map (partP w))), b8, b9, a10, a11, b12, b13, a14, a15, a16], s) := by
  have hl2 : lim = 16777216 := rfl
  obtain ⟨env', s', e1, rfl, h, ps, b9, b12, b13, n, rfl, q1, q2, q3, q4⟩ := w_for (env := [a0, a1, a2, a3, a4, some (.val (.str w)), some (.val (.lst (befP w))), some (.own []), some (.val (.int 0)), a9, a10, a11, a12, a13, a14, a15, a16]) (s := s) (s1 := s) (src := VV.srcRange1 (VV.aCons (VV.eArgs VV.fLen (VV.aCons (VV.eVar 5) VV.aNil)) VV.aNil)) (tg := VV.tName 9)
    (b := VV.sIf (VV.tVal (VV.eBin VV.opLt (VV.eVar 8) (VV.eArgs VV.fLen (VV.aCons (VV.eVar 5) VV.aNil))))
      (VV.sSeq (VV.sSet 12 false false (VV.eArgs VV.fMax (VV.aCons (VV.eC (.int 1)) (VV.aCons (VV.eBin VV.opIx (VV.eVar 6) (VV.eVar 8)) VV.aNil))))
      (VV.sSeq (VV.sSet 13 false false (VV.eLc (VV.srcRange1 (VV.aCons (VV.eVar 8) VV.aNil)) (VV.tName 14) [14] (VV.tVal (VV.eBin VV.opEq (VV.eSl (VV.eVar 5) (VV.pSome (VV.eVar 14)) (VV.pSome (VV.eBin VV.opAdd (VV.eVar 14) (VV.eVar 12)))) (VV.eSl (VV.eVar 5) (VV.pSome (VV.eVar 8)) (VV.pSome (VV.eBin VV.opAdd (VV.eVar 8) (VV.eVar 12)))))) (VV.eVar 14)))
      (VV.sSeq (VV.sApp 7 false (VV.eArgs VV.mkTup (VV.aCons (VV.eIf (VV.tVal (VV.eBin VV.opNe (VV.eVar 13) (VV.eArgs VV.mkLst VV.aNil))) (VV.eBin VV.opIx (VV.eVar 13) (VV.eC (.int 0))) (VV.eC .non)) (VV.aCons (VV.eVar 12) VV.aNil))))
      (VV.sSet 8 false false (VV.eBin VV.opAdd (VV.eVar 8) (VV.eVar 12))))))
      VV.sNil)
    (l := List.range w.length) (fun t : Nat => P.int ((t : Nat) : Int))
    (fun i env s' => s' = s ∧ ∃ (h : Nat) (ps : List P) (b9 b12 b13 : Option Sl) (n : Nat), env = [a0, a1, a2, a3, a4, some (.val (.str w)), some (.val (.lst (befP w))), some (.own ps), some (.val (.int (h : Nat))), b9, a10, a11, b12, b13, a14, a15, a16] ∧ w.length ≤ h + n ∧ ps ++ (begs w n h).map (partP w) = (begs w w.length 0).map (partP w) ∧ (i ≤ h ∨ w.length ≤ h) ∧ ps.length ≤ h)
    (v_range1 (v_one (v_args (v_one (v_var (x := .str w) rfl)) (len_str (by omega)))) (by omega)) ⟨rfl, 0, [], a9, a12, a13, w.length, rfl, by omega, rfl, .inl (Nat.le_refl _), Nat.le_refl _⟩ (fun i t env s' hi qq => by
      obtain ⟨rfl, h, ps, b9, b12, b13, n, rfl, q1, q2, q3, q4⟩ := qq
      have T : VV.tVal (VV.eBin VV.opLt (VV.eVar 8) (VV.eArgs VV.fLen (VV.aCons (VV.eVar 5) VV.aNil))) (VV.vis2 [a0, a1, a2, a3, a4, some (.val (.str w)), some (.val (.lst (befP w))), some (.own ps), some (.val (.int (h : Nat))), some (.val (.int (t : Nat))), a10, a11, b12, b13, a14, a15, a16]) s' = some (decide ((h : Int) < (w.length : Nat)), s') := v_tval (v_bin (v_var rfl) (v_args (v_one (v_var (x := .str w) rfl)) (len_str (by omega))) lt_int)
      by_cases hh : h < w.length
      · obtain ⟨m, rfl⟩ : ∃ m, n = m + 1 := ⟨n - 1, by omega⟩
        have hp := stp_pos w h
        have hs : nxt w h = h + stp w h := rfl
        refine ⟨_, [a0, a1, a2, a3, a4, some (.val (.str w)), some (.val (.lst (befP w))), some (.own (ps ++ [partP w h])), some (.val (.int ((nxt w h : Nat) : Int))), some (.val (.int (t : Nat))), a10, a11, some (.val (.int ((stp w h : Nat) : Int))), some (.val (.lst ((stands85 w h (stp w h)).map fun q => .int ((q : Nat) : Int)))), a14, a15, a16], s', rfl, .inl ?_, rfl, nxt w h, _, _, _, _, m, rfl, by omega, ?_, by omega, by simp; omega⟩
        · refine (w_ift (T.trans (by rw [decide_eq_true (by omega)]))).trans ?_
          refine (w_seq (w_set (x := .int ((stp w h : Nat) : Int)) (v_args (v_two rfl (v_bin (v_var (x := .lst (befP w)) rfl) (v_var (x := .int (h : Nat)) rfl) (ix_bef hh))) step_int))).trans ?_
          refine (w_seq (w_set (x := .lst ((stands85 w h (stp w h)).map fun q => .int ((q : Nat) : Int))) (stands_ok hl (by omega) (v_var rfl) fun q => ⟨v_var rfl, v_var rfl, v_bin (v_var (x := .int (q : Nat)) rfl) (v_var (x := .int ((stp w h : Nat) : Int)) rfl) (by rw [add_int]; simp), v_var rfl, v_bin (v_var (x := .int (h : Nat)) rfl) (v_var (x := .int ((stp w h : Nat) : Int)) rfl) (by rw [add_int]; simp)⟩))).trans ?_
          refine (w_seq (w_app (i := 7) (b := false) (env := [a0, a1, a2, a3, a4, some (.val (.str w)), some (.val (.lst (befP w))), some (.own ps), some (.val (.int (h : Nat))), some (.val (.int (t : Nat))), a10, a11, some (.val (.int ((stp w h : Nat) : Int))), some (.val (.lst ((stands85 w h (stp w h)).map fun q => .int ((q : Nat) : Int)))), a14, a15, a16]) (xs := ps) (x := partP w h) (v_args (v_two (first_int (v_var rfl)) (v_var (x := .int ((stp w h : Nat) : Int)) rfl)) rfl) rfl (fun z => nomatch z) (by omega))).trans ?_
          exact w_set (x := .int ((nxt w h : Nat) : Int)) (v_bin (v_var (x := .int (h : Nat)) rfl) (v_var (x := .int ((stp w h : Nat) : Int)) rfl) (by rw [add_int, hs]; simp))
        · rw [← q2, List.append_assoc]
          congr 1
          conv => rhs; unfold begs
          rw [if_pos hh]
          rfl
      · refine ⟨_, [a0, a1, a2, a3, a4, some (.val (.str w)), some (.val (.lst (befP w))), some (.own ps), some (.val (.int (h : Nat))), some (.val (.int (t : Nat))), a10, a11, b12, b13, a14, a15, a16], s', rfl, .inl ?_, rfl, h, ps, _, _, _, n, rfl, q1, q2, .inr (by omega), q4⟩
        exact (w_iff (T.trans (by rw [decide_eq_false (by omega)]))).trans rfl)
  have hz : begs w n h = [] := begs_end (by rw [List.length_range] at q3; omega) n
  rw [hz] at q2
  simp at q2
  rw [q2] at e1
  exact ⟨_, _, _, _, e1⟩
end MM

/-! k85: the law's turns. -/
namespace MM
open PySem PySem.Spec PyProof.Rows L2

/-- a turn's frame -/
def Fm (env : VS) : Prop := env.length = 17 ∧ env[1]? = some (some (.val .strm))
theorem Fm.lit {env : VS} (h : Fm env) : ∃ a0 a2 a3 a4 a5 a6 a7 a8 a9 a10 a11 a12 a13 a14 a15 a16, env = [a0, some (.val .strm), a2, a3, a4, a5, a6, a7, a8, a9, a10, a11, a12, a13, a14, a15, a16] := by
  obtain ⟨h1, h2⟩ := h
  match env, h1, h2 with
  | [a0, a1, a2, a3, a4, a5, a6, a7, a8, a9, a10, a11, a12, a13, a14, a15, a16], _, h2 =>
    have : a1 = some (.val .strm) := by simpa using h2
    subst this
    exact ⟨a0, a2, a3, a4, a5, a6, a7, a8, a9, a10, a11, a12, a13, a14, a15, a16, rfl⟩
/-- the slots that are of no account -/
def cl (o : Option Sl) : Option Sl := match o with
  | some (.tmp _) => none
  | o => o
theorem new85 {w : List Nat} {env : VEnv} {s : SS} (hl : w.length ≤ 100000) (h5 : env[5]? = some (some (.str w))) (hlen : env.length = 17) :
    VV.eLc (VV.srcEnum (VV.aCons (VV.eVar 5) VV.aNil)) (VV.tTup 2 (VV.tsCons (VV.tName 14) (VV.tsCons (VV.tName 15) VV.tsNil))) [14, 15] (VV.tVal (VV.eBin VV.opNotIn (VV.eVar 15) (VV.eSl (VV.eVar 5) VV.pNone (VV.pSome (VV.eVar 14))))) (VV.eVar 15) env s = some (.lst ((newL [] w).map signP), s) := by
  have hl2 : lim = 16777216 := rfl
  have he : VV.srcEnum (VV.aCons (VV.eVar 5) VV.aNil) env s = some ((w.zipIdx 0).map (fun q => P.tup [.int (q.2 : Nat), signP q.1]), s) := by
    rw [v_enumS (w := w) (v_one (v_var h5)), count_enum]
    congr 2
    rw [List.zipIdx_map, List.map_map]
    rfl
  rw [v_lc (vs := [14, 15]) (l := w.zipIdx 0) (fun q => P.tup [.int (q.2 : Nat), signP q.1]) (fun q => !decide (q.1 ∈ w.take q.2)) (fun q => signP q.1) he (by simp; omega) fun q hq => ?_]
  · have := new_list w w 0 (by simp)
    rw [this]; simp
  · refine ⟨[(14, .int (q.2 : Nat)), (15, signP q.1)], rfl, ?_, fun _ => ?_⟩
    · refine v_tval (v_bin (x := .str [q.1]) (v_var ?_) (v_sl (i := none) (j := some ((q.2 : Nat) : Int)) (y := .str (w.take q.2)) (v_var (x := .str w) ?_) rfl (v_some (v_var ?_)) ?_) notin_str)
      · show ((((env.set 15 none).set 14 none).set 14 _).set 15 _)[15]? = _
        rw [List.getElem?_set_self (by simp [hlen])]; rfl
      · show ((((env.set 15 none).set 14 none).set 14 _).set 15 _)[5]? = _
        rw [List.getElem?_set_ne (by decide), List.getElem?_set_ne (by decide), List.getElem?_set_ne (by decide), List.getElem?_set_ne (by decide)]; exact h5
      · show ((((env.set 15 none).set 14 none).set 14 _).set 15 _)[14]? = _
        rw [List.getElem?_set_ne (by decide), List.getElem?_set_self (by simp [hlen])]
      · rw [sl_str (by omega), cut_to]
    · refine v_var ?_
      show ((((env.set 15 none).set 14 none).set 14 _).set 15 _)[15]? = _
      rw [List.getElem?_set_self (by simp [hlen])]
/-- what stands of the law's body -/
def turn85 : VSM := VV.sSeq (VV.sSet 5 false false (VV.eCall 3 (VV.v__law_word) (VV.aCons (VV.eVar 1) (VV.aCons (VV.eIf (VV.tVal (VV.eBin VV.opLt (VV.eVar 2) (VV.eC (.int 8)))) (VV.eCall 2 (VV.v__law_pick) (VV.aCons (VV.eVar 1) (VV.aCons (VV.eArgs VV.mkLst (VV.aCons (VV.eC (.int 4)) (VV.aCons (VV.eC (.int 12)) (VV.aCons (VV.eC (.int 30)) (VV.aNil))))) (VV.aNil)))) (VV.eC (.int 80))) (VV.aCons (VV.eCall 1 (VV.v__law_letters) (VV.aCons (VV.eVar 1) (VV.aNil))) (VV.aNil))))))
  (VV.sSeq (VV.sSet 6 false false (VV.eLc (VV.srcRange1 (VV.aCons (VV.eArgs VV.fLen (VV.aCons (VV.eVar 5) (VV.aNil))) (VV.aNil))) (VV.tName 14) [14] (VV.tYes) (VV.eArgs VV.fMax (VV.aCons (VV.eBin VV.opAdd (VV.eLc (VV.srcRange1 (VV.aCons (VV.eVar 14) (VV.aNil))) (VV.tName 16) [16] (VV.tYes) (VV.eCall 3 (VV.v__law_alike_from) (VV.aCons (VV.eVar 5) (VV.aCons (VV.eVar 16) (VV.aCons (VV.eVar 14) (VV.aNil)))))) (VV.eArgs VV.mkLst (VV.aCons (VV.eC (.int 0)) (VV.aNil)))) (VV.aNil)))))
  (VV.sSeq (VV.sTmp 3 (VV.aCons (VV.eCall 1 (VV.v_longest_before) (VV.aCons (VV.eVar 5) (VV.aNil))) (VV.aCons (VV.eCallK 0 1 1 [0] (VV.v_longest_before) VV.aNil (VV.aCons (VV.eVar 5) (VV.aNil))) (VV.aNil))))
  (VV.sSeq (VV.sIf (VV.tNot (VV.tVal (VV.eCall 2 (VV.v__law_same 40) (VV.aCons (VV.eVar 3) (VV.aCons (VV.eArgs VV.mkLst (VV.aCons (VV.eVar 6) (VV.aCons (VV.eVar 6) (VV.aNil)))) (VV.aNil))))))
  (VV.sRet (VV.eC (.bl false)))
  (VV.sNil))
  (VV.sSeq (VV.sLate 3 [0] (VV.eC (.str [108, 97, 116, 101])))
  (VV.sSeq (VV.sPar 7 8 true false (VV.eArgs VV.mkLst (VV.aNil)) false false (VV.eC (.int 0)))
  (VV.sSeq (VV.sFor false (VV.srcRange1 (VV.aCons (VV.eArgs VV.fLen (VV.aCons (VV.eVar 5) (VV.aNil))) (VV.aNil))) (VV.tName 9)
  (VV.sIf (VV.tVal (VV.eBin VV.opLt (VV.eVar 8) (VV.eArgs VV.fLen (VV.aCons (VV.eVar 5) (VV.aNil)))))
  (VV.sSeq (VV.sSet 12 false false (VV.eArgs VV.fMax (VV.aCons (VV.eC (.int 1)) (VV.aCons (VV.eBin VV.opIx (VV.eVar 6) (VV.eVar 8)) (VV.aNil)))))
  (VV.sSeq (VV.sSet 13 false false (VV.eLc (VV.srcRange1 (VV.aCons (VV.eVar 8) (VV.aNil))) (VV.tName 14) [14] (VV.tVal (VV.eBin VV.opEq (VV.eSl (VV.eVar 5) (VV.pSome (VV.eVar 14)) (VV.pSome (VV.eBin VV.opAdd (VV.eVar 14) (VV.eVar 12)))) (VV.eSl (VV.eVar 5) (VV.pSome (VV.eVar 8)) (VV.pSome (VV.eBin VV.opAdd (VV.eVar 8) (VV.eVar 12)))))) (VV.eVar 14)))
  (VV.sSeq (VV.sApp 7 false (VV.eArgs VV.mkTup (VV.aCons (VV.eIf (VV.tVal (VV.eBin VV.opNe (VV.eVar 13) (VV.eArgs VV.mkLst (VV.aNil)))) (VV.eBin VV.opIx (VV.eVar 13) (VV.eC (.int 0))) (VV.eC .non)) (VV.aCons (VV.eVar 12) (VV.aNil)))))
  (VV.sSet 8 false false (VV.eBin VV.opAdd (VV.eVar 8) (VV.eVar 12))))))
  (VV.sNil)))
  (VV.sSeq (VV.sTmp 10 (VV.aCons (VV.eCall 1 (VV.v_parted_by) (VV.aCons (VV.eVar 5) (VV.aNil))) (VV.aCons (VV.eCallK 0 1 1 [0] (VV.v_parted_by) VV.aNil (VV.aCons (VV.eVar 5) (VV.aNil))) (VV.aNil))))
  (VV.sSeq (VV.sIf (VV.tNot (VV.tVal (VV.eCall 2 (VV.v__law_same 40) (VV.aCons (VV.eVar 10) (VV.aCons (VV.eArgs VV.mkLst (VV.aCons (VV.eVar 7) (VV.aCons (VV.eVar 7) (VV.aNil)))) (VV.aNil))))))
  (VV.sRet (VV.eC (.bl false)))
  (VV.sNil))
  (VV.sSeq (VV.sLate 10 [0] (VV.eC (.str [108, 97, 116, 101])))
  (VV.sSeq (VV.sIf (VV.tNot (VV.tVal (VV.eCall 2 (VV.v__law_same 40) (VV.aCons (VV.eArgs VV.mkLst (VV.aCons (VV.eCall 1 (VV.v_parted_by) (VV.aCons (VV.eVar 5) (VV.aNil))) (VV.aCons (VV.eCall 1 (VV.v_longest_before) (VV.aCons (VV.eVar 5) (VV.aNil))) (VV.aNil)))) (VV.aCons (VV.eArgs VV.mkLst (VV.aCons (VV.eVar 7) (VV.aCons (VV.eVar 6) (VV.aNil)))) (VV.aNil))))))
  (VV.sRet (VV.eC (.bl false)))
  (VV.sNil))
  (VV.sSeq (VV.sSet 11 false false (VV.eLc (VV.srcEnum (VV.aCons (VV.eVar 5) (VV.aNil))) (VV.tTup 2 (VV.tsCons (VV.tName 14) (VV.tsCons (VV.tName 15) (VV.tsNil)))) [14, 15] (VV.tVal (VV.eBin VV.opNotIn (VV.eVar 15) (VV.eSl (VV.eVar 5) (VV.pNone) (VV.pSome (VV.eVar 14))))) (VV.eVar 15)))
  (VV.sIf (VV.tOr (VV.tVal (VV.eBin VV.opNe (VV.eCall 2 (VV.v__law_written) (VV.aCons (VV.eVar 7) (VV.aCons (VV.eVar 11) (VV.aNil)))) (VV.eVar 5))) (VV.tNot (VV.tVal (VV.eCall 2 (VV.v__law_same 40) (VV.aCons (VV.eCall 1 (VV.v_fewest_parts) (VV.aCons (VV.eVar 5) (VV.aNil))) (VV.aCons (VV.eArgs VV.fLen (VV.aCons (VV.eVar 7) (VV.aNil))) (VV.aNil)))))))
  (VV.sRet (VV.eC (.bl false)))
  (VV.sNil)))))))))))))
theorem turn_ok {n i : Nat} {env : VS} {s : SS} (hf : Fm env) (h2 : env[2]? = some (some (.val (.int (i : Nat))))) (g : Good (n + 193) s) : Nx turn85 env s fun env' s' => Fm env' ∧ Good n s' := by
  have hl2 : lim = 16777216 := rfl
  obtain ⟨a0, a2, a3, a4, a5, a6, a7, a8, a9, a10, a11, a12, a13, a14, a15, a16, rfl⟩ := hf.lit
  have h2 : a2 = some (.val (.int (i : Nat))) := by simpa using h2
  subst h2
  obtain ⟨w, s1, e1, hw, wl, g1⟩ := word85 (i := i) (env := VV.vis1 [a0, some (.val .strm), some (.val (.int (i : Nat))), a3, a4, a5, a6, a7, a8, a9, a10, a11, a12, a13, a14, a15, a16]) g rfl rfl
  have hl : w.length ≤ 100000 := by omega
  have bl : (befP w).length ≤ 80 := by rw [bef_len]; omega
  have pl : ((begs w w.length 0).map (partP w)).length ≤ 80 := by rw [List.length_map]; have := begs_len w w.length 0; omega
  unfold turn85
  refine Nx.seq (w_set e1) ?_
  refine Nx.seq (w_set (before85 hl rfl rfl)) ?_
  refine Nx.seq (w_tmp (xs := [.lst (befP w), .lst (befP w)]) (v_two (v_call (v_one (v_var (x := .str w) rfl)) rfl (longest_ok hw hl)) (v_kw1 (v_var (x := .str w) rfl) (longest_ok hw hl))) (by show (flats (befP w) && (flats (befP w) && true)) = true; rw [flats_bef]; rfl) (show 2 ≤ lim by omega)) ?_
  refine Nx.seq (pass_if (not_same (x := .lst [.lst (befP w), .lst (befP w)]) (v_var rfl) (v_args (v_two (v_var rfl) (v_var rfl)) mk2) (fine_two (fine_bef hl) (fine_bef hl)) (by have := dep_two (dep_bef w) (dep_bef w); omega))) ?_
  refine Nx.seq (w_late (t := .lst [.lst (befP w), .lst (befP w)]) (ys := befP w) (x := .str [108, 97, 116, 101]) rfl rfl rfl rfl (by omega)) ?_
  refine Nx.seq (env1 := [cl a0, some (.val .strm), some (.val (.int (i : Nat))), none, cl a4, some (.val (.str w)), some (.val (.lst (befP w))), some (.own []), some (.val (.int 0)), cl a9, cl a10, cl a11, cl a12, cl a13, cl a14, cl a15, cl a16]) (w_parO (xs := []) rfl rfl rfl) ?_
  obtain ⟨b8, b9, b12, b13, e7⟩ := pairs85 (s := s1) (a0 := cl a0) (a1 := some (.val .strm)) (a2 := some (.val (.int (i : Nat)))) (a3 := none) (a4 := cl a4) (a9 := cl a9) (a10 := cl a10) (a11 := cl a11) (a12 := cl a12) (a13 := cl a13) (a14 := cl a14) (a15 := cl a15) (a16 := cl a16) hl
  refine Nx.seq e7 ?_
  refine Nx.seq (w_tmp (xs := [.lst ((begs w w.length 0).map (partP w)), .lst ((begs w w.length 0).map (partP w))]) (v_two (v_call (v_one (v_var (x := .str w) rfl)) rfl (parted_ok hw hl)) (v_kw1 (v_var (x := .str w) rfl) (parted_ok hw hl))) (by show (flats ((begs w w.length 0).map (partP w)) && (flats ((begs w w.length 0).map (partP w)) && true)) = true; rw [flats_part]; rfl) (show 2 ≤ lim by omega)) ?_
  refine Nx.seq (pass_if (not_same (x := .lst [.lst ((begs w w.length 0).map (partP w)), .lst ((begs w w.length 0).map (partP w))]) (v_var rfl) (v_args (v_two (v_var rfl) (v_var rfl)) mk2) (fine_two (fine_part hl) (fine_part hl)) (by have := dep_two (dep_part w) (dep_part w); omega))) ?_
  refine Nx.seq (w_late (t := .lst [.lst ((begs w w.length 0).map (partP w)), .lst ((begs w w.length 0).map (partP w))]) (ys := (begs w w.length 0).map (partP w)) (x := .str [108, 97, 116, 101]) rfl rfl rfl rfl (by omega)) ?_
  refine Nx.seq (pass_if (not_same (x := .lst [.lst ((begs w w.length 0).map (partP w)), .lst (befP w)]) (v_args (v_two (v_call (v_one (v_var (x := .str w) rfl)) rfl (parted_ok hw hl)) (v_call (v_one (v_var (x := .str w) rfl)) rfl (longest_ok hw hl))) mk2) (v_args (v_two (v_var rfl) (v_var rfl)) mk2) (fine_two (fine_part hl) (fine_bef hl)) (by have := dep_two (dep_part w) (Nat.le_trans (dep_bef w) (by omega : 1 ≤ 2)); omega))) ?_
  refine Nx.seq (w_set (new85 hl rfl rfl)) ?_
  refine Nx.of (pass_if (s1 := s1) ?_) ⟨⟨rfl, rfl⟩, g1⟩
  have t1 : ∀ {env : VEnv}, env[5]? = some (some (.str w)) → env[7]? = some (some (.lst ((begs w w.length 0).map (partP w)))) → env[11]? = some (some (.lst ((newL [] w).map signP))) →
      VV.tOr (VV.tVal (VV.eBin VV.opNe (VV.eCall 2 (VV.v__law_written) (VV.aCons (VV.eVar 7) (VV.aCons (VV.eVar 11) (VV.aNil)))) (VV.eVar 5))) (VV.tNot (VV.tVal (VV.eCall 2 (VV.v__law_same 40) (VV.aCons (VV.eCall 1 (VV.v_fewest_parts) (VV.aCons (VV.eVar 5) (VV.aNil))) (VV.aCons (VV.eArgs VV.fLen (VV.aCons (VV.eVar 7) (VV.aNil))) (VV.aNil)))))) env s1 = some (false, s1) := by
    intro env k5 k7 k11
    have u1 : VV.tVal (VV.eBin VV.opNe (VV.eCall 2 (VV.v__law_written) (VV.aCons (VV.eVar 7) (VV.aCons (VV.eVar 11) (VV.aNil)))) (VV.eVar 5)) env s1 = some (!decide (w = w), s1) := v_tval (v_bin (v_call (v_two (v_var k7) (v_var k11)) rfl (written_ok hl)) (v_var k5) ne_str)
    have u2 : VV.tNot (VV.tVal (VV.eCall 2 (VV.v__law_same 40) (VV.aCons (VV.eCall 1 (VV.v_fewest_parts) (VV.aCons (VV.eVar 5) (VV.aNil))) (VV.aCons (VV.eArgs VV.fLen (VV.aCons (VV.eVar 7) (VV.aNil))) (VV.aNil))))) env s1 = some (false, s1) :=
      not_same (x := .int ((begs w w.length 0).length : Nat)) (v_call (v_one (v_var k5)) rfl (fewest_ok hw hl)) (v_args (v_one (v_var k7)) (by rw [len_lst]; simp)) rfl (by show (0 : Nat) < 40; decide)
    have := v_tor u1 (fun _ => u2)
    rw [this]
    simp
  exact t1 rfl rfl rfl
theorem Good.start {n : Nat} {ns : List Int} (h : ns.length ≤ 63) (hn : n ≤ 2 ^ 40) : Good n (some ⟨ns, 0, 0, 19⟩) := ⟨⟨_, rfl, by show ns.length ≤ 1000; omega, Int.le_refl _, by show (0 : Int) + n ≤ 2 ^ 40; omega, by show (0 : Int) ≤ 19; decide, by show (19 : Int) < 2147483629; decide, Int.le_refl _⟩⟩
def wA : List Nat := [97, 98, 97, 98, 97, 98, 97, 98]
def wB : List Nat := [97, 98, 97, 97, 98]
def wC : List Nat := [97, 97, 97, 97]
theorem ex1 : (begs wA wA.length 0).map (partP wA) = [.tup [.non, .int 1], .tup [.non, .int 1], .tup [.int 0, .int 6]] := by rfl
theorem ex2 : befP wB = [.int 0, .int 0, .int 1, .int 2, .int 1] := by rfl
theorem ex3 : (begs [] ([] : List Nat).length 0).map (partP []) = [] := by rfl
theorem ex4 : (begs wC wC.length 0).map (partP wC) = [.tup [.non, .int 1], .tup [.int 0, .int 3]] := by rfl
def due85 : P := .lst [.lst [.tup [.non, .int 1], .tup [.non, .int 1], .tup [.int 0, .int 6]], .lst [.int 0, .int 0, .int 1, .int 2, .int 1], .lst [], .lst [.tup [.non, .int 1], .tup [.int 0, .int 3]]]
theorem law_runs {ns : List Int} (h : ns.length ≤ 63) : ∃ s', VV.v_law (initV 17 1) (some ⟨ns, 0, 0, 19⟩) = some (.ret (.bl true), s') := by
  have hl2 : lim = 16777216 := rfl
  obtain ⟨env1, s1, e1, f1, g1⟩ := w_for (env := initV 17 1) (s := some ⟨ns, 0, 0, 19⟩) (s1 := some ⟨ns, 0, 0, 19⟩) (src := VV.srcRange1 (VV.aCons (VV.eC (.int 9)) VV.aNil)) (tg := VV.tName 2) (b := turn85) (l := List.range 9) (fun i : Nat => P.int ((i : Nat) : Int)) (fun i env s => Fm env ∧ Good (193 * (9 - i)) s)
    (v_range1 (n := 9) rfl (by omega)) ⟨⟨rfl, rfl⟩, Good.start h (by decide)⟩ (fun i a env s hi q => by
      have il := lt_of_get hi
      rw [List.length_range] at il
      obtain ⟨f, g⟩ := q
      have f' : Fm (env.set 2 (some (.val (.int (a : Nat))))) := ⟨by rw [List.length_set]; exact f.1, by rw [List.getElem?_set_ne (by decide)]; exact f.2⟩
      obtain ⟨env', s', e, q1, q2⟩ := turn_ok (n := 193 * (9 - (i + 1))) (i := a) f' (List.getElem?_set_self (by rw [f.1]; decide)) (g.mono (by omega))
      exact ⟨[(2, .int (a : Nat))], env', s', rfl, .inl e, q1, q2⟩)
  obtain ⟨a0, a2, a3, a4, a5, a6, a7, a8, a9, a10, a11, a12, a13, a14, a15, a16, rfl⟩ := f1.lit
  have LA : Letters wA := by unfold Letters; decide
  have LB : Letters wB := by unfold Letters; decide
  have LC : Letters wC := by unfold Letters; decide
  have p1 := parted_ok (s := s1) LA (by decide)
  have p2 := longest_ok (s := s1) LB (by decide)
  have p3 := parted_ok (s := s1) (w := []) (fun _ z => nomatch z) (by decide)
  have p4 := parted_ok (s := s1) LC (by decide)
  rw [ex1] at p1
  rw [ex2] at p2
  rw [ex3] at p3
  rw [ex4] at p4
  refine ⟨s1, (w_seq e1).trans ?_⟩
  refine (w_seq (w_tmp (xs := [.lst [.tup [.non, .int 1], .tup [.non, .int 1], .tup [.int 0, .int 6]], .lst [.int 0, .int 0, .int 1, .int 2, .int 1], .lst [], .lst [.tup [.non, .int 1], .tup [.int 0, .int 3]]]) (v_cons (v_call (v_one rfl) rfl p1) (v_cons (v_call (v_one rfl) rfl p2) (v_two (v_call (v_one rfl) rfl p3) (v_call (v_one rfl) rfl p4)))) rfl (show 4 ≤ lim by omega))).trans ?_
  refine (w_seq (w_set (x := due85) rfl)).trans ?_
  exact w_ret (v_call (v_two (v_var (x := due85) rfl) (v_var (x := due85) rfl)) rfl (same_ok 40 due85 s1 rfl (by decide)))
theorem law_true : ∀ ns : List Int, ns.length ≤ 63 → (∀ z ∈ ns, Builtin.Int.intBits z ≤ 1048576) → ∃ st', m_law [.scr ns] [] = .ok (.bl true) st' := fun ns h _ => by
  obtain ⟨s', e⟩ := law_runs h
  exact law_of vs_law (k := 1) (N := 17) (by decide) e
end MM

namespace MM
open PySem PySem.Spec PyProof.Rows L2
def topS (i : Nat) : Stmt := PySem.Challenge.pw_againwords_k85_whole_where_parts_come_fr.main.body.getD i (.Pass ⟨0, 0, 0, 0⟩)
abbrev s_is_word_of : Stmt := topS 5
abbrev s_check_word : Stmt := topS 6
abbrev s_alike_from : Stmt := topS 8
abbrev s_before_of : Stmt := topS 10
abbrev s_ends_of : Stmt := topS 11
abbrev s_fewest_parts : Stmt := topS 12
abbrev s_longest_before : Stmt := topS 13
abbrev s_parted_by : Stmt := topS 14
abbrev s__law_stream : Stmt := topS 16
abbrev s__law_draw : Stmt := topS 17
abbrev s__law_pick : Stmt := topS 18
abbrev s__law_mixed : Stmt := topS 19
abbrev s__law_same : Stmt := topS 20
abbrev s__law_word : Stmt := topS 21
abbrev s__law_letters : Stmt := topS 22
abbrev s__law_alike_from : Stmt := topS 23
abbrev s__law_written : Stmt := topS 24
abbrev s_law : Stmt := topS 25
/-- what stands behind the top -/
structure Facts (K : PySem.W.Frag) (mg : PySem.Str → Option Value) : Prop where
  f_abs : mg "abs" = none
  f_all : mg "all" = none
  f_bool : mg "bool" = none
  f_dict : mg "dict" = none
  f_enumerate : mg "enumerate" = none
  f_int : mg "int" = none
  f_isinstance : mg "isinstance" = none
  f_len : mg "len" = none
  f_list : mg "list" = none
  f_max : mg "max" = none
  f_range : mg "range" = none
  f_str : mg "str" = none
  f_tuple : mg "tuple" = none
  f_zip : mg "zip" = none
  s_LETTERS : ∃ t, mg "LETTERS" = some (.str "abcdefghijklmnopqrstuvwxyz" t)
  d_is_word_of : ∃ f fd, FnP K "is_word_of" s_is_word_of f fd ∧ mg "is_word_of" = some (.ref f)
  d_check_word : ∃ f fd, FnP K "check_word" s_check_word f fd ∧ mg "check_word" = some (.ref f)
  d_alike_from : ∃ f fd, FnP K "alike_from" s_alike_from f fd ∧ mg "alike_from" = some (.ref f)
  d_before_of : ∃ f fd, FnP K "before_of" s_before_of f fd ∧ mg "before_of" = some (.ref f)
  d_ends_of : ∃ f fd, FnP K "ends_of" s_ends_of f fd ∧ mg "ends_of" = some (.ref f)
  d_fewest_parts : ∃ f fd, FnP K "fewest_parts" s_fewest_parts f fd ∧ mg "fewest_parts" = some (.ref f)
  d_longest_before : ∃ f fd, FnP K "longest_before" s_longest_before f fd ∧ mg "longest_before" = some (.ref f)
  d_parted_by : ∃ f fd, FnP K "parted_by" s_parted_by f fd ∧ mg "parted_by" = some (.ref f)
  d__law_stream : ∃ f fd, FnP K "_law_stream" s__law_stream f fd ∧ mg "_law_stream" = some (.ref f)
  d__law_draw : ∃ f fd, FnP K "_law_draw" s__law_draw f fd ∧ mg "_law_draw" = some (.ref f)
  d__law_pick : ∃ f fd, FnP K "_law_pick" s__law_pick f fd ∧ mg "_law_pick" = some (.ref f)
  d__law_mixed : ∃ f fd, FnP K "_law_mixed" s__law_mixed f fd ∧ mg "_law_mixed" = some (.ref f)
  d__law_same : ∃ f fd, FnP K "_law_same" s__law_same f fd ∧ mg "_law_same" = some (.ref f)
  d__law_word : ∃ f fd, FnP K "_law_word" s__law_word f fd ∧ mg "_law_word" = some (.ref f)
  d__law_letters : ∃ f fd, FnP K "_law_letters" s__law_letters f fd ∧ mg "_law_letters" = some (.ref f)
  d__law_alike_from : ∃ f fd, FnP K "_law_alike_from" s__law_alike_from f fd ∧ mg "_law_alike_from" = some (.ref f)
  d__law_written : ∃ f fd, FnP K "_law_written" s__law_written f fd ∧ mg "_law_written" = some (.ref f)
  d_law : ∃ f fd, FnP K "law" s_law f fd ∧ mg "law" = some (.ref f)
section
variable {P : Program} {w : World} {K : PySem.W.Frag} {mg : PySem.Str → Option Value} {base : Heap}
theorem sc_is_word_of : FnScope ["thing", "letter"] ["thing"] (defScope s_is_word_of) := ⟨rfl, rfl, rfl, by decide +kernel, rfl, by decide +kernel, by decide +kernel⟩
theorem b_is_word_of : BindsH "is_word_of" s_is_word_of ["thing"] := fun _ _ _ _ _ _ us hl => match us, hl with | [_], _ => rfl
theorem ok_is_word_of (T : Facts K mg) : DefOk P w K mg base (gW K) "is_word_of" s_is_word_of ["thing"] 1 m_is_word_of := by
  obtain ⟨f, fd, F, hm⟩ := T.d_is_word_of
  exact def_ok F hm sc_is_word_of fun cdv A outer s H E hr tk pw => by
    have hu := hr.units
    have hu1 := hu65 hr
    exact r_last (r_ret (r_and (r_callB c_isi T.f_isinstance rfl PyProof.Rows.boot_isinstance (r_acons (r_var (i := 0)) (r_acons (r_ty T.f_str PyProof.Rows.boot_str) (r_anil)))) (r_one (r_callB (c_all rfl) T.f_all rfl PyProof.Rows.boot_all (r_acons (r_lc (own := [("letter", 1)]) rfl sc_is_word_of.nd (r_iseq (r_var (i := 0))) (blkOk_by (by kernel_rfl)) (fun _ _ _ _ _ => r_cname (i := 1) (vs := [1]) sc_is_word_of.nd) (fun _ _ _ _ _ => r_yes) (fun _ _ _ _ _ => r_cmp (o_in hu1) (r_var (i := 1)) (r_gstr T.s_LETTERS) (rfl))) (r_anil))))))
theorem sc_check_word : FnScope ["word"] ["word"] (defScope s_check_word) := ⟨rfl, rfl, rfl, by decide +kernel, rfl, by decide +kernel, by decide +kernel⟩
theorem b_check_word : BindsH "check_word" s_check_word ["word"] := fun _ _ _ _ _ _ us hl => match us, hl with | [_], _ => rfl
theorem ok_check_word (T : Facts K mg) : DefOk P w K mg base (gW K) "check_word" s_check_word ["word"] 2 m_check_word := by
  obtain ⟨f, fd, F, hm⟩ := T.d_check_word
  exact def_ok F hm sc_check_word fun cdv A outer s H E hr tk pw => by
    have hu := hr.units
    have hu1 := hu65 hr
    exact r_last (r_ifs (r_tnot (r_tval (r_call (ok_is_word_of T) (hr.mono (by decide)) tk rfl b_is_word_of rfl (r_acons (r_var (i := 0)) (r_anil)))))
      (r_last (r_sbad))
      (r_nil))
theorem sc_alike_from : FnScope ["word", "one", "other", "many"] ["word", "one", "other"] (defScope s_alike_from) := ⟨rfl, rfl, rfl, by decide +kernel, rfl, by decide +kernel, by decide +kernel⟩
theorem b_alike_from : BindsH "alike_from" s_alike_from ["word", "one", "other"] := fun _ _ _ _ _ _ us hl => match us, hl with | [_, _, _], _ => rfl
theorem ok_alike_from (T : Facts K mg) : DefOk P w K mg base (gW K) "alike_from" s_alike_from ["word", "one", "other"] 1 m_alike_from := by
  obtain ⟨f, fd, F, hm⟩ := T.d_alike_from
  exact def_ok F hm sc_alike_from fun cdv A outer s H E hr tk pw => by
    have hu := hr.units
    have hu1 := hu65 hr
    exact r_cons (r_set (i := 3) sc_alike_from.nd (r_int))
      (r_cons (r_while pw (PW.pt (r_tand (r_tcmp o_lt (r_bin o_add (r_callB (c_max rfl) T.f_max rfl PyProof.Rows.boot_max (r_acons (r_var (i := 1)) (r_acons (r_var (i := 2)) (r_anil)))) (r_var (i := 3))) (r_callB c_len T.f_len rfl PySem.boot_len (r_acons (r_var (i := 0)) (r_anil))) (nomark _)) (r_tand1 (r_tcmp (o_eq hu) (r_ix (r_var (i := 0)) (r_bin o_add (r_var (i := 1)) (r_var (i := 3)))) (r_ix (r_var (i := 0)) (r_bin o_add (r_var (i := 2)) (r_var (i := 3)))) (nomark _)))))
      (r_last (r_set (i := 3) sc_alike_from.nd (r_bin o_add (r_var (i := 3)) (r_int)))))
      (r_last (r_ret (r_var (i := 3)))))
theorem sc_before_of : FnScope ["word", "place", "earlier"] ["word"] (defScope s_before_of) := ⟨rfl, rfl, rfl, by decide +kernel, rfl, by decide +kernel, by decide +kernel⟩
theorem b_before_of : BindsH "before_of" s_before_of ["word"] := fun _ _ _ _ _ _ us hl => match us, hl with | [_], _ => rfl
theorem ok_before_of (T : Facts K mg) : DefOk P w K mg base (gW K) "before_of" s_before_of ["word"] 2 m_before_of := by
  obtain ⟨f, fd, F, hm⟩ := T.d_before_of
  exact def_ok F hm sc_before_of fun cdv A outer s H E hr tk pw => by
    have hu := hr.units
    have hu1 := hu65 hr
    exact r_last (r_ret (r_lc (own := [("place", 1)]) rfl sc_before_of.nd (r_irange1 T.f_range rfl (r_acons (r_callB c_len T.f_len rfl PySem.boot_len (r_acons (r_var (i := 0)) (r_anil))) (r_anil))) (blkOk_by (by kernel_rfl)) (fun _ _ _ _ _ => r_cname (i := 1) (vs := [1]) sc_before_of.nd) (fun _ _ _ _ _ => r_yes) (fun _ _ _ _ _ => r_callB (c_max rfl) T.f_max rfl PyProof.Rows.boot_max (r_acons (r_lst (r_acons (r_int) (r_astar (r_lc (own := [("earlier", 2)]) rfl sc_before_of.nd (r_irange1 T.f_range rfl (r_acons (r_var (i := 1)) (r_anil))) (blkOk_by (by kernel_rfl)) (fun _ _ _ _ _ => r_cname (i := 2) (vs := [2]) sc_before_of.nd) (fun _ _ _ _ _ => r_yes) (fun _ _ _ _ _ => r_call (ok_alike_from T) (hr.mono (by decide)) tkF rfl b_alike_from rfl (r_acons (r_var (i := 0)) (r_acons (r_var (i := 2)) (r_acons (r_var (i := 1)) (r_anil)))))) (r_anil)))) (r_anil)))))
theorem sc_ends_of : FnScope ["before", "found", "here"] ["before"] (defScope s_ends_of) := ⟨rfl, rfl, rfl, by decide +kernel, rfl, by decide +kernel, by decide +kernel⟩
theorem b_ends_of : BindsH "ends_of" s_ends_of ["before"] := fun _ _ _ _ _ _ us hl => match us, hl with | [_], _ => rfl
theorem ok_ends_of (T : Facts K mg) : DefOk P w K mg base (gW K) "ends_of" s_ends_of ["before"] 1 m_ends_of := by
  obtain ⟨f, fd, F, hm⟩ := T.d_ends_of
  exact def_ok F hm sc_ends_of fun cdv A outer s H E hr tk pw => by
    have hu := hr.units
    have hu1 := hu65 hr
    exact r_cons (r_par (i := 1) (j := 2) rfl sc_ends_of.nd (r_acons (r_lst (r_anil)) (r_acons (r_int) (r_anil))))
      (r_cons (r_while pw (r_tcmp o_lt (r_var (i := 2)) (r_callB c_len T.f_len rfl PySem.boot_len (r_acons (r_var (i := 0)) (r_anil))) (nomark _))
      (r_cons (r_set (i := 2) sc_ends_of.nd (r_bin o_add (r_var (i := 2)) (r_callB (c_max rfl) T.f_max rfl PyProof.Rows.boot_max (r_acons (r_int) (r_acons (r_ix (r_var (i := 0)) (r_var (i := 2))) (r_anil))))))
      (r_last (r_expr (r_bm PySem.F.plainAttrs_list PySem.F.slot_list_append PySem.F.type_list_append m_append (r_var (i := 1)) (r_acons (r_var (i := 2)) (r_anil)))))))
      (r_last (r_ret (r_var (i := 1)))))
theorem sc_fewest_parts : FnScope ["word"] ["word"] (defScope s_fewest_parts) := ⟨rfl, rfl, rfl, by decide +kernel, rfl, by decide +kernel, by decide +kernel⟩
theorem b_fewest_parts : BindsH "fewest_parts" s_fewest_parts ["word"] := fun _ _ _ _ _ _ us hl => match us, hl with | [_], _ => rfl
theorem ok_fewest_parts (T : Facts K mg) : DefOk P w K mg base (gW K) "fewest_parts" s_fewest_parts ["word"] 3 m_fewest_parts := by
  obtain ⟨f, fd, F, hm⟩ := T.d_fewest_parts
  exact def_ok F hm sc_fewest_parts fun cdv A outer s H E hr tk pw => by
    have hu := hr.units
    have hu1 := hu65 hr
    exact r_cons (r_expr (r_call (ok_check_word T) (hr.mono (by decide)) tk rfl b_check_word rfl (r_acons (r_var (i := 0)) (r_anil))))
      (r_last (r_ret (r_callB c_len T.f_len rfl PySem.boot_len (r_acons (r_call (ok_ends_of T) (hr.mono (by decide)) tk rfl b_ends_of rfl (r_acons (r_call (ok_before_of T) (hr.mono (by decide)) tk rfl b_before_of rfl (r_acons (r_var (i := 0)) (r_anil))) (r_anil))) (r_anil)))))
theorem sc_longest_before : FnScope ["word"] ["word"] (defScope s_longest_before) := ⟨rfl, rfl, rfl, by decide +kernel, rfl, by decide +kernel, by decide +kernel⟩
theorem b_longest_before : BindsH "longest_before" s_longest_before ["word"] := fun _ _ _ _ _ _ us hl => match us, hl with | [_], _ => rfl
theorem ok_longest_before (T : Facts K mg) : DefOk P w K mg base (gW K) "longest_before" s_longest_before ["word"] 3 m_longest_before := by
  obtain ⟨f, fd, F, hm⟩ := T.d_longest_before
  exact def_ok F hm sc_longest_before fun cdv A outer s H E hr tk pw => by
    have hu := hr.units
    have hu1 := hu65 hr
    exact r_cons (r_expr (r_call (ok_check_word T) (hr.mono (by decide)) tk rfl b_check_word rfl (r_acons (r_var (i := 0)) (r_anil))))
      (r_last (r_ret (r_call (ok_before_of T) (hr.mono (by decide)) tk rfl b_before_of rfl (r_acons (r_var (i := 0)) (r_anil)))))
theorem bk_longest_before_0_word : BindsK "longest_before" s_longest_before ["word"] ["word"] 0 [0] := fun _ _ _ _ _ _ us ws h1 h2 => match us, ws, h1, h2 with | [], [_], _, _ => rfl
theorem sc_parted_by : FnScope ["word", "before", "found", "ends", "begin", "end", "earlier", "place"] ["word"] (defScope s_parted_by) := ⟨rfl, rfl, rfl, by decide +kernel, rfl, by decide +kernel, by decide +kernel⟩
theorem b_parted_by : BindsH "parted_by" s_parted_by ["word"] := fun _ _ _ _ _ _ us hl => match us, hl with | [_], _ => rfl
theorem ok_parted_by (T : Facts K mg) : DefOk P w K mg base (gW K) "parted_by" s_parted_by ["word"] 3 m_parted_by := by
  obtain ⟨f, fd, F, hm⟩ := T.d_parted_by
  exact def_ok F hm sc_parted_by fun cdv A outer s H E hr tk pw => by
    have hu := hr.units
    have hu1 := hu65 hr
    exact r_cons (r_expr (r_call (ok_check_word T) (hr.mono (by decide)) tk rfl b_check_word rfl (r_acons (r_var (i := 0)) (r_anil))))
      (r_cons (r_par (i := 1) (j := 2) rfl sc_parted_by.nd (r_acons (r_call (ok_before_of T) (hr.mono (by decide)) tk rfl b_before_of rfl (r_acons (r_var (i := 0)) (r_anil))) (r_acons (r_lst (r_anil)) (r_anil))))
      (r_cons (r_set (i := 3) sc_parted_by.nd (r_call (ok_ends_of T) (hr.mono (by decide)) tk rfl b_ends_of rfl (r_acons (r_var (i := 1)) (r_anil))))
      (r_cons (r_for pw rfl (r_izip T.f_zip rfl (r_acons (r_lst (r_acons (r_int) (r_astar (r_var (i := 3)) (r_anil)))) (r_acons (r_var (i := 3)) (r_anil)))) (r_gtup rfl (r_gscons (r_gname (i := 4) sc_parted_by.nd) (r_gscons (r_gname (i := 5) sc_parted_by.nd) (r_gsnil))))
      (r_cons (r_setLc (i := 6) (own := [("place", 7)]) rfl sc_parted_by.nd (r_irange1 T.f_range rfl (r_acons (r_var (i := 4)) (r_anil))) (blkOk_by (by kernel_rfl)) (fun _ _ _ _ _ => r_cname (i := 7) (vs := [7]) sc_parted_by.nd) (fun _ _ _ _ _ => r_ifc (r_tcmp (o_eq hu) (r_sl (r_var (i := 0)) (r_psome (r_var (i := 7))) (r_psome (r_bin o_sub (r_bin o_add (r_var (i := 7)) (r_var (i := 5))) (r_var (i := 4))))) (r_sl (r_var (i := 0)) (r_psome (r_var (i := 4))) (r_psome (r_var (i := 5)))) (nomark _))) (fun _ _ _ _ _ => r_var (i := 7)))
      (r_last (r_expr (r_bm PySem.F.plainAttrs_list PySem.F.slot_list_append PySem.F.type_list_append m_append (r_var (i := 2)) (r_acons (r_tup (r_acons (r_if (r_tcmp (o_ne hu) (r_var (i := 6)) (r_lst (r_anil)) (nomark _)) (r_ix (r_var (i := 6)) (r_int)) (r_non)) (r_acons (r_bin o_sub (r_var (i := 5)) (r_var (i := 4))) (r_anil)))) (r_anil)))))))
      (r_last (r_ret (r_var (i := 2)))))))
theorem bk_parted_by_0_word : BindsK "parted_by" s_parted_by ["word"] ["word"] 0 [0] := fun _ _ _ _ _ _ us ws h1 h2 => match us, ws, h1, h2 with | [], [_], _, _ => rfl
theorem sc__law_stream : FnScope ["script"] ["script"] (defScope s__law_stream) := ⟨rfl, rfl, rfl, by decide +kernel, rfl, by decide +kernel, by decide +kernel⟩
theorem b__law_stream : BindsH "_law_stream" s__law_stream ["script"] := fun _ _ _ _ _ _ us hl => match us, hl with | [_], _ => rfl
theorem ok__law_stream (T : Facts K mg) : DefOk P w K mg base (gW K) "_law_stream" s__law_stream ["script"] 1 m__law_stream := by
  obtain ⟨f, fd, F, hm⟩ := T.d__law_stream
  exact def_ok F hm sc__law_stream fun cdv A outer s H E hr tk pw => by
    have hu := hr.units
    have hu1 := hu65 hr
    exact r_last (r_ret (r_lst (r_acons (r_callTy (c_list rfl) T.f_list rfl PyProof.Rows.boot_list (r_acons (r_var (i := 0)) (r_anil))) (r_acons (r_int) (r_acons (r_int) (r_acons (r_int) (r_anil)))))))
theorem sc__law_draw : FnScope ["stream", "many", "mixed", "cell", "digit"] ["stream", "many"] (defScope s__law_draw) := ⟨rfl, rfl, rfl, by decide +kernel, rfl, by decide +kernel, by decide +kernel⟩
theorem b__law_draw : BindsH "_law_draw" s__law_draw ["stream", "many"] := fun _ _ _ _ _ _ us hl => match us, hl with | [_, _], _ => rfl
theorem ok__law_draw (T : Facts K mg) : DefOk P w K mg base (gW K) "_law_draw" s__law_draw ["stream", "many"] 1 m__law_draw := by
  obtain ⟨f, fd, F, hm⟩ := T.d__law_draw
  exact def_ok F hm sc__law_draw fun cdv A outer s H E hr tk pw => by
    have hu := hr.units
    have hu1 := hu65 hr
    exact r_cons (r_asg (r_bin o_add (r_ix (r_var (i := 0)) (r_int)) (r_int)) (r_gsub (r_var (i := 0)) (r_int) o_set))
      (r_cons (r_while pw (PW.pt (r_tand (r_tcmp (o_eq hu) (r_ix (r_var (i := 0)) (r_int)) (r_int) (nomark _)) (r_tand1 (r_tcmp (o_ne hu) (r_ix (r_var (i := 0)) (r_int)) (r_lst (r_anil)) (nomark _)))))
      (r_cons (r_set (i := 3) sc__law_draw.nd (r_callB c_abs T.f_abs rfl PyProof.Rows.boot_abs (r_acons (r_bm PySem.F.plainAttrs_list PySem.F.slot_list_pop PySem.F.type_list_pop m_pop (r_ix (r_var (i := 0)) (r_int)) (r_acons (r_int) (r_anil))) (r_anil))))
      (r_cons (r_asg (r_bin o_mod (r_callTy c_int T.f_int rfl PyProof.Rows.boot_int (r_acons (r_bin o_add (r_bin o_add (r_bin o_mul (r_ix (r_var (i := 0)) (r_int)) (r_int)) (r_var (i := 3))) (r_int)) (r_anil))) (r_int)) (r_gsub (r_var (i := 0)) (r_int) o_set))
      (r_last (r_asg (r_if (r_tcmp o_ge (r_var (i := 3)) (r_bin o_pow (r_int) (r_int)) (nomark _)) (r_var (i := 3)) (r_int)) (r_gsub (r_var (i := 0)) (r_int) o_set))))))
      (r_cons (r_ifs (r_tcmp o_gt (r_ix (r_var (i := 0)) (r_int)) (r_int) (nomark _))
      (r_cons (r_set (i := 4) sc__law_draw.nd (r_bin o_mod (r_callTy c_int T.f_int rfl PyProof.Rows.boot_int (r_acons (r_ix (r_var (i := 0)) (r_int)) (r_anil))) (r_var (i := 1))))
      (r_cons (r_asg (r_bin o_div (r_ix (r_var (i := 0)) (r_int)) (r_var (i := 1))) (r_gsub (r_var (i := 0)) (r_int) o_set))
      (r_last (r_ret (r_var (i := 4))))))
      (r_nil))
      (r_cons (r_set (i := 2) sc__law_draw.nd (r_bin o_mod (r_callTy c_int T.f_int rfl PyProof.Rows.boot_int (r_acons (r_bin o_pow (r_bin o_add (r_bin o_add (r_ix (r_var (i := 0)) (r_int)) (r_bin o_mul (r_int) (r_ix (r_var (i := 0)) (r_int)))) (r_int)) (r_int)) (r_anil))) (r_int)))
      (r_last (r_ret (r_bin o_mod (r_bin o_mod (r_callTy c_int T.f_int rfl PyProof.Rows.boot_int (r_acons (r_bin o_pow (r_bin o_add (r_bin o_add (r_bin o_mul (r_var (i := 2)) (r_int)) (r_bin o_mul (r_int) (r_ix (r_var (i := 0)) (r_int)))) (r_int)) (r_int)) (r_anil))) (r_int)) (r_var (i := 1))))))))
theorem sc__law_pick : FnScope ["stream", "things"] ["stream", "things"] (defScope s__law_pick) := ⟨rfl, rfl, rfl, by decide +kernel, rfl, by decide +kernel, by decide +kernel⟩
theorem b__law_pick : BindsH "_law_pick" s__law_pick ["stream", "things"] := fun _ _ _ _ _ _ us hl => match us, hl with | [_, _], _ => rfl
theorem ok__law_pick (T : Facts K mg) : DefOk P w K mg base (gW K) "_law_pick" s__law_pick ["stream", "things"] 2 m__law_pick := by
  obtain ⟨f, fd, F, hm⟩ := T.d__law_pick
  exact def_ok F hm sc__law_pick fun cdv A outer s H E hr tk pw => by
    have hu := hr.units
    have hu1 := hu65 hr
    exact r_last (r_ret (r_ix (r_var (i := 1)) (r_call (ok__law_draw T) (hr.mono (by decide)) tk rfl b__law_draw rfl (r_acons (r_var (i := 0)) (r_acons (r_callB c_len T.f_len rfl PySem.boot_len (r_acons (r_var (i := 1)) (r_anil))) (r_anil))))))
theorem sc__law_mixed : FnScope ["stream", "things", "left", "found", "k"] ["stream", "things"] (defScope s__law_mixed) := ⟨rfl, rfl, rfl, by decide +kernel, rfl, by decide +kernel, by decide +kernel⟩
theorem b__law_mixed : BindsH "_law_mixed" s__law_mixed ["stream", "things"] := fun _ _ _ _ _ _ us hl => match us, hl with | [_, _], _ => rfl
theorem ok__law_mixed (T : Facts K mg) : DefOk P w K mg base (gW K) "_law_mixed" s__law_mixed ["stream", "things"] 2 m__law_mixed := by
  obtain ⟨f, fd, F, hm⟩ := T.d__law_mixed
  exact def_ok F hm sc__law_mixed fun cdv A outer s H E hr tk pw => by
    have hu := hr.units
    have hu1 := hu65 hr
    exact r_cons (r_par (i := 2) (j := 3) rfl sc__law_mixed.nd (r_acons (r_callTy (c_list rfl) T.f_list rfl PyProof.Rows.boot_list (r_acons (r_var (i := 1)) (r_anil))) (r_acons (r_lst (r_anil)) (r_anil))))
      (r_cons (r_for pw rfl (r_irange1 T.f_range rfl (r_acons (r_callB c_len T.f_len rfl PySem.boot_len (r_acons (r_var (i := 2)) (r_anil))) (r_anil))) (r_gname (i := 4) sc__law_mixed.nd)
      (r_last (r_expr (r_bm PySem.F.plainAttrs_list PySem.F.slot_list_append PySem.F.type_list_append m_append (r_var (i := 3)) (r_acons (r_bm PySem.F.plainAttrs_list PySem.F.slot_list_pop PySem.F.type_list_pop m_pop (r_var (i := 2)) (r_acons (r_call (ok__law_draw T) (hr.mono (by decide)) tk rfl b__law_draw rfl (r_acons (r_var (i := 0)) (r_acons (r_callB c_len T.f_len rfl PySem.boot_len (r_acons (r_var (i := 2)) (r_anil))) (r_anil)))) (r_anil))) (r_anil))))))
      (r_last (r_ret (r_var (i := 3)))))
theorem sc__law_same : FnScope ["found", "due", "mine", "theirs"] ["found", "due"] (defScope s__law_same) := ⟨rfl, rfl, rfl, by decide +kernel, rfl, by decide +kernel, by decide +kernel⟩
theorem b__law_same : BindsH "_law_same" s__law_same ["found", "due"] := fun _ _ _ _ _ _ us hl => match us, hl with | [_, _], _ => rfl
theorem ok__law_same (T : Facts K mg) : ∀ n, DefOk P w K mg base (gW K) "_law_same" s__law_same ["found", "due"] (1 + n) (m__law_same n)
  | 0 => by
    obtain ⟨f, fd, F, hm⟩ := T.d__law_same
    exact def_bad F hm sc__law_same
  | n + 1 => by
    have ih := ok__law_same T n
    obtain ⟨f, fd, F, hm⟩ := T.d__law_same
    exact def_ok F hm sc__law_same fun cdv A outer s H E hr tk pw => by
      have hu := hr.units
      have hu1 := hu65 hr
      exact r_cons (r_ifs (r_tval (r_callB c_isi T.f_isinstance rfl PyProof.Rows.boot_isinstance (r_acons (r_var (i := 1)) (r_acons (r_tup (r_acons (r_ty T.f_list PyProof.Rows.boot_list) (r_acons (r_ty T.f_tuple PyProof.Rows.boot_tuple) (r_anil)))) (r_anil)))))
        (r_cons (r_ifs (PW.pt (r_tor (r_tcmp (o_ne hu) (r_callB c_isi T.f_isinstance rfl PyProof.Rows.boot_isinstance (r_acons (r_var (i := 0)) (r_acons (r_ty T.f_list PyProof.Rows.boot_list) (r_anil)))) (r_callB c_isi T.f_isinstance rfl PyProof.Rows.boot_isinstance (r_acons (r_var (i := 1)) (r_acons (r_ty T.f_list PyProof.Rows.boot_list) (r_anil)))) (nomark _)) (r_tor1 (r_tcmp (o_ne hu) (r_callB c_isi T.f_isinstance rfl PyProof.Rows.boot_isinstance (r_acons (r_var (i := 0)) (r_acons (r_ty T.f_tuple PyProof.Rows.boot_tuple) (r_anil)))) (r_callB c_isi T.f_isinstance rfl PyProof.Rows.boot_isinstance (r_acons (r_var (i := 1)) (r_acons (r_ty T.f_tuple PyProof.Rows.boot_tuple) (r_anil)))) (nomark _)))))
        (r_last (r_ret (r_bl)))
        (r_nil))
        (r_last (r_ret (r_and (r_cmp (o_eq hu) (r_callB c_len T.f_len rfl PySem.boot_len (r_acons (r_var (i := 0)) (r_anil))) (r_callB c_len T.f_len rfl PySem.boot_len (r_acons (r_var (i := 1)) (r_anil))) (nomark _)) (r_one (r_callB (c_all rfl) T.f_all rfl PyProof.Rows.boot_all (r_acons (r_lc (own := [("mine", 2), ("theirs", 3)]) rfl sc__law_same.nd (r_izip T.f_zip rfl (r_acons (r_var (i := 0)) (r_acons (r_var (i := 1)) (r_anil)))) (blkOk_by (by kernel_rfl)) (fun _ _ _ _ _ => r_ctup rfl (r_cscons (r_cname (i := 2) (vs := [2, 3]) sc__law_same.nd) (r_cscons (r_cname (i := 3) (vs := [2, 3]) sc__law_same.nd) (r_csnil)))) (fun _ _ _ _ _ => r_yes) (fun _ _ _ _ _ => r_call (ih) (hr.mono (Nat.le_refl _)) tkF rfl b__law_same rfl (r_acons (r_var (i := 2)) (r_acons (r_var (i := 3)) (r_anil))))) (r_anil))))))))
        (r_nil))
        (r_cons (r_ifs (r_tval (r_callB c_isi T.f_isinstance rfl PyProof.Rows.boot_isinstance (r_acons (r_var (i := 1)) (r_acons (r_ty T.f_dict PyProof.Rows.boot_dict) (r_anil)))))
        (r_last (r_ret (r_and (r_callB c_isi T.f_isinstance rfl PyProof.Rows.boot_isinstance (r_acons (r_var (i := 0)) (r_acons (r_ty T.f_dict PyProof.Rows.boot_dict) (r_anil)))) (r_one (r_call (ih) (hr.mono (Nat.le_refl _)) tk rfl b__law_same rfl (r_acons (r_callTy (c_list rfl) T.f_list rfl PyProof.Rows.boot_list (r_acons (r_ebad) (r_anil))) (r_acons (r_callTy (c_list rfl) T.f_list rfl PyProof.Rows.boot_list (r_acons (r_ebad) (r_anil))) (r_anil))))))))
        (r_nil))
        (r_cons (r_ifs (PW.pt (r_tor (r_tval (r_callB c_isi T.f_isinstance rfl PyProof.Rows.boot_isinstance (r_acons (r_var (i := 1)) (r_acons (r_ty T.f_bool PyProof.Rows.boot_bool) (r_anil))))) (r_tor1 (r_tval (r_callB c_isi T.f_isinstance rfl PyProof.Rows.boot_isinstance (r_acons (r_var (i := 0)) (r_acons (r_ty T.f_bool PyProof.Rows.boot_bool) (r_anil))))))))
        (r_last (r_ret (r_and (r_callB c_isi T.f_isinstance rfl PyProof.Rows.boot_isinstance (r_acons (r_var (i := 1)) (r_acons (r_ty T.f_bool PyProof.Rows.boot_bool) (r_anil)))) (r_and (r_callB c_isi T.f_isinstance rfl PyProof.Rows.boot_isinstance (r_acons (r_var (i := 0)) (r_acons (r_ty T.f_bool PyProof.Rows.boot_bool) (r_anil)))) (r_one (r_cmp (o_eq hu) (r_var (i := 0)) (r_var (i := 1)) (nomark _)))))))
        (r_nil))
        (r_cons (r_ifs (PW.pt (r_tor (r_tcmp o_is (r_var (i := 1)) (r_non) (nomark _)) (r_tor1 (r_tcmp o_is (r_var (i := 0)) (r_non) (nomark _)))))
        (r_last (r_ret (r_and (r_cmp o_is (r_var (i := 1)) (r_non) (nomark _)) (r_one (r_cmp o_is (r_var (i := 0)) (r_non) (nomark _))))))
        (r_nil))
        (r_cons (r_ifs (PW.pt (r_tor (r_tcmp (o_ne hu) (r_callB c_isi T.f_isinstance rfl PyProof.Rows.boot_isinstance (r_acons (r_var (i := 1)) (r_acons (r_ty T.f_int PyProof.Rows.boot_int) (r_anil)))) (r_callB c_isi T.f_isinstance rfl PyProof.Rows.boot_isinstance (r_acons (r_var (i := 0)) (r_acons (r_ty T.f_int PyProof.Rows.boot_int) (r_anil)))) (nomark _)) (r_tor1 (r_tcmp (o_ne hu) (r_callB c_isi T.f_isinstance rfl PyProof.Rows.boot_isinstance (r_acons (r_var (i := 1)) (r_acons (r_ty T.f_str PyProof.Rows.boot_str) (r_anil)))) (r_callB c_isi T.f_isinstance rfl PyProof.Rows.boot_isinstance (r_acons (r_var (i := 0)) (r_acons (r_ty T.f_str PyProof.Rows.boot_str) (r_anil)))) (nomark _)))))
        (r_last (r_ret (r_bl)))
        (r_nil))
        (r_last (r_ret (r_and (r_not (r_callB c_isi T.f_isinstance rfl PyProof.Rows.boot_isinstance (r_acons (r_var (i := 0)) (r_acons (r_tup (r_acons (r_ty T.f_list PyProof.Rows.boot_list) (r_acons (r_ty T.f_tuple PyProof.Rows.boot_tuple) (r_acons (r_ty T.f_dict PyProof.Rows.boot_dict) (r_anil))))) (r_anil))))) (r_one (r_cmp (o_eq hu) (r_var (i := 0)) (r_var (i := 1)) (nomark _))))))))))
theorem sc__law_word : FnScope ["stream", "length", "letters", "number", "way", "drawn", "base", "one", "other", "k"] ["stream", "length", "letters"] (defScope s__law_word) := ⟨rfl, rfl, rfl, by decide +kernel, rfl, by decide +kernel, by decide +kernel⟩
theorem b__law_word : BindsH "_law_word" s__law_word ["stream", "length", "letters"] := fun _ _ _ _ _ _ us hl => match us, hl with | [_, _, _], _ => rfl
theorem ok__law_word (T : Facts K mg) : DefOk P w K mg base (gW K) "_law_word" s__law_word ["stream", "length", "letters"] 3 m__law_word := by
  obtain ⟨f, fd, F, hm⟩ := T.d__law_word
  exact def_ok F hm sc__law_word fun cdv A outer s H E hr tk pw => by
    have hu := hr.units
    have hu1 := hu65 hr
    exact r_cons (r_par (i := 3) (j := 4) rfl sc__law_word.nd (r_acons (r_call (ok__law_draw T) (hr.mono (by decide)) tk rfl b__law_draw rfl (r_acons (r_var (i := 0)) (r_acons (r_bin o_add (r_var (i := 1)) (r_int)) (r_anil)))) (r_acons (r_call (ok__law_draw T) (hr.mono (by decide)) tk rfl b__law_draw rfl (r_acons (r_var (i := 0)) (r_acons (r_int) (r_anil)))) (r_anil))))
      (r_cons (r_set (i := 5) sc__law_word.nd (r_bm PySem.F.plainAttrs_str PySem.F.slot_str_join PySem.F.type_str_join m_join (r_str) (r_acons (r_lc (own := [("k", 9)]) rfl sc__law_word.nd (r_irange1 T.f_range rfl (r_acons (r_var (i := 3)) (r_anil))) (blkOk_by (by kernel_rfl)) (fun _ _ _ _ _ => r_cname (i := 9) (vs := [9]) sc__law_word.nd) (fun _ _ _ _ _ => r_yes) (fun _ _ _ _ _ => r_call (ok__law_pick T) (hr.mono (by decide)) tkF rfl b__law_pick rfl (r_acons (r_var (i := 0)) (r_acons (r_var (i := 2)) (r_anil))))) (r_anil))))
      (r_cons (r_ifs (PW.pt (r_tor (r_tcmp (o_eq hu) (r_var (i := 4)) (r_int) (nomark _)) (r_tor1 (r_tcmp (o_eq hu) (r_var (i := 5)) (r_str) (nomark _)))))
      (r_last (r_ret (r_var (i := 5))))
      (r_nil))
      (r_cons (r_ifs (r_tcmp (o_eq hu) (r_var (i := 4)) (r_int) (nomark _))
      (r_cons (r_set (i := 6) sc__law_word.nd (r_sl (r_var (i := 5)) (r_pnone) (r_psome (r_bin o_add (r_int) (r_call (ok__law_draw T) (hr.mono (by decide)) tk rfl b__law_draw rfl (r_acons (r_var (i := 0)) (r_acons (r_callB (c_max rfl) T.f_max rfl PyProof.Rows.boot_max (r_acons (r_bin o_div (r_callB c_len T.f_len rfl PySem.boot_len (r_acons (r_var (i := 5)) (r_anil))) (r_int)) (r_acons (r_int) (r_anil)))) (r_anil))))))))
      (r_last (r_ret (r_sl (r_bin o_mul (r_var (i := 6)) (r_var (i := 1))) (r_pnone) (r_psome (r_var (i := 3)))))))
      (r_nil))
      (r_cons (r_ifs (r_tcmp (o_eq hu) (r_var (i := 4)) (r_int) (nomark _))
      (r_cons (r_set (i := 6) sc__law_word.nd (r_sl (r_var (i := 5)) (r_pnone) (r_psome (r_bin o_add (r_int) (r_call (ok__law_draw T) (hr.mono (by decide)) tk rfl b__law_draw rfl (r_acons (r_var (i := 0)) (r_acons (r_callB (c_max rfl) T.f_max rfl PyProof.Rows.boot_max (r_acons (r_bin o_div (r_callB c_len T.f_len rfl PySem.boot_len (r_acons (r_var (i := 5)) (r_anil))) (r_int)) (r_acons (r_int) (r_anil)))) (r_anil))))))))
      (r_last (r_ret (r_if (r_tcmp (o_eq hu) (r_call (ok__law_draw T) (hr.mono (by decide)) tk rfl b__law_draw rfl (r_acons (r_var (i := 0)) (r_acons (r_int) (r_anil)))) (r_int) (nomark _)) (r_bin o_mul (r_var (i := 6)) (r_bin o_div (r_var (i := 1)) (r_callB c_len T.f_len rfl PySem.boot_len (r_acons (r_var (i := 6)) (r_anil))))) (r_bin o_mul (r_var (i := 6)) (r_bin o_div (r_var (i := 3)) (r_callB c_len T.f_len rfl PySem.boot_len (r_acons (r_var (i := 6)) (r_anil)))))))))
      (r_nil))
      (r_cons (r_ifs (r_tcmp (o_eq hu) (r_var (i := 4)) (r_int) (nomark _))
      (r_cons (r_asg (r_tup (r_acons (r_sl (r_var (i := 5)) (r_pnone) (r_psome (r_bin o_add (r_int) (r_call (ok__law_draw T) (hr.mono (by decide)) tk rfl b__law_draw rfl (r_acons (r_var (i := 0)) (r_acons (r_int) (r_anil))))))) (r_acons (r_sl (r_var (i := 5)) (r_psome (r_bin o_sub (r_un o_neg (r_int)) (r_call (ok__law_draw T) (hr.mono (by decide)) tk rfl b__law_draw rfl (r_acons (r_var (i := 0)) (r_acons (r_int) (r_anil)))))) (r_pnone)) (r_anil)))) (r_gtup rfl (r_gscons (r_gname (i := 7) sc__law_word.nd) (r_gscons (r_gname (i := 8) sc__law_word.nd) (r_gsnil)))))
      (r_last (r_ret (r_sl (r_bm PySem.F.plainAttrs_str PySem.F.slot_str_join PySem.F.type_str_join m_join (r_str) (r_acons (r_lc (own := [("k", 9)]) rfl sc__law_word.nd (r_irange1 T.f_range rfl (r_acons (r_var (i := 1)) (r_anil))) (blkOk_by (by kernel_rfl)) (fun _ _ _ _ _ => r_cname (i := 9) (vs := [9]) sc__law_word.nd) (fun _ _ _ _ _ => r_yes) (fun _ _ _ _ _ => r_call (ok__law_pick T) (hr.mono (by decide)) tkF rfl b__law_pick rfl (r_acons (r_var (i := 0)) (r_acons (r_lst (r_acons (r_var (i := 7)) (r_acons (r_var (i := 8)) (r_acons (r_var (i := 7)) (r_anil))))) (r_anil))))) (r_anil))) (r_pnone) (r_psome (r_var (i := 3)))))))
      (r_nil))
      (r_cons (r_ifs (r_tcmp (o_eq hu) (r_var (i := 4)) (r_int) (nomark _))
      (r_last (r_ret (r_sl (r_bin o_add (r_var (i := 5)) (r_rev (r_var (i := 5)))) (r_pnone) (r_psome (r_var (i := 1))))))
      (r_nil))
      (r_last (r_ret (r_sl (r_bin o_add (r_sl (r_var (i := 5)) (r_pnone) (r_psome (r_bin o_div (r_callB c_len T.f_len rfl PySem.boot_len (r_acons (r_var (i := 5)) (r_anil))) (r_int)))) (r_sl (r_var (i := 5)) (r_pnone) (r_psome (r_bin o_sub (r_callB c_len T.f_len rfl PySem.boot_len (r_acons (r_var (i := 5)) (r_anil))) (r_bin o_div (r_callB c_len T.f_len rfl PySem.boot_len (r_acons (r_var (i := 5)) (r_anil))) (r_int)))))) (r_pnone) (r_psome (r_var (i := 1))))))))))))
theorem sc__law_letters : FnScope ["stream", "letter"] ["stream"] (defScope s__law_letters) := ⟨rfl, rfl, rfl, by decide +kernel, rfl, by decide +kernel, by decide +kernel⟩
theorem b__law_letters : BindsH "_law_letters" s__law_letters ["stream"] := fun _ _ _ _ _ _ us hl => match us, hl with | [_], _ => rfl
theorem ok__law_letters (T : Facts K mg) : DefOk P w K mg base (gW K) "_law_letters" s__law_letters ["stream"] 3 m__law_letters := by
  obtain ⟨f, fd, F, hm⟩ := T.d__law_letters
  exact def_ok F hm sc__law_letters fun cdv A outer s H E hr tk pw => by
    have hu := hr.units
    have hu1 := hu65 hr
    exact r_last (r_ret (r_sl (r_call (ok__law_mixed T) (hr.mono (by decide)) tk rfl b__law_mixed rfl (r_acons (r_var (i := 0)) (r_acons (r_lc (own := [("letter", 1)]) rfl sc__law_letters.nd (r_iseq (r_str)) (blkOk_by (by kernel_rfl)) (fun _ _ _ _ _ => r_cname (i := 1) (vs := [1]) sc__law_letters.nd) (fun _ _ _ _ _ => r_yes) (fun _ _ _ _ _ => r_var (i := 1))) (r_anil)))) (r_pnone) (r_psome (r_bin o_add (r_int) (r_call (ok__law_draw T) (hr.mono (by decide)) tk rfl b__law_draw rfl (r_acons (r_var (i := 0)) (r_acons (r_call (ok__law_pick T) (hr.mono (by decide)) tk rfl b__law_pick rfl (r_acons (r_var (i := 0)) (r_acons (r_lst (r_acons (r_int) (r_acons (r_int) (r_acons (r_int) (r_anil))))) (r_anil)))) (r_anil))))))))
theorem sc__law_alike_from : FnScope ["word", "one", "other", "many", "mine", "theirs"] ["word", "one", "other"] (defScope s__law_alike_from) := ⟨rfl, rfl, rfl, by decide +kernel, rfl, by decide +kernel, by decide +kernel⟩
theorem b__law_alike_from : BindsH "_law_alike_from" s__law_alike_from ["word", "one", "other"] := fun _ _ _ _ _ _ us hl => match us, hl with | [_, _, _], _ => rfl
theorem ok__law_alike_from (T : Facts K mg) : DefOk P w K mg base (gW K) "_law_alike_from" s__law_alike_from ["word", "one", "other"] 1 m__law_alike_from := by
  obtain ⟨f, fd, F, hm⟩ := T.d__law_alike_from
  exact def_ok F hm sc__law_alike_from fun cdv A outer s H E hr tk pw => by
    have hu := hr.units
    have hu1 := hu65 hr
    exact r_cons (r_set (i := 3) sc__law_alike_from.nd (r_int))
      (r_cons (r_for pw rfl (r_izip T.f_zip rfl (r_acons (r_sl (r_var (i := 0)) (r_psome (r_var (i := 1))) (r_pnone)) (r_acons (r_sl (r_var (i := 0)) (r_psome (r_var (i := 2))) (r_pnone)) (r_anil)))) (r_gtup rfl (r_gscons (r_gname (i := 4) sc__law_alike_from.nd) (r_gscons (r_gname (i := 5) sc__law_alike_from.nd) (r_gsnil))))
      (r_cons (r_ifs (r_tcmp (o_ne hu) (r_var (i := 4)) (r_var (i := 5)) (nomark _))
      (r_last (r_ret (r_var (i := 3))))
      (r_nil))
      (r_last (r_set (i := 3) sc__law_alike_from.nd (r_bin o_add (r_var (i := 3)) (r_int))))))
      (r_last (r_ret (r_var (i := 3)))))
theorem sc__law_written : FnScope ["pairs", "letters", "word", "left", "begin", "many", "turn"] ["pairs", "letters"] (defScope s__law_written) := ⟨rfl, rfl, rfl, by decide +kernel, rfl, by decide +kernel, by decide +kernel⟩
theorem b__law_written : BindsH "_law_written" s__law_written ["pairs", "letters"] := fun _ _ _ _ _ _ us hl => match us, hl with | [_, _], _ => rfl
theorem ok__law_written (T : Facts K mg) : DefOk P w K mg base (gW K) "_law_written" s__law_written ["pairs", "letters"] 1 m__law_written := by
  obtain ⟨f, fd, F, hm⟩ := T.d__law_written
  exact def_ok F hm sc__law_written fun cdv A outer s H E hr tk pw => by
    have hu := hr.units
    have hu1 := hu65 hr
    exact r_cons (r_par (i := 2) (j := 3) rfl sc__law_written.nd (r_acons (r_str) (r_acons (r_callTy (c_list rfl) T.f_list rfl PyProof.Rows.boot_list (r_acons (r_var (i := 1)) (r_anil))) (r_anil))))
      (r_cons (r_for pw rfl (r_iseq (r_var (i := 0))) (r_gtup rfl (r_gscons (r_gname (i := 4) sc__law_written.nd) (r_gscons (r_gname (i := 5) sc__law_written.nd) (r_gsnil))))
      (r_last (r_ifs (r_tcmp o_is (r_var (i := 4)) (r_non) (nomark _))
      (r_cons (r_set (i := 2) sc__law_written.nd (r_bin o_add (r_var (i := 2)) (r_ix (r_var (i := 3)) (r_int))))
      (r_last (r_set (i := 3) sc__law_written.nd (r_sl (r_var (i := 3)) (r_psome (r_int)) (r_pnone)))))
      (r_last (r_for pw rfl (r_irange1 T.f_range rfl (r_acons (r_var (i := 5)) (r_anil))) (r_gname (i := 6) sc__law_written.nd)
      (r_last (r_set (i := 2) sc__law_written.nd (r_bin o_add (r_var (i := 2)) (r_ix (r_var (i := 2)) (r_bin o_add (r_var (i := 4)) (r_var (i := 6))))))))))))
      (r_last (r_ret (r_var (i := 2)))))
theorem sc_law : FnScope ["script", "stream", "turn", "found", "due", "word", "before", "pairs", "here", "again", "told", "new", "many", "stands", "place", "letter", "one"] ["script"] (defScope s_law) := ⟨rfl, rfl, rfl, by decide +kernel, rfl, by decide +kernel, by decide +kernel⟩
theorem b_law : BindsH "law" s_law ["script"] := fun _ _ _ _ _ _ us hl => match us, hl with | [_], _ => rfl
theorem ok_law (T : Facts K mg) : DefOk P w K mg base (gW K) "law" s_law ["script"] 42 m_law := by
  obtain ⟨f, fd, F, hm⟩ := T.d_law
  exact def_ok F hm sc_law fun cdv A outer s H E hr tk pw => by
    have hu := hr.units
    have hu1 := hu65 hr
    exact r_cons (r_set (i := 1) sc_law.nd (r_call (ok__law_stream T) (hr.mono (by decide)) tk rfl b__law_stream rfl (r_acons (r_var (i := 0)) (r_anil))))
      (r_cons (r_for pw rfl (r_irange1 T.f_range rfl (r_acons (r_int) (r_anil))) (r_gname (i := 2) sc_law.nd)
      (r_cons (r_set (i := 5) sc_law.nd (r_call (ok__law_word T) (hr.mono (by decide)) tk rfl b__law_word rfl (r_acons (r_var (i := 1)) (r_acons (r_if (r_tcmp o_lt (r_var (i := 2)) (r_int) (nomark _)) (r_call (ok__law_pick T) (hr.mono (by decide)) tk rfl b__law_pick rfl (r_acons (r_var (i := 1)) (r_acons (r_lst (r_acons (r_int) (r_acons (r_int) (r_acons (r_int) (r_anil))))) (r_anil)))) (r_int)) (r_acons (r_call (ok__law_letters T) (hr.mono (by decide)) tk rfl b__law_letters rfl (r_acons (r_var (i := 1)) (r_anil))) (r_anil))))))
      (r_cons (r_setLc (i := 6) (own := [("place", 14)]) rfl sc_law.nd (r_irange1 T.f_range rfl (r_acons (r_callB c_len T.f_len rfl PySem.boot_len (r_acons (r_var (i := 5)) (r_anil))) (r_anil))) (blkOk_by (by kernel_rfl)) (fun _ _ _ _ _ => r_cname (i := 14) (vs := [14]) sc_law.nd) (fun _ _ _ _ _ => r_yes) (fun _ _ _ _ _ => r_callB (c_max rfl) T.f_max rfl PyProof.Rows.boot_max (r_acons (r_bin o_add (r_lc (own := [("one", 16)]) rfl sc_law.nd (r_irange1 T.f_range rfl (r_acons (r_var (i := 14)) (r_anil))) (blkOk_by (by kernel_rfl)) (fun _ _ _ _ _ => r_cname (i := 16) (vs := [16]) sc_law.nd) (fun _ _ _ _ _ => r_yes) (fun _ _ _ _ _ => r_call (ok__law_alike_from T) (hr.mono (by decide)) tkF rfl b__law_alike_from rfl (r_acons (r_var (i := 5)) (r_acons (r_var (i := 16)) (r_acons (r_var (i := 14)) (r_anil)))))) (r_lst (r_acons (r_int) (r_anil)))) (r_anil))))
      (r_cons (r_set (i := 3) sc_law.nd (r_lst (r_acons (r_call (ok_longest_before T) (hr.mono (by decide)) tk rfl b_longest_before rfl (r_acons (r_var (i := 5)) (r_anil))) (r_acons (r_callK0 (ks := ["word"]) (ok_longest_before T) (hr.mono (by decide)) tk rfl rfl bk_longest_before_0_word rfl (r_kcons (r_var (i := 5)) (r_knil))) (r_anil)))))
      (r_cons (r_ifs (r_tnot (r_tval (r_call (ok__law_same T 40) (hr.mono (by decide)) tk rfl b__law_same rfl (r_acons (r_var (i := 3)) (r_acons (r_lst (r_acons (r_var (i := 6)) (r_acons (r_var (i := 6)) (r_anil)))) (r_anil))))))
      (r_last (r_ret (r_bl)))
      (r_nil))
      (r_cons (r_expr (r_bm PySem.F.plainAttrs_list PySem.F.slot_list_append PySem.F.type_list_append m_append (r_ix (r_var (i := 3)) (r_int)) (r_acons (r_str) (r_anil))))
      (r_cons (r_asg (r_tup (r_acons (r_lst (r_anil)) (r_acons (r_int) (r_anil)))) (r_gtup rfl (r_gscons (r_gname (i := 7) sc_law.nd) (r_gscons (r_gname (i := 8) sc_law.nd) (r_gsnil)))))
      (r_cons (r_for pw rfl (r_irange1 T.f_range rfl (r_acons (r_callB c_len T.f_len rfl PySem.boot_len (r_acons (r_var (i := 5)) (r_anil))) (r_anil))) (r_gname (i := 9) sc_law.nd)
      (r_last (r_ifs (r_tcmp o_lt (r_var (i := 8)) (r_callB c_len T.f_len rfl PySem.boot_len (r_acons (r_var (i := 5)) (r_anil))) (nomark _))
      (r_cons (r_set (i := 12) sc_law.nd (r_callB (c_max rfl) T.f_max rfl PyProof.Rows.boot_max (r_acons (r_int) (r_acons (r_ix (r_var (i := 6)) (r_var (i := 8))) (r_anil)))))
      (r_cons (r_setLc (i := 13) (own := [("place", 14)]) rfl sc_law.nd (r_irange1 T.f_range rfl (r_acons (r_var (i := 8)) (r_anil))) (blkOk_by (by kernel_rfl)) (fun _ _ _ _ _ => r_cname (i := 14) (vs := [14]) sc_law.nd) (fun _ _ _ _ _ => r_ifc (r_tcmp (o_eq hu) (r_sl (r_var (i := 5)) (r_psome (r_var (i := 14))) (r_psome (r_bin o_add (r_var (i := 14)) (r_var (i := 12))))) (r_sl (r_var (i := 5)) (r_psome (r_var (i := 8))) (r_psome (r_bin o_add (r_var (i := 8)) (r_var (i := 12))))) (nomark _))) (fun _ _ _ _ _ => r_var (i := 14)))
      (r_cons (r_expr (r_bm PySem.F.plainAttrs_list PySem.F.slot_list_append PySem.F.type_list_append m_append (r_var (i := 7)) (r_acons (r_tup (r_acons (r_if (r_tcmp (o_ne hu) (r_var (i := 13)) (r_lst (r_anil)) (nomark _)) (r_ix (r_var (i := 13)) (r_int)) (r_non)) (r_acons (r_var (i := 12)) (r_anil)))) (r_anil))))
      (r_last (r_set (i := 8) sc_law.nd (r_bin o_add (r_var (i := 8)) (r_var (i := 12))))))))
      (r_nil))))
      (r_cons (r_set (i := 10) sc_law.nd (r_lst (r_acons (r_call (ok_parted_by T) (hr.mono (by decide)) tk rfl b_parted_by rfl (r_acons (r_var (i := 5)) (r_anil))) (r_acons (r_callK0 (ks := ["word"]) (ok_parted_by T) (hr.mono (by decide)) tk rfl rfl bk_parted_by_0_word rfl (r_kcons (r_var (i := 5)) (r_knil))) (r_anil)))))
      (r_cons (r_ifs (r_tnot (r_tval (r_call (ok__law_same T 40) (hr.mono (by decide)) tk rfl b__law_same rfl (r_acons (r_var (i := 10)) (r_acons (r_lst (r_acons (r_var (i := 7)) (r_acons (r_var (i := 7)) (r_anil)))) (r_anil))))))
      (r_last (r_ret (r_bl)))
      (r_nil))
      (r_cons (r_expr (r_bm PySem.F.plainAttrs_list PySem.F.slot_list_append PySem.F.type_list_append m_append (r_ix (r_var (i := 10)) (r_int)) (r_acons (r_str) (r_anil))))
      (r_cons (r_ifs (r_tnot (r_tval (r_call (ok__law_same T 40) (hr.mono (by decide)) tk rfl b__law_same rfl (r_acons (r_lst (r_acons (r_call (ok_parted_by T) (hr.mono (by decide)) tk rfl b_parted_by rfl (r_acons (r_var (i := 5)) (r_anil))) (r_acons (r_call (ok_longest_before T) (hr.mono (by decide)) tk rfl b_longest_before rfl (r_acons (r_var (i := 5)) (r_anil))) (r_anil)))) (r_acons (r_lst (r_acons (r_var (i := 7)) (r_acons (r_var (i := 6)) (r_anil)))) (r_anil))))))
      (r_last (r_ret (r_bl)))
      (r_nil))
      (r_cons (r_setLc (i := 11) (own := [("place", 14), ("letter", 15)]) rfl sc_law.nd (r_ienum T.f_enumerate rfl (r_acons (r_var (i := 5)) (r_anil))) (blkOk_by (by kernel_rfl)) (fun _ _ _ _ _ => r_ctup rfl (r_cscons (r_cname (i := 14) (vs := [14, 15]) sc_law.nd) (r_cscons (r_cname (i := 15) (vs := [14, 15]) sc_law.nd) (r_csnil)))) (fun _ _ _ _ _ => r_ifc (r_tcmp (o_notin hu1) (r_var (i := 15)) (r_sl (r_var (i := 5)) (r_pnone) (r_psome (r_var (i := 14)))) (rfl))) (fun _ _ _ _ _ => r_var (i := 15)))
      (r_last (r_ifs (PW.pt (r_tor (r_tcmp (o_ne hu) (r_call (ok__law_written T) (hr.mono (by decide)) tk rfl b__law_written rfl (r_acons (r_var (i := 7)) (r_acons (r_var (i := 11)) (r_anil)))) (r_var (i := 5)) (nomark _)) (r_tor1 (r_tnot (r_tval (r_call (ok__law_same T 40) (hr.mono (by decide)) tk rfl b__law_same rfl (r_acons (r_call (ok_fewest_parts T) (hr.mono (by decide)) tk rfl b_fewest_parts rfl (r_acons (r_var (i := 5)) (r_anil))) (r_acons (r_callB c_len T.f_len rfl PySem.boot_len (r_acons (r_var (i := 7)) (r_anil))) (r_anil)))))))))
      (r_last (r_ret (r_bl)))
      (r_nil))))))))))))))))
      (r_cons (r_set (i := 3) sc_law.nd (r_lst (r_acons (r_call (ok_parted_by T) (hr.mono (by decide)) tk rfl b_parted_by rfl (r_acons (r_str) (r_anil))) (r_acons (r_call (ok_longest_before T) (hr.mono (by decide)) tk rfl b_longest_before rfl (r_acons (r_str) (r_anil))) (r_acons (r_call (ok_parted_by T) (hr.mono (by decide)) tk rfl b_parted_by rfl (r_acons (r_str) (r_anil))) (r_acons (r_call (ok_parted_by T) (hr.mono (by decide)) tk rfl b_parted_by rfl (r_acons (r_str) (r_anil))) (r_anil)))))))
      (r_cons (r_set (i := 4) sc_law.nd (r_lst (r_acons (r_lst (r_acons (r_tup (r_acons (r_non) (r_acons (r_int) (r_anil)))) (r_acons (r_tup (r_acons (r_non) (r_acons (r_int) (r_anil)))) (r_acons (r_tup (r_acons (r_int) (r_acons (r_int) (r_anil)))) (r_anil))))) (r_acons (r_lst (r_acons (r_int) (r_acons (r_int) (r_acons (r_int) (r_acons (r_int) (r_acons (r_int) (r_anil))))))) (r_acons (r_lst (r_anil)) (r_acons (r_lst (r_acons (r_tup (r_acons (r_non) (r_acons (r_int) (r_anil)))) (r_acons (r_tup (r_acons (r_int) (r_acons (r_int) (r_anil)))) (r_anil)))) (r_anil)))))))
      (r_last (r_ret (r_call (ok__law_same T 40) (hr.mono (by decide)) tk rfl b__law_same rfl (r_acons (r_var (i := 3)) (r_acons (r_var (i := 4)) (r_anil)))))))))
end
def fnds : List He.DefD := [⟨("is_word_of", none), "is_word_of", "is_word_of", defArgs s_is_word_of, defBody s_is_word_of, defScope s_is_word_of, [], []⟩, ⟨("check_word", none), "check_word", "check_word", defArgs s_check_word, defBody s_check_word, defScope s_check_word, [], []⟩, ⟨("alike_from", none), "alike_from", "alike_from", defArgs s_alike_from, defBody s_alike_from, defScope s_alike_from, [], []⟩, ⟨("before_of", none), "before_of", "before_of", defArgs s_before_of, defBody s_before_of, defScope s_before_of, [], []⟩, ⟨("ends_of", none), "ends_of", "ends_of", defArgs s_ends_of, defBody s_ends_of, defScope s_ends_of, [], []⟩, ⟨("fewest_parts", none), "fewest_parts", "fewest_parts", defArgs s_fewest_parts, defBody s_fewest_parts, defScope s_fewest_parts, [], []⟩, ⟨("longest_before", none), "longest_before", "longest_before", defArgs s_longest_before, defBody s_longest_before, defScope s_longest_before, [], []⟩, ⟨("parted_by", none), "parted_by", "parted_by", defArgs s_parted_by, defBody s_parted_by, defScope s_parted_by, [], []⟩, ⟨("_law_stream", none), "_law_stream", "_law_stream", defArgs s__law_stream, defBody s__law_stream, defScope s__law_stream, [], []⟩, ⟨("_law_draw", none), "_law_draw", "_law_draw", defArgs s__law_draw, defBody s__law_draw, defScope s__law_draw, [], []⟩, ⟨("_law_pick", none), "_law_pick", "_law_pick", defArgs s__law_pick, defBody s__law_pick, defScope s__law_pick, [], []⟩, ⟨("_law_mixed", none), "_law_mixed", "_law_mixed", defArgs s__law_mixed, defBody s__law_mixed, defScope s__law_mixed, [], []⟩, ⟨("_law_same", none), "_law_same", "_law_same", defArgs s__law_same, defBody s__law_same, defScope s__law_same, [], []⟩, ⟨("_law_word", none), "_law_word", "_law_word", defArgs s__law_word, defBody s__law_word, defScope s__law_word, [], []⟩, ⟨("_law_letters", none), "_law_letters", "_law_letters", defArgs s__law_letters, defBody s__law_letters, defScope s__law_letters, [], []⟩, ⟨("_law_alike_from", none), "_law_alike_from", "_law_alike_from", defArgs s__law_alike_from, defBody s__law_alike_from, defScope s__law_alike_from, [], []⟩, ⟨("_law_written", none), "_law_written", "_law_written", defArgs s__law_written, defBody s__law_written, defScope s__law_written, [], []⟩, ⟨("law", none), "law", "law", defArgs s_law, defBody s_law, defScope s_law, [], []⟩]
def fas : List He.Fa := [.free "abs", .free "all", .free "bool", .free "dict", .free "enumerate", .free "int", .free "isinstance", .free "len", .free "list", .free "max", .free "range", .free "str", .free "tuple", .free "zip", .str "LETTERS" "abcdefghijklmnopqrstuvwxyz", .glo "is_word_of", .glo "check_word", .glo "alike_from", .glo "before_of", .glo "ends_of", .glo "fewest_parts", .glo "longest_before", .glo "parted_by", .glo "_law_stream", .glo "_law_draw", .glo "_law_pick", .glo "_law_mixed", .glo "_law_same", .glo "_law_word", .glo "_law_letters", .glo "_law_alike_from", .glo "_law_written", .glo "law"]
def loose : List PySem.Str := (["WordError", "BadWord", "LETTERS", "is_word_of", "check_word", "alike_from", "before_of", "ends_of", "fewest_parts", "longest_before", "parted_by", "_law_stream", "_law_draw", "_law_pick", "_law_mixed", "_law_same", "_law_word", "_law_letters", "_law_alike_from", "_law_written"] : List PySem.Str)
theorem facts_of {K : PySem.W.Frag} {h : Heap} {mg : PySem.Str → Option Value} (X : K.In h) (G : h.Ns mainGlobals mg) (c : He.SaysD fas fnds K) : Facts K mg where
  f_abs := He.free_ok X G (c.fact 0 rfl)
  f_all := He.free_ok X G (c.fact 1 rfl)
  f_bool := He.free_ok X G (c.fact 2 rfl)
  f_dict := He.free_ok X G (c.fact 3 rfl)
  f_enumerate := He.free_ok X G (c.fact 4 rfl)
  f_int := He.free_ok X G (c.fact 5 rfl)
  f_isinstance := He.free_ok X G (c.fact 6 rfl)
  f_len := He.free_ok X G (c.fact 7 rfl)
  f_list := He.free_ok X G (c.fact 8 rfl)
  f_max := He.free_ok X G (c.fact 9 rfl)
  f_range := He.free_ok X G (c.fact 10 rfl)
  f_str := He.free_ok X G (c.fact 11 rfl)
  f_tuple := He.free_ok X G (c.fact 12 rfl)
  f_zip := He.free_ok X G (c.fact 13 rfl)
  s_LETTERS := He.str_ok X G (c.fact 14 rfl)
  d_is_word_of := by
    obtain ⟨fd, F⟩ := c.def_ 0 rfl
    exact ⟨_, fd, F, He.glo_ok X G (c.fact 15 rfl)⟩
  d_check_word := by
    obtain ⟨fd, F⟩ := c.def_ 1 rfl
    exact ⟨_, fd, F, He.glo_ok X G (c.fact 16 rfl)⟩
  d_alike_from := by
    obtain ⟨fd, F⟩ := c.def_ 2 rfl
    exact ⟨_, fd, F, He.glo_ok X G (c.fact 17 rfl)⟩
  d_before_of := by
    obtain ⟨fd, F⟩ := c.def_ 3 rfl
    exact ⟨_, fd, F, He.glo_ok X G (c.fact 18 rfl)⟩
  d_ends_of := by
    obtain ⟨fd, F⟩ := c.def_ 4 rfl
    exact ⟨_, fd, F, He.glo_ok X G (c.fact 19 rfl)⟩
  d_fewest_parts := by
    obtain ⟨fd, F⟩ := c.def_ 5 rfl
    exact ⟨_, fd, F, He.glo_ok X G (c.fact 20 rfl)⟩
  d_longest_before := by
    obtain ⟨fd, F⟩ := c.def_ 6 rfl
    exact ⟨_, fd, F, He.glo_ok X G (c.fact 21 rfl)⟩
  d_parted_by := by
    obtain ⟨fd, F⟩ := c.def_ 7 rfl
    exact ⟨_, fd, F, He.glo_ok X G (c.fact 22 rfl)⟩
  d__law_stream := by
    obtain ⟨fd, F⟩ := c.def_ 8 rfl
    exact ⟨_, fd, F, He.glo_ok X G (c.fact 23 rfl)⟩
  d__law_draw := by
    obtain ⟨fd, F⟩ := c.def_ 9 rfl
    exact ⟨_, fd, F, He.glo_ok X G (c.fact 24 rfl)⟩
  d__law_pick := by
    obtain ⟨fd, F⟩ := c.def_ 10 rfl
    exact ⟨_, fd, F, He.glo_ok X G (c.fact 25 rfl)⟩
  d__law_mixed := by
    obtain ⟨fd, F⟩ := c.def_ 11 rfl
    exact ⟨_, fd, F, He.glo_ok X G (c.fact 26 rfl)⟩
  d__law_same := by
    obtain ⟨fd, F⟩ := c.def_ 12 rfl
    exact ⟨_, fd, F, He.glo_ok X G (c.fact 27 rfl)⟩
  d__law_word := by
    obtain ⟨fd, F⟩ := c.def_ 13 rfl
    exact ⟨_, fd, F, He.glo_ok X G (c.fact 28 rfl)⟩
  d__law_letters := by
    obtain ⟨fd, F⟩ := c.def_ 14 rfl
    exact ⟨_, fd, F, He.glo_ok X G (c.fact 29 rfl)⟩
  d__law_alike_from := by
    obtain ⟨fd, F⟩ := c.def_ 15 rfl
    exact ⟨_, fd, F, He.glo_ok X G (c.fact 30 rfl)⟩
  d__law_written := by
    obtain ⟨fd, F⟩ := c.def_ 16 rfl
    exact ⟨_, fd, F, He.glo_ok X G (c.fact 31 rfl)⟩
  d_law := by
    obtain ⟨fd, F⟩ := c.def_ 17 rfl
    exact ⟨_, fd, F, He.glo_ok X G (c.fact 32 rfl)⟩
abbrev RR : PySem.W.OpenRow := PySem.W.OpenLaw.row PySem.Challenge.rw_againwords_k85_whole_where_parts_come_fr
abbrev hk : PySem.W.Hook := He.hookD 4 fas fnds
def ob (s : PySem.W.SharedT) : He.AlD := He.obsDG 4 fas fnds (HandSHeadRun.getT s)
theorem ob_eq (s : PySem.W.SharedT) : ob s = hk.obs s.abs := He.obsDG_eq (HandSHeadRun.getT_eq s)
theorem head_run (w : World) : HandSHeadRun.RunEq RR (PySem.W.view RR.prog [25]) hk ob 20000 loose w := by
  intro os
  kernel_rfl
end MM

open PySem PySem.W PySem.Calls PyProof.Rows
set_option maxRecDepth 100000 in
set_option maxHeartbeats 0 in
theorem PySem.Challenge.cw_againwords_k85_whole_where_parts_come_fr_holds : PySem.Challenge.rw_againwords_k85_whole_where_parts_come_fr.Holds := by
  w_on; o_law
  refine HandSHeadRun.head_any (r := OpenLaw.row PySem.Challenge.rw_againwords_k85_whole_where_parts_come_fr) (q := view (OpenLaw.row PySem.Challenge.rw_againwords_k85_whole_where_parts_come_fr).prog [25]) (H := MM.hk) (ob := MM.ob) (M := 20000) (loose := MM.loose) (d := HandSHeadRun.topDef (OpenLaw.row PySem.Challenge.rw_againwords_k85_whole_where_parts_come_fr).prog 25) (kwd := []) MM.ob_eq
    (by kernel_rfl) (fun s => by kernel_rfl) MM.head_run (by kernel_rfl) (by kernel_rfl) (by kernel_rfl) (by rfl) (by first | assumption | decide +kernel) (by decide +kernel) ⟨rfl, rfl, rfl, rfl, rfl, by decide +kernel⟩ ?hw ?hc
  case hw => w_witness2
  case hc =>
    refine MM.walk_law (l := PySem.Challenge.rw_againwords_k85_whole_where_parts_come_fr) (n := 63) (k := 42) (g := MM.m_law) (stm := MM.s_law) (x := "script") rfl (by decide) (by kernel_rfl) ⟨rfl, by decide, by decide⟩ MM.b_law MM.law_true ?F (by kernel_rfl)
    intro w mg h Y G
    obtain ⟨K, KX, c⟩ := Y
    exact ⟨K, MM.gW K, KX, rfl, fun base => MM.ok_law (MM.facts_of KX G c)⟩
