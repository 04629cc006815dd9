import PyProof.Rows.All
import Wide.All
import OpenK.AllK
import Wide.FinOn
import HandS.ForMost
import HandS.Exc
import HandS.ExcOwn
import HandS.WordsExc
import HandS.TryOnly
import HandS.TryMany
import HandS.ExcInit
import HandS.ExcField
import HandS.Flow
import HandS.FStr
import HandS.TupAny
import HandS.Codes
import HandS.RaiseMore
import HandS.IsInst
import HandS.Style
import HandS.StrMore
import HandS.Rev
import HandS.CallSlots
import HandS.Zip
import KE.GoesMore
import KE.GoesEnum
import KE.KDictZip
import KE.KItemsList
import HandS.ExcIs
import KE.IntTextText
import PySem.Challenge.RW_stoodthere_k65_texts_of_papers
/-! ## Mi0 -/
set_option Elab.async false
set_option linter.all false
set_option maxRecDepth 100000
set_option maxHeartbeats 2000000
/-! A small language of values and stores, and what it means that a reading of the hand layer follows it. -/
namespace Mi
open PySem L2

/-- data: tuples are values, lists stand in the store -/
inductive D where
  | non | bl (b : Bool) | int (i : Int) | str (x : Str) | tup (ds : List D) | ref (l : Nat) | ty (n : String) | fl (ds : List D)

/-- what stands at a place of the store -/
inductive Ob where
  | lst (ds : List D)
  | ro (ds : List D)

abbrev Store := List Ob
abbrev Env := List (Option D)
abbrev Fs := List (Str × D)

inductive Out (α : Type) where
  | no
  | ok (a : α) (st : Store)
  | ex (c : Str) (fs : Fs) (st : Store)
def Out.bind {α β : Type} : Out α → (α → Store → Out β) → Out β
  | .no, _ => .no
  | .ok a st, f => f a st
  | .ex c fs st, _ => .ex c fs st
@[simp] theorem Out.bind_no {α β : Type} (f : α → Store → Out β) : (Out.no : Out α).bind f = .no := rfl
@[simp] theorem Out.bind_ok {α β : Type} (a : α) (st : Store) (f : α → Store → Out β) : (Out.ok a st).bind f = f a st := rfl
@[simp] theorem Out.bind_ex {α β : Type} (c : Str) (fs : Fs) (st : Store) (f : α → Store → Out β) : (Out.ex c fs st : Out α).bind f = .ex c fs st := rfl

/-- the flow behind a statement -/
inductive SOut where
  | no
  | nx (env : Env) (st : Store)
  | bk (env : Env) (st : Store)
  | ct (env : Env) (st : Store)
  | rt (d : D) (st : Store)
  | ex (c : Str) (fs : Fs) (env : Env) (st : Store)

abbrev ME := Env → Store → Out D
abbrev MT := Env → Store → Out Bool
abbrev MA := Env → Store → Out (List D)
abbrev MS := Env → Store → SOut
/-- a def: its arguments -/
abbrev MF := List D → Store → Out D

/-! ### the relations -/
/-- a list that is never written -/
def SqF (K : PySem.W.Frag) (H : Hp) (a : Addr) (xs : List V) : Prop :=
  (∃ o, H a = some (.frz o (.lst xs))) ∨
    ∃ (o : Obj) (its : Array Value) (n : Nat), K.lookup a = some o ∧ o.cls = .type "list" ∧ o.dict = none ∧ o.data = .seq its n ∧ its.size ≤ sizeLine ∧ Vals xs its.toList
theorem SqF.sq {K : PySem.W.Frag} {H : Hp} {a : Addr} {xs : List V} (h : SqF K H a xs) : SqL K H a xs := h.imp (fun ⟨o, h⟩ => .inr ⟨o, h⟩) id
section
variable (K : PySem.W.Frag)
mutual
inductive RelD (ρ : List Addr) (H : Hp) : D → V → Prop where
  | non : RelD ρ H .non .non
  | bl (b : Bool) : RelD ρ H (.bl b) (.bl b)
  | int (i : Int) : RelD ρ H (.int i) (.int i)
  | str (x : Str) : RelD ρ H (.str x) (.str x)
  | ty (n : String) : RelD ρ H (.ty n) (.ty n)
  | ref (l : Nat) (a : Addr) : ρ[l]? = some a → RelD ρ H (.ref l) (.ref a)
  | tup (ds : List D) (vs : List V) (a : Addr) : SqT K H a vs → Rels ρ H ds vs → RelD ρ H (.tup ds) (.ref a)
  | fl (ds : List D) (vs : List V) (a : Addr) : SqF K H a vs → Rels ρ H ds vs → RelD ρ H (.fl ds) (.ref a)
inductive Rels (ρ : List Addr) (H : Hp) : List D → List V → Prop where
  | nil : Rels ρ H [] []
  | cons {d : D} {v : V} {ds : List D} {vs : List V} : RelD ρ H d v → Rels ρ H ds vs → Rels ρ H (d :: ds) (v :: vs)
end
end
/-- what is never written -/
def Imm : HO → Prop
  | .tup _ => True
  | .frz _ _ => True
  | .xd _ => True
  | _ => False
def Keep (H H' : Hp) : Prop := ∀ a o, H a = some o → Imm o → H' a = some o
theorem Keep.refl (H : Hp) : Keep H H := fun _ _ h _ => h
theorem Keep.trans {H H1 H2 : Hp} (a : Keep H H1) (b : Keep H1 H2) : Keep H H2 := fun c o h i => b c o (a c o h i) i
theorem Keep.new {H : Hp} {p : Addr} {o : HO} (h : H p = none) : Keep H (upd H p o) := fun a u e _ => by
  rw [upd_ne (ne_of_none e h)]; exact e
theorem Keep.put {H : Hp} {p : Addr} {o u : HO} (h : H p = some u) (n : ¬ Imm u) : Keep H (upd H p o) := fun a w e i => by
  by_cases hap : a = p
  · subst hap; rw [h] at e; cases e; exact absurd i n
  · rw [upd_ne hap]; exact e
section
variable {K : PySem.W.Frag} {ρ ρ' : List Addr} {H H' : Hp}
theorem Keep.rd {a : Addr} {u : HO} (k : Keep H H') (i : Imm u) (h : Rd H a u) : Rd H' a u := by
  rcases h with h | ⟨o, h⟩
  · exact .inl (k a _ h i)
  · exact .inr ⟨o, k a _ h trivial⟩
theorem Keep.sqT {a : Addr} {vs : List V} (k : Keep H H') (h : SqT K H a vs) : SqT K H' a vs := by
  rcases h with h | h
  · exact .inl (k.rd trivial h)
  · exact .inr h
theorem Keep.sqF {a : Addr} {vs : List V} (k : Keep H H') (h : SqF K H a vs) : SqF K H' a vs := h.imp (fun ⟨o, h⟩ => ⟨o, k a _ h trivial⟩) id
theorem pre_get {a : Addr} {l : Nat} (e : ρ <+: ρ') (h : ρ[l]? = some a) : ρ'[l]? = some a := by
  obtain ⟨t, rfl⟩ := e
  rw [List.getElem?_append_left]
  · exact h
  · exact (List.getElem?_eq_some_iff.mp h).1
mutual
theorem RelD.mono (e : ρ <+: ρ') (k : Keep H H') : ∀ {d : D} {v : V}, RelD K ρ H d v → RelD K ρ' H' d v
  | _, _, .non => .non
  | _, _, .bl b => .bl b
  | _, _, .int i => .int i
  | _, _, .str x => .str x
  | _, _, .ty n => .ty n
  | _, _, .ref l a h => .ref l a (pre_get e h)
  | _, _, .tup ds vs a h r => .tup ds vs a (k.sqT h) (Rels.mono e k r)
  | _, _, .fl ds vs a h r => .fl ds vs a (k.sqF h) (Rels.mono e k r)
theorem Rels.mono (e : ρ <+: ρ') (k : Keep H H') : ∀ {ds : List D} {vs : List V}, Rels K ρ H ds vs → Rels K ρ' H' ds vs
  | _, _, .nil => .nil
  | _, _, .cons r t => .cons (RelD.mono e k r) (Rels.mono e k t)
end
theorem Rels.length : ∀ {ds : List D} {vs : List V}, Rels K ρ H ds vs → ds.length = vs.length
  | _, _, .nil => rfl
  | _, _, .cons _ t => by rw [List.length_cons, List.length_cons, Rels.length t]
theorem Rels.append : ∀ {ds es : List D} {vs us : List V}, Rels K ρ H ds vs → Rels K ρ H es us → Rels K ρ H (ds ++ es) (vs ++ us)
  | _, _, _, _, .nil, s => s
  | _, _, _, _, .cons r t, s => .cons r (Rels.append t s)
theorem Rels.get : ∀ {ds : List D} {vs : List V} {i : Nat} {d : D}, Rels K ρ H ds vs → ds[i]? = some d → ∃ v, vs[i]? = some v ∧ RelD K ρ H d v
  | _, _, _, _, .nil, e => by simp at e
  | _, _, 0, _, .cons r _, e => by simp at e; subst e; exact ⟨_, rfl, r⟩
  | _, _, i + 1, _, .cons _ t, e => by
    obtain ⟨u, h1, h2⟩ := Rels.get (i := i) t (by simpa using e)
    exact ⟨u, by simpa using h1, h2⟩
theorem Rels.get' : ∀ {ds : List D} {vs : List V} {i : Nat} {v : V}, Rels K ρ H ds vs → vs[i]? = some v → ∃ d, ds[i]? = some d ∧ RelD K ρ H d v
  | _, _, _, _, .nil, e => by simp at e
  | _, _, 0, _, .cons r _, e => by simp at e; subst e; exact ⟨_, rfl, r⟩
  | _, _, i + 1, _, .cons _ t, e => by
    obtain ⟨u, h1, h2⟩ := Rels.get' (i := i) t (by simpa using e)
    exact ⟨u, by simpa using h1, h2⟩
theorem Rels.set {d : D} {v : V} (r : RelD K ρ H d v) : ∀ {ds : List D} {vs : List V} (i : Nat), Rels K ρ H ds vs → Rels K ρ H (ds.set i d) (vs.set i v)
  | _, _, _, .nil => .nil
  | _, _, 0, .cons _ t => .cons r t
  | _, _, i + 1, .cons q t => .cons q (Rels.set r i t)
theorem Rels.take : ∀ {ds : List D} {vs : List V} (n : Nat), Rels K ρ H ds vs → Rels K ρ H (ds.take n) (vs.take n)
  | _, _, 0, _ => .nil
  | _, _, _ + 1, .nil => .nil
  | _, _, n + 1, .cons r t => .cons r (Rels.take n t)
theorem Rels.drop : ∀ {ds : List D} {vs : List V} (n : Nat), Rels K ρ H ds vs → Rels K ρ H (ds.drop n) (vs.drop n)
  | _, _, 0, r => r
  | _, _, _ + 1, .nil => .nil
  | _, _, n + 1, .cons _ t => Rels.drop n t
theorem Rels.reverse : ∀ {ds : List D} {vs : List V}, Rels K ρ H ds vs → Rels K ρ H ds.reverse vs.reverse
  | _, _, .nil => .nil
  | _, _, .cons r t => by
    rw [List.reverse_cons, List.reverse_cons]
    exact (Rels.reverse t).append (.cons r .nil)
end

/-- a place of the store in the heap -/
def RelO (K : PySem.W.Frag) (ρ : List Addr) (H : Hp) (a : Addr) : Ob → Prop
  | .lst ds => ∃ vs, H a = some (.lst vs) ∧ Rels K ρ H ds vs
  | .ro ds => ∃ o vs, H a = some (.frz o (.lst vs)) ∧ Rels K ρ H ds vs
structure RelS (K : PySem.W.Frag) (ρ : List Addr) (st : Store) (H : Hp) : Prop where
  len : ρ.length = st.length
  nd : ρ.Nodup
  ob : ∀ (l : Nat) (o : Ob), st[l]? = some o → ∃ a, ρ[l]? = some a ∧ RelO K ρ H a o
structure RelE (K : PySem.W.Frag) (ρ : List Addr) (env : Env) (σ : St) (H : Hp) : Prop where
  len : env.length = σ.length
  at' : ∀ (i : Nat) (d : D), env[i]? = some (some d) → ∃ v, σ[i]? = some (some v) ∧ RelD K ρ H d v
/-- fields of an exception -/
inductive RelF (K : PySem.W.Frag) (ρ : List Addr) (H : Hp) : Fs → List (Str × V) → Prop where
  | nil : RelF K ρ H [] []
  | cons {f : Str} {d : D} {v : V} {fs : Fs} {gs : List (Str × V)} : RelD K ρ H d v → RelF K ρ H fs gs → RelF K ρ H ((f, d) :: fs) ((f, v) :: gs)
/-- what holds beside (in an except suite: the exception at hand) -/
structure Amb where
  Z : List Addr → Hp → L2.St → Prop
  mono : ∀ {ρ ρ' : List Addr} {H H' : Hp} {σ : L2.St}, ρ <+: ρ' → Keep H H' → Z ρ H σ → Z ρ' H' σ
def amb0 : Amb := ⟨fun _ _ _ => True, fun _ _ _ => trivial⟩
structure Rel (K : PySem.W.Frag) (G : Amb) (ρ : List Addr) (env : Env) (st : Store) (σ : St) (H : Hp) : Prop where
  s : RelS K ρ st H
  e : RelE K ρ env σ H
  z : G.Z ρ H σ
section
variable {K : PySem.W.Frag} {G : Amb} {ρ ρ' : List Addr} {H H' : Hp} {env : Env} {st st' : Store} {σ : St}
theorem RelF.mono (e : ρ <+: ρ') (k : Keep H H') : ∀ {fs : Fs} {gs : List (Str × V)}, RelF K ρ H fs gs → RelF K ρ' H' fs gs
  | _, _, .nil => .nil
  | _, _, .cons r t => .cons (r.mono e k) (RelF.mono e k t)
theorem RelF.look {f : Str} {d : D} : ∀ {fs : Fs} {gs : List (Str × V)}, RelF K ρ H fs gs → fs.lookup f = some d → ∃ v, gs.lookup f = some v ∧ RelD K ρ H d v
  | _, _, .nil, e => by simp at e
  | _, _, .cons (f := g) r t, e => by
    simp only [List.lookup_cons] at e ⊢
    cases h : f == g with
    | true =>
      simp only [h] at e ⊢
      cases e
      exact ⟨_, rfl, r⟩
    | false =>
      simp only [h] at e ⊢
      exact RelF.look t e
theorem RelE.mono (e : ρ <+: ρ') (k : Keep H H') (r : RelE K ρ env σ H) : RelE K ρ' env σ H' :=
  ⟨r.len, fun i d h => let ⟨v, h1, h2⟩ := r.at' i d h; ⟨v, h1, h2.mono e k⟩⟩
theorem Rel.step (r : Rel K G ρ env st σ H) (e : ρ <+: ρ') (k : Keep H H') (s : RelS K ρ' st' H') : Rel K G ρ' env st' σ H' :=
  ⟨s, r.e.mono e k, G.mono e k r.z⟩
theorem getElem?_set' {α : Type} {l : List α} {i j : Nat} {a : α} : (l.set i a)[j]? = if i = j then (if j < l.length then some a else none) else l[j]? := by
  rw [List.getElem?_set]
  by_cases h : i = j
  · subst h; simp
  · simp [h]
theorem RelE.set {d : D} {v : V} {i : Nat} (r : RelE K ρ env σ H) (q : RelD K ρ H d v) : RelE K ρ (env.set i (some d)) (σ.set i (some v)) H := by
  refine ⟨by rw [List.length_set, List.length_set]; exact r.len, fun j e h => ?_⟩
  rw [getElem?_set'] at h ⊢
  by_cases hij : i = j
  · rw [if_pos hij] at h ⊢
    by_cases hj : j < env.length
    · rw [if_pos hj] at h
      cases h
      rw [if_pos (by rw [← r.len]; exact hj)]
      exact ⟨v, rfl, q⟩
    · rw [if_neg hj] at h; cases h
  · rw [if_neg hij] at h ⊢
    exact r.at' j e h
/-- slots forgotten -/
def wipeE (env : Env) : List Nat → Env
  | [] => env
  | i :: r => (wipeE env r).set i none
theorem RelE.none {i : Nat} {x : Option V} (r : RelE K ρ env σ H) : RelE K ρ (env.set i none) (σ.set i x) H := by
  refine ⟨by rw [List.length_set, List.length_set]; exact r.len, fun j e h => ?_⟩
  rw [getElem?_set'] at h ⊢
  by_cases hij : i = j
  · rw [if_pos hij] at h
    by_cases hj : j < env.length
    · rw [if_pos hj] at h; cases h
    · rw [if_neg hj] at h; cases h
  · rw [if_neg hij] at h ⊢
    exact r.at' j e h
theorem RelE.wipe (r : RelE K ρ env σ H) : ∀ (l : List Nat), RelE K ρ (wipeE env l) (wipe σ l) H
  | [] => r
  | i :: l => (RelE.wipe r l).none
theorem Rel.set {d : D} {v : V} {i : Nat} (r : Rel K amb0 ρ env st σ H) (q : RelD K ρ H d v) : Rel K amb0 ρ (env.set i (some d)) st (σ.set i (some v)) H := ⟨r.s, r.e.set q, trivial⟩
/-! the store -/
theorem RelS.ne {l m : Nat} {a b : Addr} (r : RelS K ρ st H) (h1 : ρ[l]? = some a) (h2 : ρ[m]? = some b) (h : l ≠ m) : a ≠ b := by
  intro e
  subst e
  obtain ⟨g1, e1⟩ := List.getElem?_eq_some_iff.mp h1
  obtain ⟨g2, e2⟩ := List.getElem?_eq_some_iff.mp h2
  exact h ((List.getElem_inj r.nd).mp (e1.trans e2.symm))
theorem RelO.some {a : Addr} {o : Ob} (r : RelO K ρ H a o) : ∃ u, H a = some u := by
  cases o with
  | lst ds => obtain ⟨_, h, _⟩ := r; exact ⟨_, h⟩
  | ro ds => obtain ⟨_, _, h, _⟩ := r; exact ⟨_, h⟩
theorem RelS.has {l : Nat} {a : Addr} (r : RelS K ρ st H) (h : ρ[l]? = .some a) : ∃ o, st[l]? = .some o ∧ RelO K ρ H a o := by
  have hl : l < st.length := by rw [← r.len]; exact (List.getElem?_eq_some_iff.mp h).1
  obtain ⟨a', h', q⟩ := r.ob l st[l] (by simp [hl])
  rw [h] at h'
  cases h'
  exact ⟨st[l], by simp [hl], q⟩
theorem RelO.mono {a : Addr} {o : Ob} (e : ρ <+: ρ') (k : Keep H H') (h : H' a = H a) (r : RelO K ρ H a o) : RelO K ρ' H' a o := by
  cases o with
  | lst ds =>
    obtain ⟨vs, h1, h2⟩ := r
    exact ⟨vs, h.trans h1, h2.mono e k⟩
  | ro ds =>
    obtain ⟨o, vs, h1, h2⟩ := r
    exact ⟨o, vs, k _ _ h1 trivial, h2.mono e k⟩
/-- a new immutable object: the store stands -/
theorem RelS.frame {p : Addr} {o : HO} (r : RelS K ρ st H) (hp : H p = .none) : RelS K ρ st (upd H p o) := by
  refine ⟨r.len, r.nd, fun l ob h => ?_⟩
  obtain ⟨a, h1, h2⟩ := r.ob l ob h
  obtain ⟨u, hu⟩ := h2.some
  exact ⟨a, h1, h2.mono (List.prefix_refl ρ) (Keep.new hp) (upd_ne (ne_of_none hu hp))⟩
/-- a new list -/
theorem RelS.new {p : Addr} {ds : List D} {vs : List V} (r : RelS K ρ st H) (hp : H p = .none) (q : Rels K ρ H ds vs) :
    RelS K (ρ ++ [p]) (st ++ [.lst ds]) (upd H p (.lst vs)) := by
  have pre : ρ <+: ρ ++ [p] := List.prefix_append _ _
  refine ⟨by simp [r.len], ?_, fun l ob h => ?_⟩
  · rw [List.nodup_append]
    refine ⟨r.nd, by simp, fun a ha b hb e => ?_⟩
    have hb' : b = p := by simpa using hb
    subst hb'
    subst e
    obtain ⟨l, hl, e⟩ := List.mem_iff_getElem.mp ha
    obtain ⟨o, _, h2⟩ := r.has (l := l) (a := a) (by simp [hl, e])
    obtain ⟨u, hu⟩ := h2.some
    rw [hp] at hu; cases hu
  · by_cases hl : l < st.length
    · rw [List.getElem?_append_left hl] at h
      obtain ⟨a, h1, h2⟩ := r.ob l ob h
      obtain ⟨u, hu⟩ := h2.some
      exact ⟨a, pre_get pre h1, h2.mono pre (Keep.new hp) (upd_ne (ne_of_none hu hp))⟩
    · rw [List.getElem?_append_right (Nat.le_of_not_lt hl)] at h
      have e0 : l - st.length = 0 := by
        cases h0 : l - st.length with
        | zero => rfl
        | succ n => rw [h0] at h; simp at h
      rw [e0] at h
      have e1 : l = st.length := by omega
      simp at h
      subst h
      refine ⟨p, ?_, vs, upd_same, q.mono pre (Keep.new hp)⟩
      rw [e1, ← r.len]
      simp
/-- a list written -/
theorem RelS.put {l : Nat} {a : Addr} {ds ds' : List D} {vs vs' : List V} (r : RelS K ρ st H) (hl : ρ[l]? = .some a) (ha : H a = .some (.lst vs)) (q : Rels K ρ H ds' vs') :
    RelS K ρ (st.set l (.lst ds')) (upd H a (.lst vs')) := by
  have kp : Keep H (upd H a (.lst vs')) := Keep.put ha (fun z => z)
  refine ⟨by rw [List.length_set]; exact r.len, r.nd, fun m ob h => ?_⟩
  rw [getElem?_set'] at h
  by_cases hm : l = m
  · rw [if_pos hm] at h
    by_cases h2 : m < st.length
    · rw [if_pos h2] at h
      cases h
      subst hm
      exact ⟨a, hl, vs', upd_same, q.mono (List.prefix_refl ρ) kp⟩
    · rw [if_neg h2] at h; cases h
  · rw [if_neg hm] at h
    obtain ⟨b, h1, h2⟩ := r.ob m ob h
    exact ⟨b, h1, h2.mono (List.prefix_refl ρ) kp (upd_ne (r.ne h1 hl (Ne.symm hm)))⟩
/-- reading a list -/
def itemsAt (st : Store) (l : Nat) : Option (List D) := match st[l]? with
  | some (.lst ds) => some ds
  | some (.ro ds) => some ds
  | none => none
theorem RelS.read {l : Nat} {a : Addr} {ds : List D} (r : RelS K ρ st H) (hl : ρ[l]? = .some a) (h : itemsAt st l = .some ds) : ∃ vs, SqL K H a vs ∧ Rels K ρ H ds vs := by
  obtain ⟨o, h1, h2⟩ := r.has hl
  unfold itemsAt at h
  rw [h1] at h
  cases o with
  | lst es => cases h; obtain ⟨vs, e, q⟩ := h2; exact ⟨vs, SqL.of e, q⟩
  | ro es => cases h; obtain ⟨o, vs, e, q⟩ := h2; exact ⟨vs, .inl (.inr ⟨o, e⟩), q⟩
/-- a list that may be written -/
theorem RelS.lst {l : Nat} {a : Addr} {ds : List D} (r : RelS K ρ st H) (hl : ρ[l]? = .some a) (h : st[l]? = .some (.lst ds)) : ∃ vs, H a = .some (.lst vs) ∧ Rels K ρ H ds vs := by
  obtain ⟨o, h1, h2⟩ := r.has hl
  rw [h] at h1
  cases h1
  exact h2
end
end Mi
/-! ## Mi1 -/
set_option Elab.async false
set_option linter.all false
set_option maxRecDepth 100000
set_option maxHeartbeats 2000000
namespace Mi
open PySem L2

/-! ### the weakest readings -/
def WPE (X : Cx) (e : Expr) : TE := fun σ H Q => ∃ t, PE X e t ∧ t σ H Q
def WPT (X : Cx) (e : Expr) : TT := fun σ H Q => ∃ t, PT X e t ∧ t σ H Q
def WPW (X : Cx) (e : Expr) : TT := fun σ H Q => ∃ t, PW X e t ∧ t σ H Q
def WPA (X : Cx) (es : List Expr) : TA := fun σ H Q => ∃ t, PA X es t ∧ t σ H Q
def WPO (X : Cx) (e : Option Expr) : TO := fun σ H Q => ∃ t, PO X e t ∧ t σ H Q
def WPS (X : Cx) (s : Stmt) : TS := fun D σ H => ∃ t, PS X s t ∧ t D σ H
def WPB (X : Cx) (ss : List Stmt) : TS := fun D σ H => ∃ t, PSs X ss t ∧ t D σ H
theorem wpe (X : Cx) (e : Expr) : PE X e (WPE X e) := ⟨fun p s σ H Q I ⟨_, h, q⟩ => h.run p s σ H Q I q⟩
theorem wpt (X : Cx) (e : Expr) : PT X e (WPT X e) := ⟨fun p s σ H Q I ⟨_, h, q⟩ => h.run p s σ H Q I q⟩
theorem wpw (X : Cx) (e : Expr) : PW X e (WPW X e) := ⟨fun wh p s σ H Q I ⟨_, h, q⟩ => h.run wh p s σ H Q I q⟩
theorem wpa (X : Cx) (e : List Expr) : PA X e (WPA X e) := ⟨fun pos p s σ H Q I ⟨_, h, q⟩ => h.run pos p s σ H Q I q⟩
theorem wpo (X : Cx) (e : Option Expr) : PO X e (WPO X e) := ⟨fun p s σ H Q I ⟨_, h, q⟩ => h.run p s σ H Q I q⟩
theorem wps (X : Cx) (e : Stmt) : PS X e (WPS X e) := ⟨fun p s σ H D I ⟨_, h, q⟩ => h.run p s σ H D I q⟩
theorem wpb (X : Cx) (e : List Stmt) : PSs X e (WPB X e) := ⟨fun p s σ H D I ⟨_, h, q⟩ => h.run p s σ H D I q⟩

/-! ### what is wanted behind -/
def Post {α β : Type} (K : PySem.W.Frag) (mg : Str → Option Value) (R : List Addr → Hp → α → β → Prop) (W : XK) (ρ : List Addr) (H : Hp) (o : Out α) (Q : β → Hp → Prop) : Prop :=
  match o with
  | .no => False
  | .ok a st => ∀ (ρ' : List Addr) (x : β) (H' : Hp), ρ <+: ρ' → Keep H H' → RelS K ρ' st H' → R ρ' H' a x → Q x H'
  | .ex c fs st => ∀ (ρ' : List Addr) (H' : Hp) (C dd : Addr) (gs : List (Str × V)), ρ <+: ρ' → Keep H H' → RelS K ρ' st H' → mg c = some (.ref C) → H' dd = some (.xd gs) → RelF K ρ' H' fs gs → W (.ref C) (some dd) H'
section
variable {α β γ δ : Type} {K : PySem.W.Frag} {mg : Str → Option Value} {R : List Addr → Hp → α → β → Prop} {R' : List Addr → Hp → γ → δ → Prop} {W : XK} {ρ ρ' : List Addr} {H H' : Hp}
theorem Post.later {o : Out α} {Q : β → Hp → Prop} (e : ρ <+: ρ') (k : Keep H H') (h : Post K mg R W ρ H o Q) : Post K mg R W ρ' H' o Q := by
  cases o with
  | no => exact h
  | ok a st => exact fun ρ2 x H2 e2 k2 => h ρ2 x H2 (e.trans e2) (k.trans k2)
  | ex c fs st => exact fun ρ2 H2 C dd gs e2 k2 => h ρ2 H2 C dd gs (e.trans e2) (k.trans k2)
theorem Post.bind {o : Out α} {f : α → Store → Out γ} {Q : δ → Hp → Prop} {Q1 : β → Hp → Prop} (h : Post K mg R' W ρ H (o.bind f) Q)
    (k : ∀ (ρ' : List Addr) (a : α) (st' : Store) (x : β) (H' : Hp), ρ <+: ρ' → Keep H H' → RelS K ρ' st' H' → R ρ' H' a x → Post K mg R' W ρ' H' (f a st') Q → Q1 x H') : Post K mg R W ρ H o Q1 := by
  cases o with
  | no => exact h
  | ok a st => exact fun ρ' x H' e kp s r => k ρ' a st x H' e kp s r (h.later e kp)
  | ex c fs st => exact h
end
abbrev RB : List Addr → Hp → Bool → Bool → Prop := fun _ _ a b => a = b

/-- the readings follow the meanings -/
def IsE (X : Cx) (G : Amb) (W : WX) (e : Expr) (m : ME) : Prop := ∀ (ρ : List Addr) (env : Env) (st : Store) (σ : St) (H : Hp) (Q : VK), Rel X.K G ρ env st σ H →
  Post X.K X.mg (RelD X.K) (fun c d h => W c d σ h) ρ H (m env st) Q → WPE X e σ H Q
def IsT (X : Cx) (G : Amb) (W : WX) (e : Expr) (m : MT) : Prop := ∀ (ρ : List Addr) (env : Env) (st : Store) (σ : St) (H : Hp) (Q : Bool → Hp → Prop), Rel X.K G ρ env st σ H →
  Post X.K X.mg RB (fun c d h => W c d σ h) ρ H (m env st) Q → WPT X e σ H Q
def IsW (X : Cx) (G : Amb) (W : WX) (e : Expr) (m : MT) : Prop := ∀ (ρ : List Addr) (env : Env) (st : Store) (σ : St) (H : Hp) (Q : Bool → Hp → Prop), Rel X.K G ρ env st σ H →
  Post X.K X.mg RB (fun c d h => W c d σ h) ρ H (m env st) Q → WPW X e σ H Q
def IsA (X : Cx) (G : Amb) (W : WX) (es : List Expr) (m : MA) : Prop := ∀ (ρ : List Addr) (env : Env) (st : Store) (σ : St) (H : Hp) (Q : List V → Hp → Prop), Rel X.K G ρ env st σ H →
  Post X.K X.mg (Rels X.K) (fun c d h => W c d σ h) ρ H (m env st) Q → WPA X es σ H Q
theorem RelD.pre {K : PySem.W.Frag} {ρ ρ' : List Addr} {H H' : Hp} {d : D} {v : V} (r : RelD K ρ H d v) (e : ρ <+: ρ') (k : Keep H H') : RelD K ρ' H' d v := r.mono e k

section
variable {X : Cx} {G : Amb} {W : WX} {e a b c : Expr} {es : List Expr} {pos : Pos} {m ma mb mc : ME}

/-! ### names, constants -/
def mVar (i : Nat) : ME := fun env st => match env[i]? with
  | some (some d) => .ok d st
  | _ => .no
def mC (d : D) : ME := fun _ st => .ok d st
theorem is_var {i : Nat} (h : PE X e (tVar i)) : IsE X G W e (mVar i) := by
  intro ρ env st σ H Q r hp
  unfold mVar at hp
  refine ⟨_, h, ?_⟩
  cases he : env[i]? with
  | none => rw [he] at hp; exact hp.elim
  | some o =>
    rw [he] at hp
    cases o with
    | none => exact hp.elim
    | some d =>
      obtain ⟨v, hv, rv⟩ := r.e.at' i d he
      exact ⟨v, hv, hp ρ v H (List.prefix_refl ρ) (Keep.refl H) r.s rv⟩
theorem is_c {d : D} {v : V} (h : PE X e (tC v)) (hr : ∀ ρ H, RelD X.K ρ H d v) : IsE X G W e (mC d) := by
  intro ρ env st σ H Q r hp
  exact ⟨_, h, hp ρ v H (List.prefix_refl ρ) (Keep.refl H) r.s (hr ρ H)⟩
theorem is_int {i : Int} {j : Nat} : IsE X G W (.Constant (.int i) j pos) (mC (.int i)) := is_c pe_int fun _ _ => .int i
theorem is_bl {i : Bool} {j : Nat} : IsE X G W (.Constant (.bool i) j pos) (mC (.bl i)) := is_c pe_bl fun _ _ => .bl i
theorem is_non {j : Nat} : IsE X G W (.Constant .none j pos) (mC .non) := is_c pe_non fun _ _ => .non
theorem is_str {x : Str} {j : Nat} : IsE X G W (.Constant (.str x) j pos) (mC (.str x)) := is_c pe_str fun _ _ => .str x

/-! ### two-place operations -/
def mBin (f : D → D → Store → Out D) (ma mb : ME) : ME := fun env st => (ma env st).bind fun a st => (mb env st).bind fun b st => f a b st
def IsOp (X : Cx) (pf : Value → Value → Sem Value) (f : D → D → Store → Out D) : Prop := ∀ (W : XK) (ρ : List Addr) (st : Store) (H : Hp) (a b : D) (x y : V) (Q : VK), RelS X.K ρ st H → RelD X.K ρ H a x → RelD X.K ρ H b y →
  Post X.K X.mg (RelD X.K) W ρ H (f a b st) Q → ∃ r, OpR X pf r ∧ r x y H Q
def rW (X : Cx) (pf : Value → Value → Sem Value) : R2 := fun x y H Q => ∃ r, OpR X pf r ∧ r x y H Q
theorem rW_ok (pf : Value → Value → Sem Value) : OpR X pf (rW X pf) := fun p s σ H x y v u Q I rx ry ⟨_, h, q⟩ => h p s σ H x y v u Q I rx ry q
theorem bin_go {pf : Value → Value → Sem Value} {f : D → D → Store → Out D} (ho : IsOp X pf f) (ha : IsE X G W a ma) (hb : IsE X G W b mb) {ρ : List Addr} {env : Env} {st : Store} {σ : St} {H : Hp} {Q : VK} (r : Rel X.K G ρ env st σ H)
    (hp : Post X.K X.mg (RelD X.K) (fun c d h => W c d σ h) ρ H (mBin f ma mb env st) Q) : tOp (rW X pf) (WPE X a) (WPE X b) σ H Q := by
  refine ha ρ env st σ H _ r (hp.bind fun ρ1 d1 st1 x H1 e1 k1 s1 r1 hp1 => ?_)
  refine hb ρ1 env st1 σ H1 _ (r.step e1 k1 s1) (hp1.bind fun ρ2 d2 st2 y H2 e2 k2 s2 r2 hp2 => ?_)
  exact ho _ ρ2 st2 H2 d1 d2 x y Q s2 (r1.mono e2 k2) r2 hp2
theorem is_bin {op : Operator} {f : D → D → Store → Out D} (ho : IsOp X (binaryOp op) f) (ha : IsE X G W a ma) (hb : IsE X G W b mb) : IsE X G W (.BinOp a op b pos) (mBin f ma mb) :=
  fun ρ env st σ H Q r hp => ⟨_, pe_op (rW_ok _) (wpe X a) (wpe X b), bin_go ho ha hb r hp⟩
theorem is_cmp {op : CmpOp} {f : D → D → Store → Out D} (ho : IsOp X (compareOp op) f) (ha : IsE X G W a ma) (hb : IsE X G W b mb) (hm : behindInMarks op b = false) : IsE X G W (.Compare a [op] [b] pos) (mBin f ma mb) :=
  fun ρ env st σ H Q r hp => ⟨_, pe_cmpR (rW_ok _) (wpe X a) (wpe X b) hm, bin_go ho ha hb r hp⟩
/-- a value that is a bool -/
def mB (m : ME) : MT := fun env st => (m env st).bind fun d st => match d with
  | .bl b => .ok b st
  | _ => .no
theorem is_tcmp {op : CmpOp} {f : D → D → Store → Out D} (ho : IsOp X (compareOp op) f) (ha : IsE X G W a ma) (hb : IsE X G W b mb) (hm : behindInMarks op b = false) : IsT X G W (.Compare a [op] [b] pos) (mB (mBin f ma mb)) :=
  fun ρ env st σ H Q r hp => by
    refine ⟨_, pt_cmpR (rW_ok _) (wpe X a) (wpe X b) hm, bin_go ho ha hb r ?_⟩
    refine Post.bind hp fun ρ1 d st1 x H1 e1 k1 s1 r1 hp1 => ?_
    cases d with
    | bl b =>
      cases r1
      exact ⟨b, rfl, hp1 ρ1 b H1 (List.prefix_refl _) (Keep.refl _) s1 rfl⟩
    | _ => exact hp1.elim
/-- the end of an operation that makes nothing -/
theorem post_ok {W : XK} {ρ : List Addr} {H : Hp} {st : Store} {d : D} {v : V} {Q : VK} (s : RelS X.K ρ st H) (h : Post X.K X.mg (RelD X.K) W ρ H (.ok d st) Q) (r : RelD X.K ρ H d v) : Q v H :=
  h ρ v H (List.prefix_refl _) (Keep.refl _) s r
/-- .. that makes a tuple -/
theorem post_tup {W : XK} {ρ : List Addr} {H : Hp} {st : Store} {ds : List D} {vs : List V} {Q : VK} (s : RelS X.K ρ st H) (h : Post X.K X.mg (RelD X.K) W ρ H (.ok (.tup ds) st) Q) (r : Rels X.K ρ H ds vs) {p : Addr} (hp : H p = none) : Q (.ref p) (upd H p (.tup vs)) :=
  h ρ (.ref p) _ (List.prefix_refl _) (Keep.new hp) (s.frame hp) (.tup ds vs p (SqT.of upd_same) (r.mono (List.prefix_refl _) (Keep.new hp)))
/-- .. that makes a list -/
theorem post_lst {W : XK} {ρ : List Addr} {H : Hp} {st : Store} {ds : List D} {vs : List V} {Q : VK} (s : RelS X.K ρ st H) (h : Post X.K X.mg (RelD X.K) W ρ H (.ok (.ref st.length) (st ++ [.lst ds])) Q) (r : Rels X.K ρ H ds vs) {p : Addr} (hp : H p = none) : Q (.ref p) (upd H p (.lst vs)) :=
  h (ρ ++ [p]) (.ref p) _ (List.prefix_append _ _) (Keep.new hp) (s.new hp r) (.ref st.length p (by rw [← s.len]; simp))

/-! ### arithmetic -/
def big : Int := 18446744073709551616
def fAdd (a b : D) (st : Store) : Out D := match a, b with
  | .int i, .int j => .ok (.int (i + j)) st
  | .str x, .str y => if x.length + y.length ≤ 1000000 then .ok (.str (x ++ y)) st else .no
  | .tup xs, .tup ys => if xs.length + ys.length ≤ 1000000 then .ok (.tup (xs ++ ys)) st else .no
  | .ref l, .ref m => match st[l]?, st[m]? with
    | some (.lst xs), some (.lst ys) => if xs.length + ys.length ≤ 1000000 then .ok (.ref st.length) (st ++ [.lst (xs ++ ys)]) else .no
    | _, _ => .no
  | _, _ => .no
def fSub (a b : D) (st : Store) : Out D := match a, b with
  | .int i, .int j => .ok (.int (i - j)) st
  | _, _ => .no
def fMul (a b : D) (st : Store) : Out D := match a, b with
  | .int i, .int j => if (-big < i ∧ i < big) ∨ (-big < j ∧ j < big) then .ok (.int (i * j)) st else .no
  | _, _ => .no
def fDiv (a b : D) (st : Store) : Out D := match a, b with
  | .int i, .int j => if 0 < j ∧ j < 1073741824 then .ok (.int (i / j)) st else .no
  | _, _ => .no
def fMod (a b : D) (st : Store) : Out D := match a, b with
  | .int i, .int j => if 0 < j then .ok (.int (i % j)) st else .no
  | _, _ => .no
theorem line_ok {n : Nat} (h : n ≤ 1000000) : n ≤ sizeLine := Nat.le_trans h (by decide)
theorem line_lt {n : Nat} (h : n < 1000000) : n < sizeLine := Nat.lt_of_lt_of_le h (by decide)
theorem Rels.nil_iff {K : PySem.W.Frag} {ρ : List Addr} {H : Hp} {ds : List D} {vs : List V} (r : Rels K ρ H ds vs) : vs = [] ↔ ds = [] := by
  cases r with
  | nil => simp
  | cons _ _ => simp
theorem op_add' : IsOp X (binaryOp .Add) fAdd := by
  intro W ρ st H a b x y Q s ra rb hp
  cases ra with
  | int i =>
    cases rb with
    | int j => exact ⟨_, op_add, i, j, rfl, rfl, post_ok s hp (.int _)⟩
    | _ => exact hp.elim
  | str i =>
    cases rb with
    | str j =>
      simp only [fAdd] at hp
      by_cases hl : i.length + j.length ≤ 1000000
      · rw [if_pos hl] at hp
        exact ⟨_, op_add_str, i, j, rfl, rfl, line_ok hl, post_ok s hp (.str _)⟩
      · rw [if_neg hl] at hp; exact hp.elim
    | _ => exact hp.elim
  | tup ds vs p h1 r1 =>
    cases rb with
    | tup es us q h2 r2 =>
      simp only [fAdd] at hp
      by_cases hl : ds.length + es.length ≤ 1000000
      · rw [if_pos hl] at hp
        have l1 := r1.length
        have l2 := r2.length
        refine ⟨_, op_catA, p, q, vs, us, rfl, rfl, h1, h2, line_ok (by omega), fun e => ?_, fun e e' => ?_, fun _ _ p' hp' => post_tup s hp (r1.append r2) hp'⟩
        · have e1 := r1.nil_iff.mp e
          subst e1
          exact post_ok s hp (.tup _ us q h2 r2)
        · have e1 := r2.nil_iff.mp e'
          subst e1
          rw [List.append_nil] at hp
          exact post_ok s hp (.tup _ vs p h1 r1)
      · rw [if_neg hl] at hp; exact hp.elim
    | _ => exact hp.elim
  | ref l p h1 =>
    cases rb with
    | ref m q h2 =>
      simp only [fAdd] at hp
      cases e1 : st[l]? with
      | none => rw [e1] at hp; exact hp.elim
      | some o1 =>
        cases e2 : st[m]? with
        | none => rw [e1, e2] at hp; cases o1 <;> exact hp.elim
        | some o2 =>
          rw [e1, e2] at hp
          cases o1 with
          | ro _ => exact hp.elim
          | lst xs =>
            cases o2 with
            | ro _ => exact hp.elim
            | lst ys =>
              simp only at hp
              by_cases hl : xs.length + ys.length ≤ 1000000
              · rw [if_pos hl] at hp
                obtain ⟨vs, a1, r1⟩ := s.lst h1 e1
                obtain ⟨us, a2, r2⟩ := s.lst h2 e2
                have l1 := r1.length
                have l2 := r2.length
                exact ⟨_, op_cat, p, q, vs, us, rfl, rfl, a1, a2, line_ok (by omega), fun p' hp' => post_lst s hp (r1.append r2) hp'⟩
              · rw [if_neg hl] at hp; exact hp.elim
    | _ => exact hp.elim
  | _ => exact hp.elim
theorem op_sub' : IsOp X (binaryOp .Sub) fSub := by
  intro W ρ st H a b x y Q s ra rb hp
  cases ra with
  | int i =>
    cases rb with
    | int j => exact ⟨_, op_sub, i, j, rfl, rfl, post_ok s hp (.int _)⟩
    | _ => exact hp.elim
  | _ => exact hp.elim
theorem op_mul' : IsOp X (binaryOp .Mult) fMul := by
  intro W ρ st H a b x y Q s ra rb hp
  cases ra with
  | int i =>
    cases rb with
    | int j =>
      simp only [fMul] at hp
      by_cases hl : (-big < i ∧ i < big) ∨ (-big < j ∧ j < big)
      · rw [if_pos hl] at hp
        exact ⟨_, op_mul, i, j, rfl, rfl, by simpa [CMul, big] using hl, post_ok s hp (.int _)⟩
      · rw [if_neg hl] at hp; exact hp.elim
    | _ => exact hp.elim
  | _ => exact hp.elim
theorem op_div' : IsOp X (binaryOp .FloorDiv) fDiv := by
  intro W ρ st H a b x y Q s ra rb hp
  cases ra with
  | int i =>
    cases rb with
    | int j =>
      simp only [fDiv] at hp
      by_cases hl : 0 < j ∧ j < 1073741824
      · rw [if_pos hl] at hp
        exact ⟨_, op_fdiv, i, j, rfl, rfl, hl, post_ok s hp (.int _)⟩
      · rw [if_neg hl] at hp; exact hp.elim
    | _ => exact hp.elim
  | _ => exact hp.elim
theorem op_mod' : IsOp X (binaryOp .Mod) fMod := by
  intro W ρ st H a b x y Q s ra rb hp
  cases ra with
  | int i =>
    cases rb with
    | int j =>
      simp only [fMod] at hp
      by_cases hl : 0 < j
      · rw [if_pos hl] at hp
        exact ⟨_, op_mod, i, j, rfl, rfl, hl, post_ok s hp (.int _)⟩
      · rw [if_neg hl] at hp; exact hp.elim
    | _ => exact hp.elim
  | _ => exact hp.elim

/-! ### comparisons -/
/-- == of scalars -/
def eqD : D → D → Option Bool
  | .non, .non => some true | .non, .int _ => some false | .int _, .non => some false | .non, .bl _ => some false | .bl _, .non => some false | .non, .str _ => some false | .str _, .non => some false
  | .int i, .int j => some (decide (i = j)) | .bl i, .bl j => some (decide (i = j)) | .str i, .str j => some (decide (i = j))
  | .int _, .str _ => some false | .str _, .int _ => some false | .bl _, .str _ => some false | .str _, .bl _ => some false
  | _, _ => none
def fEq (a b : D) (st : Store) : Out D := match eqD a b with
  | some k => .ok (.bl k) st
  | none => .no
def fNe (a b : D) (st : Store) : Out D := match eqD a b with
  | some k => .ok (.bl (!k)) st
  | none => .no
theorem eqD_ok {K : PySem.W.Frag} {ρ : List Addr} {H : Hp} {a b : D} {x y : V} {k : Bool} (ra : RelD K ρ H a x) (rb : RelD K ρ H b y) (h : eqD a b = some k) : scal x y = true ∧ decide (x = y) = k := by
  cases ra <;> cases rb <;> simp only [eqD] at h <;> first | (cases h; done) | (cases h; exact ⟨rfl, by simp⟩) | (have h := Option.some.inj h; subst h; refine ⟨rfl, ?_⟩; rw [Bool.eq_iff_iff]; simp)
theorem op_eq' : IsOp X (compareOp .Eq) fEq := by
  intro W ρ st H a b x y Q s ra rb hp
  unfold fEq at hp
  cases e : eqD a b with
  | none => rw [e] at hp; exact hp.elim
  | some k =>
    rw [e] at hp
    obtain ⟨h1, h2⟩ := eqD_ok ra rb e
    exact ⟨_, op_eq, h1, by rw [h2]; exact post_ok s hp (.bl _)⟩
theorem op_ne' : IsOp X (compareOp .NotEq) fNe := by
  intro W ρ st H a b x y Q s ra rb hp
  unfold fNe at hp
  cases e : eqD a b with
  | none => rw [e] at hp; exact hp.elim
  | some k =>
    rw [e] at hp
    obtain ⟨h1, h2⟩ := eqD_ok ra rb e
    exact ⟨_, op_ne, h1, by rw [h2]; exact post_ok s hp (.bl _)⟩
def fCmp (p : Int → Int → Bool) (a b : D) (st : Store) : Out D := match a, b with
  | .int i, .int j => .ok (.bl (p i j)) st
  | _, _ => .no
theorem cmp_ok {pf : Value → Value → Sem Value} {p : Int → Int → Bool} (h : OpR X pf (rI0 fun i j => .bl (p i j))) : IsOp X pf (fCmp p) := by
  intro W ρ st H a b x y Q s ra rb hp
  cases ra with
  | int i =>
    cases rb with
    | int j => exact ⟨_, h, i, j, rfl, rfl, post_ok s hp (.bl _)⟩
    | _ => exact hp.elim
  | _ => exact hp.elim
def fLt := fCmp fun i j => decide (i < j)
def fLe := fCmp fun i j => decide (i ≤ j)
def fGt := fCmp fun i j => decide (j < i)
def fGe := fCmp fun i j => decide (j ≤ i)
theorem op_lt' : IsOp X (compareOp .Lt) fLt := cmp_ok op_lt
theorem op_le' : IsOp X (compareOp .LtE) fLe := cmp_ok op_le
theorem op_gt' : IsOp X (compareOp .Gt) fGt := cmp_ok op_gt
theorem op_ge' : IsOp X (compareOp .GtE) fGe := cmp_ok op_ge
/-- x is None -/
def isN : D → Bool
  | .non => true
  | _ => false
def fIsN (a b : D) (st : Store) : Out D := match b with
  | .non => .ok (.bl (isN a)) st
  | _ => .no
def fNotN (a b : D) (st : Store) : Out D := match b with
  | .non => .ok (.bl (!isN a)) st
  | _ => .no
theorem isN_ok {K : PySem.W.Frag} {ρ : List Addr} {H : Hp} {a : D} {x : V} (r : RelD K ρ H a x) : decide (x = .non) = isN a := by
  cases r <;> simp [isN]
theorem op_isN' : IsOp X (compareOp .Is) fIsN := by
  intro W ρ st H a b x y Q s ra rb hp
  cases rb with
  | non => exact ⟨_, op_isN, rfl, by rw [isN_ok ra]; exact post_ok s hp (.bl _)⟩
  | _ => exact hp.elim
theorem op_notN' : IsOp X (compareOp .IsNot) fNotN := by
  intro W ρ st H a b x y Q s ra rb hp
  cases rb with
  | non => exact ⟨_, op_notN, rfl, by rw [isN_ok ra]; exact post_ok s hp (.bl _)⟩
  | _ => exact hp.elim
/-- x in a text -/
def inS (x y : Str) : Bool := !(Builtin.Str.occurrences y x 0 y.length 1).isEmpty
def fInS (a b : D) (st : Store) : Out D := match a, b with
  | .str x, .str y => .ok (.bl (inS x y)) st
  | _, _ => .no
def fNotInS (a b : D) (st : Store) : Out D := match a, b with
  | .str x, .str y => .ok (.bl (!inS x y)) st
  | _, _ => .no
theorem op_inS' : IsOp X (compareOp .In) fInS := by
  intro W ρ st H a b x y Q s ra rb hp
  cases ra with
  | str i =>
    cases rb with
    | str j => exact ⟨_, op_in_str, i, j, rfl, rfl, post_ok s hp (.bl _)⟩
    | _ => exact hp.elim
  | _ => exact hp.elim
theorem op_notInS' : IsOp X (compareOp .NotIn) fNotInS := by
  intro W ρ st H a b x y Q s ra rb hp
  cases ra with
  | str i =>
    cases rb with
    | str j => exact ⟨_, L2.op_notIn_str, i, j, rfl, rfl, post_ok s hp (.bl _)⟩
    | _ => exact hp.elim
  | _ => exact hp.elim

/-! ### truth -/
def truD (st : Store) : D → Option Bool
  | .non => some false
  | .bl b => some b
  | .int i => some (i != 0)
  | .str x => if x.length ≤ 1000000 then some ((x.length : Int) != 0) else none
  | .tup ds => some (!ds.isEmpty)
  | .ref l => (itemsAt st l).map fun ds => !ds.isEmpty
  | .ty _ => none
  | .fl _ => none
theorem Rels.empty {K : PySem.W.Frag} {ρ : List Addr} {H : Hp} {ds : List D} {vs : List V} (r : Rels K ρ H ds vs) : vs.isEmpty = ds.isEmpty := by
  cases r <;> rfl
theorem truD_ok {K : PySem.W.Frag} {ρ : List Addr} {st : Store} {H : Hp} {a : D} {x : V} {k : Bool} (s : RelS K ρ st H) (r : RelD K ρ H a x) (h : truD st a = some k) : TruV K x H k := by
  cases r with
  | non => exact (Option.some.inj h).symm
  | bl b => exact (Option.some.inj h).symm
  | int i => exact (Option.some.inj h).symm
  | str y =>
    simp only [truD] at h
    by_cases hl : y.length ≤ 1000000
    · rw [if_pos hl] at h
      exact ⟨line_ok hl, (Option.some.inj h).symm⟩
    · rw [if_neg hl] at h; cases h
  | ty n => cases h
  | fl _ _ _ _ _ => cases h
  | tup ds vs p h1 r1 =>
    have e := Option.some.inj h
    exact .inr (.inl ⟨vs, h1, by rw [r1.empty]; exact e.symm⟩)
  | ref l p h1 =>
    simp only [truD, Option.map_eq_some_iff] at h
    obtain ⟨ds, h2, h3⟩ := h
    obtain ⟨vs, q, r1⟩ := s.read h1 h2
    exact .inl ⟨vs, q, by rw [r1.empty]; exact h3.symm⟩
def tru (d : D) (st : Store) : Out Bool := match truD st d with
  | some k => .ok k st
  | none => .no
/-- a value's truth as a test -/
def mTru (m : ME) : MT := fun env st => (m env st).bind tru
theorem tru_go {W : XK} {γ : Type} {δ : Type} {R : List Addr → Hp → γ → δ → Prop} {ρ : List Addr} {st : Store} {H : Hp} {a : D} {x : V} {f : Bool → Store → Out γ} {Q : δ → Hp → Prop} (s : RelS X.K ρ st H) (r : RelD X.K ρ H a x)
    (hp : Post X.K X.mg R W ρ H ((tru a st).bind f) Q) : ∃ k, TruV X.K x H k ∧ Post X.K X.mg R W ρ H (f k st) Q := by
  unfold tru at hp
  cases e : truD st a with
  | none => rw [e] at hp; exact hp.elim
  | some k => rw [e] at hp; exact ⟨k, truD_ok s r e, hp⟩
theorem bind_pure {α : Type} (o : Out α) : o.bind (fun a st => .ok a st) = o := by cases o <;> rfl
theorem is_tru (ha : IsE X G W a m) (he : ∀ whole, isTrue a X.env whole = (do let v ← whole; standAt a.pos; holding [v] (truthy v))) : IsT X G W a (mTru m) := by
  intro ρ env st σ H Q r hp
  refine ⟨_, pt_truth (wpe X a) he, ha ρ env st σ H _ r (Post.bind hp fun ρ1 d st1 x H1 e1 k1 s1 r1 hp1 => ?_)⟩
  rw [← bind_pure (tru d st1)] at hp1
  obtain ⟨k, h1, h2⟩ := tru_go s1 r1 hp1
  exact ⟨k, h1, h2 ρ1 k H1 (List.prefix_refl _) (Keep.refl _) s1 rfl⟩
/-- tests: and, or, not -/
def mAndT (ma mb : MT) : MT := fun env st => (ma env st).bind fun k st => if k = true then mb env st else .ok false st
def mOrT (ma mb : MT) : MT := fun env st => (ma env st).bind fun k st => if k = true then .ok true st else mb env st
def mNotT (ma : MT) : MT := fun env st => (ma env st).bind fun k st => .ok (!k) st
theorem IsW.t {m : MT} (h : IsW X G W e m) : IsT X G W e m := fun ρ env st σ H Q r hp => ⟨_, (wpw X e).pt, h ρ env st σ H Q r hp⟩
theorem is_and1 {m : MT} (h : IsT X G W a m) : IsW X G W (.BoolOp .And [a] pos) m := fun ρ env st σ H Q r hp => ⟨_, pw_and1 (wpt X a), h ρ env st σ H Q r hp⟩
theorem is_or1 {m : MT} (h : IsT X G W a m) : IsW X G W (.BoolOp .Or [a] pos) m := fun ρ env st σ H Q r hp => ⟨_, pw_or1 (wpt X a), h ρ env st σ H Q r hp⟩
theorem is_and {m m' : MT} {rest : List Expr} (h : IsT X G W a m) (h' : IsW X G W (.BoolOp .And (b :: rest) pos) m') : IsW X G W (.BoolOp .And (a :: b :: rest) pos) (mAndT m m') := by
  intro ρ env st σ H Q r hp
  refine ⟨_, pw_and (wpt X a) (wpw X _), h ρ env st σ H _ r (Post.bind hp fun ρ1 k st1 x H1 e1 k1 s1 r1 hp1 => ?_)⟩
  subst r1
  cases k with
  | true => exact h' ρ1 env st1 σ H1 Q (r.step e1 k1 s1) hp1
  | false => exact hp1 ρ1 false H1 (List.prefix_refl _) (Keep.refl _) s1 rfl
theorem is_or {m m' : MT} {rest : List Expr} (h : IsT X G W a m) (h' : IsW X G W (.BoolOp .Or (b :: rest) pos) m') : IsW X G W (.BoolOp .Or (a :: b :: rest) pos) (mOrT m m') := by
  intro ρ env st σ H Q r hp
  refine ⟨_, pw_or (wpt X a) (wpw X _), h ρ env st σ H _ r (Post.bind hp fun ρ1 k st1 x H1 e1 k1 s1 r1 hp1 => ?_)⟩
  subst r1
  cases k with
  | false => exact h' ρ1 env st1 σ H1 Q (r.step e1 k1 s1) hp1
  | true => exact hp1 ρ1 true H1 (List.prefix_refl _) (Keep.refl _) s1 rfl
theorem is_not {m : MT} (h : IsT X G W a m) : IsT X G W (.UnaryOp .Not a pos) (mNotT m) := by
  intro ρ env st σ H Q r hp
  refine ⟨_, pt_not (wpt X a), h ρ env st σ H _ r (Post.bind hp fun ρ1 k st1 x H1 e1 k1 s1 r1 hp1 => ?_)⟩
  subst r1
  exact hp1 ρ1 (!k) H1 (List.prefix_refl _) (Keep.refl _) s1 rfl
/-- as values -/
def mAndV (ma mb : ME) : ME := fun env st => (ma env st).bind fun d st => (tru d st).bind fun k st => if k = true then mb env st else .ok d st
def mOrV (ma mb : ME) : ME := fun env st => (ma env st).bind fun d st => (tru d st).bind fun k st => if k = true then .ok d st else mb env st
def mNotV (ma : ME) : ME := fun env st => (ma env st).bind fun d st => (tru d st).bind fun k st => .ok (.bl (!k)) st
theorem is_one {op : BoolOp} {m : ME} (h : IsE X G W a m) : IsE X G W (.BoolOp op [a] pos) m := fun ρ env st σ H Q r hp => ⟨_, pe_one (wpe X a), h ρ env st σ H Q r hp⟩
theorem is_andV {m' : ME} {rest : List Expr} (h : IsE X G W a m) (h' : IsE X G W (.BoolOp .And (b :: rest) pos) m') : IsE X G W (.BoolOp .And (a :: b :: rest) pos) (mAndV m m') := by
  intro ρ env st σ H Q r hp
  refine ⟨_, pe_andT (wpe X a) (wpe X _), h ρ env st σ H _ r (Post.bind hp fun ρ1 d st1 x H1 e1 k1 s1 r1 hp1 => ?_)⟩
  obtain ⟨k, h1, h2⟩ := tru_go s1 r1 hp1
  refine ⟨k, h1, ?_⟩
  cases k with
  | true => exact h' ρ1 env st1 σ H1 Q (r.step e1 k1 s1) h2
  | false => exact h2 ρ1 x H1 (List.prefix_refl _) (Keep.refl _) s1 r1
theorem is_orV {m' : ME} {rest : List Expr} (h : IsE X G W a m) (h' : IsE X G W (.BoolOp .Or (b :: rest) pos) m') : IsE X G W (.BoolOp .Or (a :: b :: rest) pos) (mOrV m m') := by
  intro ρ env st σ H Q r hp
  refine ⟨_, pe_orT (wpe X a) (wpe X _), h ρ env st σ H _ r (Post.bind hp fun ρ1 d st1 x H1 e1 k1 s1 r1 hp1 => ?_)⟩
  obtain ⟨k, h1, h2⟩ := tru_go s1 r1 hp1
  refine ⟨k, h1, ?_⟩
  cases k with
  | false => exact h' ρ1 env st1 σ H1 Q (r.step e1 k1 s1) h2
  | true => exact h2 ρ1 x H1 (List.prefix_refl _) (Keep.refl _) s1 r1
theorem is_notV (h : IsE X G W a m) : IsE X G W (.UnaryOp .Not a pos) (mNotV m) := by
  intro ρ env st σ H Q r hp
  refine ⟨_, pe_notT (wpe X a), h ρ env st σ H _ r (Post.bind hp fun ρ1 d st1 x H1 e1 k1 s1 r1 hp1 => ?_)⟩
  obtain ⟨k, h1, h2⟩ := tru_go s1 r1 hp1
  exact ⟨k, h1, h2 ρ1 _ H1 (List.prefix_refl _) (Keep.refl _) s1 (.bl _)⟩
/-- a if t else b -/
def mIfE (mt : MT) (ma mb : ME) : ME := fun env st => (mt env st).bind fun k st => if k = true then ma env st else mb env st
theorem is_ifE {mt : MT} (ht : IsT X G W c mt) (ha : IsE X G W a ma) (hb : IsE X G W b mb) : IsE X G W (.IfExp c a b pos) (mIfE mt ma mb) := by
  intro ρ env st σ H Q r hp
  refine ⟨_, pe_ifExp (wpt X c) (wpe X a) (wpe X b), ht ρ env st σ H _ r (Post.bind hp fun ρ1 k st1 x H1 e1 k1 s1 r1 hp1 => ?_)⟩
  subst r1
  cases k with
  | true => exact ha ρ1 env st1 σ H1 Q (r.step e1 k1 s1) hp1
  | false => exact hb ρ1 env st1 σ H1 Q (r.step e1 k1 s1) hp1
/-- -x -/
def mNeg (m : ME) : ME := fun env st => (m env st).bind fun d st => match d with
  | .int i => .ok (.int (-i)) st
  | _ => .no
theorem is_neg (h : IsE X G W a m) : IsE X G W (.UnaryOp .USub a pos) (mNeg m) := by
  intro ρ env st σ H Q r hp
  refine ⟨_, pe_un un_neg (wpe X a), h ρ env st σ H _ r (Post.bind hp fun ρ1 d st1 x H1 e1 k1 s1 r1 hp1 => ?_)⟩
  cases r1 with
  | int i => exact ⟨i, rfl, post_ok s1 hp1 (.int _)⟩
  | _ => exact hp1.elim

/-! ### items and slices -/
def fIx (a b : D) (st : Store) : Out D := match a, b with
  | .str z, .int i => if z.length ≤ 1000000 then (match atI z.cps.toList i with
    | some c => .ok (.str ⟨#[c]⟩) st
    | none => .no) else .no
  | .tup ds, .int i => (match atI ds i with
    | some d => .ok d st
    | none => .no)
  | .ref l, .int i => (match itemsAt st l with
    | some ds => (match atI ds i with
      | some d => .ok d st
      | none => .no)
    | none => .no)
  | _, _ => .no
theorem Rels.atI {K : PySem.W.Frag} {ρ : List Addr} {H : Hp} {ds : List D} {vs : List V} {i : Int} {d : D} (r : Rels K ρ H ds vs) (h : atI ds i = some d) : ∃ v, L2.atI vs i = some v ∧ RelD K ρ H d v := by
  unfold L2.atI at h ⊢
  rw [r.length] at h
  cases e : ixN vs.length i with
  | none => rw [e] at h; cases h
  | some j =>
    rw [e] at h
    exact r.get h
theorem is_ix (ha : IsE X G W a ma) (hb : IsE X G W b mb) (hs : PlainIx b) : IsE X G W (.Subscript a b pos) (mBin fIx ma mb) := by
  intro ρ env st σ H Q r hp
  refine ⟨_, pe_ix ix_seq (wpe X a) (wpe X b) hs, ha ρ env st σ H _ r (Post.bind hp fun ρ1 d1 st1 x H1 e1 k1 s1 r1 hp1 => ?_)⟩
  refine hb ρ1 env st1 σ H1 _ (r.step e1 k1 s1) (hp1.bind fun ρ2 d2 st2 y H2 e2 k2 s2 r2 hp2 => ?_)
  have r1' := r1.mono e2 k2
  cases r1' with
  | str z =>
    cases r2 with
    | int i =>
      simp only [fIx] at hp2
      by_cases hl : z.length ≤ 1000000
      · rw [if_pos hl] at hp2
        cases e : atI z.cps.toList i with
        | none => rw [e] at hp2; exact hp2.elim
        | some c => rw [e] at hp2; exact .inr (.inr ⟨z, i, c, rfl, rfl, line_ok hl, e, post_ok s2 hp2 (.str _)⟩)
      · rw [if_neg hl] at hp2; exact hp2.elim
    | _ => exact hp2.elim
  | tup ds vs p h1 q1 =>
    cases r2 with
    | int i =>
      simp only [fIx] at hp2
      cases e : L2.atI ds i with
      | none => rw [e] at hp2; exact hp2.elim
      | some d =>
        rw [e] at hp2
        obtain ⟨v, e2, rv⟩ := q1.atI e
        exact .inr (.inl ⟨p, vs, i, v, rfl, rfl, h1, e2, post_ok s2 hp2 rv⟩)
    | _ => exact hp2.elim
  | ref l p h1 =>
    cases r2 with
    | int i =>
      simp only [fIx] at hp2
      cases e0 : itemsAt st2 l with
      | none => rw [e0] at hp2; exact hp2.elim
      | some ds =>
        rw [e0] at hp2
        simp only at hp2
        cases e : L2.atI ds i with
        | none => rw [e] at hp2; exact hp2.elim
        | some d =>
          rw [e] at hp2
          obtain ⟨vs, q, rs⟩ := s2.read h1 e0
          obtain ⟨v, e2, rv⟩ := rs.atI e
          exact .inl ⟨p, vs, i, v, rfl, rfl, q, e2, post_ok s2 hp2 rv⟩
    | _ => exact hp2.elim
  | _ => exact hp2.elim
/-- a bound of a slice -/
abbrev MO := Env → Store → Out (Option Int)
abbrev RO : List Addr → Hp → Option Int → Option Int → Prop := fun _ _ a b => a = b
def IsO (X : Cx) (G : Amb) (W : WX) (e : Option Expr) (m : MO) : Prop := ∀ (ρ : List Addr) (env : Env) (st : Store) (σ : St) (H : Hp) (Q : Option Int → Hp → Prop), Rel X.K G ρ env st σ H →
  Post X.K X.mg RO (fun c d h => W c d σ h) ρ H (m env st) Q → WPO X e σ H Q
def mON : MO := fun _ st => .ok none st
def mOS (m : ME) : MO := fun env st => (m env st).bind fun d st => match d with
  | .int i => .ok (some i) st
  | _ => .no
theorem is_on : IsO X G W none mON := fun ρ env st σ H Q r hp => ⟨_, po_none, hp ρ none H (List.prefix_refl _) (Keep.refl _) r.s rfl⟩
theorem is_os (h : IsE X G W a m) : IsO X G W (some a) (mOS m) := by
  intro ρ env st σ H Q r hp
  refine ⟨_, po_some (wpe X a), h ρ env st σ H _ r (Post.bind hp fun ρ1 d st1 x H1 e1 k1 s1 r1 hp1 => ?_)⟩
  cases r1 with
  | int i => exact ⟨i, rfl, hp1 ρ1 _ H1 (List.prefix_refl _) (Keep.refl _) s1 rfl⟩
  | _ => exact hp1.elim
def cutD (ds : List D) (lo hi : Option Int) : List D := (ds.drop (HT.sIx ds.length 0 lo)).take (HT.sIx ds.length ds.length hi - HT.sIx ds.length 0 lo)
def fSl (a : D) (lo hi : Option Int) (st : Store) : Out D := match a with
  | .str z => if z.length ≤ 1000000 then .ok (.str (Txt.slice z lo hi)) st else .no
  | .tup ds => .ok (.tup (cutD ds lo hi)) st
  | .ref l => (match itemsAt st l with
    | some ds => .ok (.ref st.length) (st ++ [.lst (cutD ds lo hi)])
    | none => .no)
  | _ => .no
def mSl (ma : ME) (lo hi : MO) : ME := fun env st => (ma env st).bind fun a st => (lo env st).bind fun l st => (hi env st).bind fun h st => fSl a l h st
theorem Rels.cut {K : PySem.W.Frag} {ρ : List Addr} {H : Hp} {ds : List D} {vs : List V} (r : Rels K ρ H ds vs) (lo hi : Option Int) : Rels K ρ H (cutD ds lo hi) (cutV vs lo hi) := by
  unfold cutD cutV
  rw [r.length]
  exact (r.drop _).take _
theorem cutD_all {ds : List D} {lo hi : Option Int} (h : HT.sIx ds.length 0 lo = 0 ∧ HT.sIx ds.length ds.length hi = ds.length) : cutD ds lo hi = ds := by
  unfold cutD
  rw [h.1, h.2, List.drop_zero, Nat.sub_zero, List.take_length]
def slW (X : Cx) : V → Option Int → Option Int → Hp → VK → Prop := fun x lo hi H Q => ∃ r, SlR X r ∧ r x lo hi H Q
theorem slW_ok : SlR X (slW X) := fun p s σ H x v vl vu lo hi sl Q I rx h1 h2 h3 ⟨_, h, q⟩ => h p s σ H x v vl vu lo hi sl Q I rx h1 h2 h3 q
theorem sl_go {W : XK} {ρ : List Addr} {st : Store} {H : Hp} {d : D} {x : V} {lo hi : Option Int} {Q : VK} (s : RelS X.K ρ st H) (r : RelD X.K ρ H d x) (hp : Post X.K X.mg (RelD X.K) W ρ H (fSl d lo hi st) Q) : slW X x lo hi H Q := by
  cases r with
  | str z =>
    simp only [fSl] at hp
    by_cases hl : z.length ≤ 1000000
    · rw [if_pos hl] at hp
      exact ⟨_, C8.sl_txt, z, rfl, line_ok hl, post_ok s hp (.str _)⟩
    · rw [if_neg hl] at hp; exact hp.elim
  | tup ds vs p h1 q1 =>
    have hl := q1.length
    refine ⟨_, sl_tupA, p, vs, rfl, h1, fun e => ?_, fun _ p' hp' => post_tup s hp (q1.cut lo hi) hp'⟩
    rw [← hl] at e
    simp only [fSl] at hp
    rw [cutD_all e] at hp
    exact post_ok s hp (.tup _ vs p h1 q1)
  | ref l p h1 =>
    simp only [fSl] at hp
    cases e : itemsAt st l with
    | none => rw [e] at hp; exact hp.elim
    | some ds =>
      rw [e] at hp
      obtain ⟨vs, q, rs⟩ := s.read h1 e
      exact ⟨_, sl_list, p, vs, rfl, q, fun p' hp' => post_lst s hp (rs.cut lo hi) hp'⟩
  | _ => exact hp.elim
end
end Mi
/-! ## Mi2 -/
set_option Elab.async false
set_option linter.all false
set_option maxRecDepth 100000
set_option maxHeartbeats 2000000
namespace Mi
open PySem L2
section
variable {X : Cx} {G : Amb} {W : WX} {e a b c o : Expr} {es : List Expr} {pos p2 : Pos} {m ma mb mc : ME}
theorem is_sl {lo hi : Option Expr} {ml mh : MO} (ha : IsE X G W a ma) (hl : IsO X G W lo ml) (hh : IsO X G W hi mh) : IsE X G W (.Subscript a (.Slice lo hi none p2) pos) (mSl ma ml mh) := by
  intro ρ env st σ H Q r hp
  refine ⟨_, pe_slice slW_ok (wpe X a) (wpo X lo) (wpo X hi), ha ρ env st σ H _ r (Post.bind hp fun ρ1 d1 st1 x H1 e1 k1 s1 r1 hp1 => ?_)⟩
  refine hl ρ1 env st1 σ H1 _ (r.step e1 k1 s1) (hp1.bind fun ρ2 l st2 l' H2 e2 k2 s2 r2 hp2 => ?_)
  refine hh ρ2 env st2 σ H2 _ ((r.step e1 k1 s1).step e2 k2 s2) (hp2.bind fun ρ3 h st3 h' H3 e3 k3 s3 r3 hp3 => ?_)
  cases r2; cases r3
  exact sl_go s3 ((r1.mono e2 k2).mono e3 k3) hp3

/-! ### argument lists, displays -/
def mNil : MA := fun _ st => .ok [] st
def mCons (m : ME) (r : MA) : MA := fun env st => (m env st).bind fun d st => (r env st).bind fun ds st => .ok (d :: ds) st
theorem is_nil : IsA X G W [] mNil := fun ρ env st σ H Q r hp => ⟨_, pa_nil, hp ρ [] H (List.prefix_refl _) (Keep.refl _) r.s .nil⟩
theorem is_cons {r : MA} (h : IsE X G W a m) (h' : IsA X G W es r) (hs : starEach (a :: es) X.env = (false, eval a X.env) :: starEach es X.env := by rfl) : IsA X G W (a :: es) (mCons m r) := by
  intro ρ env st σ H Q r hp
  refine ⟨_, pa_cons (wpe X a) (wpa X es) hs, h ρ env st σ H _ r (Post.bind hp fun ρ1 d1 st1 x H1 e1 k1 s1 r1 hp1 => ?_)⟩
  refine h' ρ1 env st1 σ H1 _ (r.step e1 k1 s1) (hp1.bind fun ρ2 ds st2 xs H2 e2 k2 s2 r2 hp2 => ?_)
  exact hp2 ρ2 (x :: xs) H2 (List.prefix_refl _) (Keep.refl _) s2 (.cons (r1.mono e2 k2) r2)
def mTup (r : MA) : ME := fun env st => (r env st).bind fun ds st => if ds.length ≤ 1000000 then .ok (.tup ds) st else .no
def mLst (r : MA) : ME := fun env st => (r env st).bind fun ds st => if ds.length ≤ 1000000 then .ok (.ref st.length) (st ++ [.lst ds]) else .no
theorem is_tup {r : MA} {k : Nat} (h : IsA X G W es r) : IsE X G W (.Tuple es k pos) (mTup r) := by
  intro ρ env st σ H Q r hp
  refine ⟨_, pe_tup (wpa X es), h ρ env st σ H _ r (Post.bind hp fun ρ1 ds st1 xs H1 e1 k1 s1 r1 hp1 => ?_)⟩
  by_cases hl : ds.length ≤ 1000000
  · simp only [if_pos hl] at hp1
    exact ⟨by rw [← r1.length]; exact line_ok hl, fun p hp => post_tup s1 hp1 r1 hp⟩
  · simp only [if_neg hl] at hp1; exact hp1.elim
theorem is_lst {r : MA} (h : IsA X G W es r) : IsE X G W (.List es pos) (mLst r) := by
  intro ρ env st σ H Q r hp
  refine ⟨_, pe_lst (wpa X es), h ρ env st σ H _ r (Post.bind hp fun ρ1 ds st1 xs H1 e1 k1 s1 r1 hp1 => ?_)⟩
  by_cases hl : ds.length ≤ 1000000
  · simp only [if_pos hl] at hp1
    exact ⟨by rw [← r1.length]; exact line_ok hl, fun p hp => post_lst s1 hp1 r1 hp⟩
  · simp only [if_neg hl] at hp1; exact hp1.elim

/-! ### built-in calls by values -/
def mFn (f : List D → Store → Out D) (ma : MA) : ME := fun env st => (ma env st).bind f
def IsC (X : Cx) (pf : Value) (f : List D → Store → Out D) : Prop := ∀ (W : XK) (ρ : List Addr) (st : Store) (H : Hp) (ds : List D) (xs : List V) (Q : VK), RelS X.K ρ st H → Rels X.K ρ H ds xs →
  Post X.K X.mg (RelD X.K) W ρ H (f ds st) Q → ∃ r, CallR X pf r ∧ r xs H Q
def cW (X : Cx) (pf : Value) : List V → Hp → VK → Prop := fun xs H Q => ∃ r, CallR X pf r ∧ r xs H Q
theorem cW_ok (pf : Value) : CallR X pf (cW X pf) := fun p s σ H xs us Q I rx ⟨_, h, q⟩ => h p s σ H xs us Q I rx q
theorem is_fn {x : Str} {id : String} {p : Pos} {f : List D → Store → Out D} {mr : MA} (hc : IsC X (.builtin id) f) (hg : Gl X x) (hm : X.mg x = none) (hv : bootBuiltins x = some (.builtin id)) (ha : IsA X G W (e :: es) mr) (hn : x ≠ "__name__" := by decide) (hdb : (x == ("__debug__" : Str)) = false := by decide)
    (he : starEach (e :: es) X.env = (false, eval e X.env) :: starEach es X.env := by rfl) (hpl : (backTo pos (starEach es X.env)).any (·.1) = false := by rfl) : IsE X G W (.Call (.Name x p) (e :: es) [] pos) (mFn f mr) := by
  intro ρ env st σ H Q r hp
  refine ⟨_, pe_callB (cW_ok _) hg hm hv (wpa X _) hn hdb he hpl, ha ρ env st σ H _ r (Post.bind hp fun ρ1 ds st1 xs H1 e1 k1 s1 r1 hp1 => ?_)⟩
  exact hc _ ρ1 st1 H1 ds xs Q s1 r1 hp1
theorem is_ty {x : Str} {T : String} {p : Pos} {f : List D → Store → Out D} {mr : MA} (hc : IsC X (.type T) f) (hg : Gl X x) (hm : X.mg x = none) (hv : bootBuiltins x = some (.type T)) (ha : IsA X G W (e :: es) mr) (hn : x ≠ "__name__" := by decide) (hdb : (x == ("__debug__" : Str)) = false := by decide)
    (he : starEach (e :: es) X.env = (false, eval e X.env) :: starEach es X.env := by rfl) (hpl : (backTo pos (starEach es X.env)).any (·.1) = false := by rfl) : IsE X G W (.Call (.Name x p) (e :: es) [] pos) (mFn f mr) := by
  intro ρ env st σ H Q r hp
  refine ⟨_, pe_callTy (cW_ok _) hg hm hv (wpa X _) hn hdb he hpl, ha ρ env st σ H _ r (Post.bind hp fun ρ1 ds st1 xs H1 e1 k1 s1 r1 hp1 => ?_)⟩
  exact hc _ ρ1 st1 H1 ds xs Q s1 r1 hp1
/-- a built-in type as a value -/
theorem is_tyv {x : Str} {T : String} {p : Pos} (hg : Gl X x) (hm : X.mg x = none) (hv : bootBuiltins x = some (.type T)) (hn : x ≠ "__name__" := by decide) (hdb : (x == ("__debug__" : Str)) = false := by decide) : IsE X G W (.Name x p) (mC (.ty T)) :=
  is_c (v := .ty T) (pe_bltn hg hm hv rfl hn hdb) fun _ _ => .ty T

theorem rels1 {K : PySem.W.Frag} {ρ : List Addr} {H : Hp} {d : D} {xs : List V} (r : Rels K ρ H [d] xs) : ∃ x, xs = [x] ∧ RelD K ρ H d x := by
  cases r with
  | cons r t => cases t; exact ⟨_, rfl, r⟩
theorem rels2 {K : PySem.W.Frag} {ρ : List Addr} {H : Hp} {d d' : D} {xs : List V} (r : Rels K ρ H [d, d'] xs) : ∃ x y, xs = [x, y] ∧ RelD K ρ H d x ∧ RelD K ρ H d' y := by
  cases r with
  | cons r t =>
    obtain ⟨y, rfl, q⟩ := rels1 t
    exact ⟨_, _, rfl, r, q⟩
def fLen (ds : List D) (st : Store) : Out D := match ds with
  | [.str x] => if x.length ≤ 1000000 then .ok (.int x.length) st else .no
  | [.tup es] => .ok (.int es.length) st
  | [.ref l] => (match itemsAt st l with
    | some es => .ok (.int es.length) st
    | none => .no)
  | _ => .no
theorem c_len : IsC X (.builtin "len") fLen := by
  intro W ρ st H ds xs Q s r hp
  unfold fLen at hp
  split at hp
  · obtain ⟨x, rfl, r1⟩ := rels1 r
    cases r1
    rename_i y
    by_cases hl : y.length ≤ 1000000
    · rw [if_pos hl] at hp
      exact ⟨_, call_len, .str y, y.length, rfl, ⟨line_ok hl, rfl⟩, post_ok s hp (.int _)⟩
    · rw [if_neg hl] at hp; exact hp.elim
  · obtain ⟨x, rfl, r1⟩ := rels1 r
    cases r1 with
    | tup ds vs p h1 q1 => exact ⟨_, call_len, .ref p, vs.length, rfl, .inr ⟨vs, h1, rfl⟩, by rw [← q1.length]; exact post_ok s hp (.int _)⟩
  · obtain ⟨x, rfl, r1⟩ := rels1 r
    cases r1 with
    | ref l p h1 =>
      split at hp
      · rename_i es he
        obtain ⟨vs, q, rs⟩ := s.read h1 he
        exact ⟨_, call_len, .ref p, vs.length, rfl, .inl ⟨vs, q, rfl⟩, by rw [← rs.length]; exact post_ok s hp (.int _)⟩
      · exact hp.elim
  · exact hp.elim
def fInt (ds : List D) (st : Store) : Out D := match ds with
  | [.int i] => .ok (.int i) st
  | [.str x] => (match PySem.intText? x with
    | some n => if x.length ≤ 640 then .ok (.int n) st else .no
    | none => .no)
  | _ => .no
theorem c_int : IsC X (.type "int") fInt := by
  intro W ρ st H ds xs Q s r hp
  unfold fInt at hp
  split at hp
  · obtain ⟨x, rfl, r1⟩ := rels1 r
    cases r1
    exact ⟨_, call_int1, .inl ⟨_, rfl, post_ok s hp (.int _)⟩⟩
  · obtain ⟨x, rfl, r1⟩ := rels1 r
    cases r1
    split at hp
    · rename_i n hn
      split at hp
      · rename_i hl
        exact ⟨_, call_int_str, _, n, rfl, hn, hl, post_ok s hp (.int _)⟩
      · exact hp.elim
    · exact hp.elim
  · exact hp.elim
def fStr (ds : List D) (st : Store) : Out D := match ds with
  | [.int i] => if i.natAbs.log2 < 1920 then .ok (.str (toString i)) st else .no
  | [.str x] => .ok (.str x) st
  | _ => .no
theorem c_str : IsC X (.type "str") fStr := by
  intro W ρ st H ds xs Q s r hp
  unfold fStr at hp
  split at hp
  · obtain ⟨x, rfl, r1⟩ := rels1 r
    cases r1
    split at hp
    · rename_i hl
      exact ⟨_, call_str_int, _, rfl, hl, post_ok s hp (.str _)⟩
    · exact hp.elim
  · obtain ⟨x, rfl, r1⟩ := rels1 r
    cases r1
    exact ⟨_, SkE.call_str_str, _, rfl, post_ok s hp (.str _)⟩
  · exact hp.elim
def fMin2 (ds : List D) (st : Store) : Out D := match ds with
  | [.int i, .int j] => .ok (.int (if j < i then j else i)) st
  | _ => .no
theorem c_min2 (hc : X.calm = true) : IsC X (.builtin "min") fMin2 := by
  intro W ρ st H ds xs Q s r hp
  unfold fMin2 at hp
  split at hp
  · obtain ⟨x, y, rfl, r1, r2⟩ := rels2 r
    cases r1; cases r2
    exact ⟨_, call_min2 hc, _, _, rfl, post_ok s hp (.int _)⟩
  · exact hp.elim
def fMax2 (ds : List D) (st : Store) : Out D := match ds with
  | [.int i, .int j] => .ok (.int (if j > i then j else i)) st
  | _ => .no
theorem c_max2 (hc : X.calm = true) : IsC X (.builtin "max") fMax2 := by
  intro W ρ st H ds xs Q s r hp
  unfold fMax2 at hp
  split at hp
  · obtain ⟨x, y, rfl, r1, r2⟩ := rels2 r
    cases r1; cases r2
    exact ⟨_, call_max2 hc, _, _, rfl, post_ok s hp (.int _)⟩
  · exact hp.elim
/-- list(x), tuple(x) of a list or a tuple -/
def fList (ds : List D) (st : Store) : Out D := match ds with
  | [.tup es] => .ok (.ref st.length) (st ++ [.lst es])
  | [.fl es] => .ok (.ref st.length) (st ++ [.lst es])
  | [.ref l] => (match itemsAt st l with
    | some es => .ok (.ref st.length) (st ++ [.lst es])
    | none => .no)
  | _ => .no
theorem c_list : IsC X (.type "list") fList := by
  intro W ρ st H ds xs Q s r hp
  unfold fList at hp
  split at hp
  · obtain ⟨x, rfl, r1⟩ := rels1 r
    cases r1 with
    | tup ds vs p h1 q1 => exact ⟨_, call_list_of, p, vs, rfl, .inr h1, fun p' hp' => post_lst s hp q1 hp'⟩
  · obtain ⟨x, rfl, r1⟩ := rels1 r
    cases r1 with
    | fl ds vs p h1 q1 => exact ⟨_, call_list_of, p, vs, rfl, .inl h1.sq, fun p' hp' => post_lst s hp q1 hp'⟩
  · obtain ⟨x, rfl, r1⟩ := rels1 r
    cases r1 with
    | ref l p h1 =>
      split at hp
      · rename_i es he
        obtain ⟨vs, q, rs⟩ := s.read h1 he
        exact ⟨_, call_list_of, p, vs, rfl, .inl q, fun p' hp' => post_lst s hp rs hp'⟩
      · exact hp.elim
  · exact hp.elim
def fTuple (ds : List D) (st : Store) : Out D := match ds with
  | [.tup es] => .ok (.tup es) st
  | [.ref l] => (match itemsAt st l with
    | some es => .ok (.tup es) st
    | none => .no)
  | _ => .no
theorem c_tuple : IsC X (.type "tuple") fTuple := by
  intro W ρ st H ds xs Q s r hp
  unfold fTuple at hp
  split at hp
  · obtain ⟨x, rfl, r1⟩ := rels1 r
    cases r1 with
    | tup ds vs p h1 q1 => exact ⟨_, call_tuple_of, p, vs, rfl, .inr ⟨h1, post_ok s hp (.tup _ vs p h1 q1)⟩⟩
  · obtain ⟨x, rfl, r1⟩ := rels1 r
    cases r1 with
    | ref l p h1 =>
      split at hp
      · rename_i es he
        obtain ⟨vs, q, rs⟩ := s.read h1 he
        exact ⟨_, call_tuple_of, p, vs, rfl, .inl ⟨q, fun p' hp' => post_tup s hp rs hp'⟩⟩
      · exact hp.elim
  · exact hp.elim
/-- isinstance(x, T), T a built-in type -/
def tyD (st : Store) : D → Option String
  | .non => some "NoneType"
  | .bl _ => some "bool"
  | .int _ => some "int"
  | .str _ => some "str"
  | .tup _ => some "tuple"
  | .ref l => match st[l]? with
    | some (.lst _) => some "list"
    | _ => none
  | .ty _ => none
  | .fl _ => none
def fIsi (ds : List D) (st : Store) : Out D := match ds with
  | [x, .ty T] => (match tyD st x with
    | some U => (match kitB U T with
      | some b => .ok (.bl b) st
      | none => .no)
    | none => .no)
  | _ => .no
theorem tyD_ok {K : PySem.W.Frag} {ρ : List Addr} {st : Store} {H : Hp} {d : D} {x : V} {T : String} (s : RelS K ρ st H) (r : RelD K ρ H d x) (h : tyD st d = some T) : TyX K H x (.type T) := by
  cases r with
  | non => cases h; exact .base .non
  | bl b => cases h; exact .base (.bl b)
  | int i => cases h; exact .base (.int i)
  | str z => cases h; exact .base (.str z)
  | ty n => cases h
  | fl _ _ _ _ _ => cases h
  | tup ds vs p h1 q1 =>
    cases h
    rcases h1 with (h1 | ⟨o, h1⟩) | ⟨o, its, n, h1, h2, _⟩
    · exact .base (.tup h1)
    · exact .fTuple h1
    · exact .kTuple h1 h2
  | ref l p h1 =>
    simp only [tyD] at h
    split at h
    · rename_i es he
      cases h
      obtain ⟨vs, e, _⟩ := s.lst h1 he
      exact .base (.lst e)
    · cases h
theorem c_isi : IsC X (.builtin "isinstance") fIsi := by
  intro W ρ st H ds xs Q s r hp
  unfold fIsi at hp
  split at hp
  · obtain ⟨x, y, rfl, r1, r2⟩ := rels2 r
    cases r2
    split at hp
    · rename_i U hU
      split at hp
      · rename_i b hb
        exact ⟨_, call_isi, x, _, _, _, b, rfl, .ty _, tyD_ok s r1 hU, kit_ty hb, post_ok s hp (.bl _)⟩
      · exact hp.elim
    · exact hp.elim
  · exact hp.elim

/-! ### methods of built-in types -/
def mM0 (f : D → List D → Store → Out D) (mo : ME) : ME := fun env st => (mo env st).bind fun d st => f d [] st
def mM (f : D → List D → Store → Out D) (mo : ME) (ma : MA) : ME := fun env st => (mo env st).bind fun d st => (ma env st).bind fun ds st => f d ds st
/-- T: the receiver's type, told ahead of the arguments -/
def IsM (X : Cx) (T : String) (id : String) (f : D → List D → Store → Out D) : Prop := ∀ (W : XK) (ρ : List Addr) (st : Store) (H : Hp) (d : D) (ds : List D) (x : V) (xs : List V) (Q : VK), RelS X.K ρ st H → RelD X.K ρ H d x → Rels X.K ρ H ds xs →
  Post X.K X.mg (RelD X.K) W ρ H (f d ds st) Q → ∃ r, MtR X id r ∧ r x xs H Q
def mW (X : Cx) (id : String) : V → List V → Hp → VK → Prop := fun x xs H Q => ∃ r, MtR X id r ∧ r x xs H Q
theorem mW_ok (id : String) : MtR X id (mW X id) := fun p s σ H x xs v us Q I rx rs ⟨_, h, q⟩ => h p s σ H x xs v us Q I rx rs q
/-- the receiver is of the type -/
def recv (T : String) (st : Store) (d : D) : Bool := match d with
  | .str _ => T == "str"
  | .ref l => T == "list" && (itemsAt st l).isSome
  | _ => false
theorem recv_ok {K : PySem.W.Frag} {ρ : List Addr} {st : Store} {H : Hp} {d : D} {x : V} {T : String} (s : RelS K ρ st H) (r : RelD K ρ H d x) (h : recv T st d = true) : tyV K T x H := by
  cases r with
  | str z => exact beq_iff_eq.mp h
  | ref l p h1 =>
    simp only [recv, Bool.and_eq_true, beq_iff_eq] at h
    obtain ⟨ds, e⟩ := Option.isSome_iff_exists.mp h.2
    obtain ⟨vs, q, _⟩ := s.read h1 e
    exact .inl ⟨h.1, vs, q⟩
  | _ => cases h
def mRecv (T : String) (mo : ME) : ME := fun env st => (mo env st).bind fun d st => if recv T st d = true then .ok d st else .no
theorem is_m0 {T id : String} {name : Str} {f : D → List D → Store → Out D} {mo : ME} {apos cpos : Pos} (hm : IsM X T id f) (pa : PlainAttrs T) (slot : Slot T name id) (hty : typeOf (.builtin id) = pure (.type "method_descriptor")) (ho : IsE X G W o mo)
    (hbase : attributeBase o name X.env (eval o X.env) = eval o X.env := by rfl) (hline : (apos.endLine == cpos.line) = true := by rfl) : IsE X G W (.Call (.Attribute o name apos) [] [] cpos) (mM0 f (mRecv T mo)) := by
  intro ρ env st σ H Q r hp
  unfold mM0 mRecv at hp
  refine ⟨_, pe_bm0 pa slot hty (mW_ok id) (wpe X o) hbase hline, ho ρ env st σ H _ r ?_⟩
  cases e : mo env st with
  | no => rw [e] at hp; exact hp.elim
  | ex c fs st' => rw [e] at hp; exact hp
  | ok d st1 =>
    rw [e] at hp
    simp only [Out.bind_ok] at hp
    by_cases hr : recv T st1 d = true
    · rw [if_pos hr] at hp
      exact fun ρ1 x H1 e1 k1 s1 r1 => ⟨recv_ok s1 r1 hr, hm _ ρ1 st1 H1 d [] x [] Q s1 r1 .nil (hp.later e1 k1)⟩
    · rw [if_neg hr] at hp; exact hp.elim
theorem is_m {T id : String} {name : Str} {f : D → List D → Store → Out D} {mo : ME} {mr : MA} {apos cpos : Pos} (hm : IsM X T id f) (pa : PlainAttrs T) (slot : Slot T name id) (hty : typeOf (.builtin id) = pure (.type "method_descriptor")) (ho : IsE X G W o mo) (ha : IsA X G W (e :: es) mr)
    (hbase : attributeBase o name X.env (eval o X.env) = eval o X.env := by rfl)
    (hfew : ((backTo cpos (starEach (e :: es) X.env)).all (fun x => !x.1) && (backToKw cpos (keywordEach [] X.env)).all (fun x => x.1.isSome)
      && decide ((e :: es).length + ([] : List Keyword).length + (if ([] : List Keyword).isEmpty then 0 else 1) < 30)) = true := by rfl)
    (hline : (apos.endLine == cpos.line) = true := by rfl) (hs : starEach (e :: es) X.env = (false, eval e X.env) :: starEach es X.env := by rfl) (hplain : (backTo cpos (starEach es X.env)).any (·.1) = false := by rfl) :
    IsE X G W (.Call (.Attribute o name apos) (e :: es) [] cpos) (mM f (mRecv T mo) mr) := by
  intro ρ env st σ H Q r hp
  unfold mM mRecv at hp
  refine ⟨_, pe_bm pa slot hty (mW_ok id) (wpe X o) (wpa X _) hbase hfew hline hs hplain, ho ρ env st σ H _ r ?_⟩
  cases e0 : mo env st with
  | no => rw [e0] at hp; exact hp.elim
  | ex c fs st' => rw [e0] at hp; exact hp
  | ok d st1 =>
    rw [e0] at hp
    simp only [Out.bind_ok] at hp
    by_cases hr : recv T st1 d = true
    · rw [if_pos hr] at hp
      exact fun ρ1 x H1 e1 k1 s1 r1 => ⟨recv_ok s1 r1 hr, ha ρ1 env st1 σ H1 _ (r.step e1 k1 s1) (Post.bind (hp.later e1 k1) fun ρ2 ds st2 xs H2 e2 k2 s2 r2 hp2 => hm _ ρ2 st2 H2 d ds x xs Q s2 (r1.mono e2 k2) r2 hp2)⟩
    · rw [if_neg hr] at hp; exact hp.elim
/-! lists -/
def fAppend (d : D) (ds : List D) (st : Store) : Out D := match d, ds with
  | .ref l, [y] => (match st[l]? with
    | some (.lst es) => if es.length < 1000000 then .ok .non (st.set l (.lst (es ++ [y]))) else .no
    | _ => .no)
  | _, _ => .no
theorem post_put {W : XK} {ρ : List Addr} {H : Hp} {st : Store} {d : D} {v : V} {l : Nat} {a : Addr} {es : List D} {vs vs' : List V} {Q : VK} (s : RelS X.K ρ st H) (h1 : ρ[l]? = some a) (ha : H a = some (.lst vs))
    (h : Post X.K X.mg (RelD X.K) W ρ H (.ok d (st.set l (.lst es))) Q) (r : Rels X.K ρ H es vs') (rd : RelD X.K ρ H d v) : Q v (upd H a (.lst vs')) :=
  h ρ v _ (List.prefix_refl _) (Keep.put ha fun z => z) (s.put (ds := es) h1 ha r) (rd.mono (List.prefix_refl _) (Keep.put ha fun z => z))
theorem m_append : IsM X "list" "list.append" fAppend := by
  intro W ρ st H d ds x xs Q s r rs hp
  unfold fAppend at hp
  split at hp
  · split at hp
    · rename_i es he
      split at hp
      · rename_i hl
        obtain ⟨y, rfl, ry⟩ := rels1 rs
        cases r with
        | ref l p h1 =>
          obtain ⟨vs, ea, rv⟩ := s.lst h1 he
          exact ⟨_, mt_append, p, vs, y, rfl, rfl, ea, by rw [← rv.length]; exact line_lt hl, post_put s h1 ea hp (rv.append (.cons ry .nil)) .non⟩
      · exact hp.elim
    · exact hp.elim
  · exact hp.elim
def fPop (d : D) (ds : List D) (st : Store) : Out D := match d, ds with
  | .ref l, [] => (match st[l]? with
    | some (.lst es) => (match es[es.length - 1]? with
      | some y => .ok y (st.set l (.lst es.dropLast))
      | none => .no)
    | _ => .no)
  | _, _ => .no
theorem Rels.dropLast {K : PySem.W.Frag} {ρ : List Addr} {H : Hp} {ds : List D} {vs : List V} (r : Rels K ρ H ds vs) : Rels K ρ H ds.dropLast vs.dropLast := by
  rw [List.dropLast_eq_take, List.dropLast_eq_take, r.length]
  exact r.take _
theorem m_pop : IsM X "list" "list.pop" fPop := by
  intro W ρ st H d ds x xs Q s r rs hp
  unfold fPop at hp
  split at hp
  · split at hp
    · rename_i es he
      split at hp
      · rename_i y hy
        cases rs
        cases r with
        | ref l p h1 =>
          obtain ⟨vs, ea, rv⟩ := s.lst h1 he
          rw [rv.length] at hy
          obtain ⟨v, hv, rd⟩ := rv.get hy
          exact ⟨_, mt_pop, p, vs, v, rfl, rfl, ea, hv, post_put s h1 ea hp rv.dropLast rd⟩
      · exact hp.elim
    · exact hp.elim
  · exact hp.elim
/-! texts -/
def strsOf : List D → Option (List Str)
  | [] => some []
  | .str x :: r => (strsOf r).map (x :: ·)
  | _ => none
theorem strsOf_ok {K : PySem.W.Frag} {ρ : List Addr} {H : Hp} : ∀ {ds : List D} {vs : List V} {ys : List Str}, Rels K ρ H ds vs → strsOf ds = some ys → vs = ys.map V.str
  | _, _, ys, .nil, h => by cases h; rfl
  | _, _, ys, .cons (d := d) r t, h => by
    cases r with
    | str x =>
      simp only [strsOf, Option.map_eq_some_iff] at h
      obtain ⟨zs, h1, h2⟩ := h
      subst h2
      rw [strsOf_ok t h1]
      rfl
    | _ => cases h
theorem rels_strs {K : PySem.W.Frag} {ρ : List Addr} {H : Hp} : ∀ (ys : List Str), Rels K ρ H (ys.map D.str) (ys.map V.str)
  | [] => .nil
  | y :: r => .cons (.str y) (rels_strs r)
/-- s.split(sep) -/
def fSplit (d : D) (ds : List D) (st : Store) : Out D := match d, ds with
  | .str x, [.str y] => if (y.length == 0) = false ∧ x.length ≤ 1000000 then .ok (.ref st.length) (st ++ [.lst ((Txt.split x y).map D.str)]) else .no
  | _, _ => .no
theorem m_split : IsM X "str" "str.split" fSplit := by
  intro W ρ st H d ds x xs Q s r rs hp
  unfold fSplit at hp
  split at hp
  · split at hp
    · rename_i h
      obtain ⟨y, rfl, ry⟩ := rels1 rs
      cases r; cases ry
      refine ⟨_, mt_split, _, _, rfl, rfl, h.1, ?_, fun p hp' => post_lst s hp (rels_strs _) hp'⟩
      have := h.2
      rw [show sizeLine = 16777216 from sizeLine_eq]
      omega
    · exact hp.elim
  · exact hp.elim
/-- sep.join(texts) -/
def fJoin (d : D) (ds : List D) (st : Store) : Out D := match d, ds with
  | .str x, [.tup es] => (match strsOf es with
    | some ys => if (ys.map (·.length)).sum + ys.length * x.length ≤ 1000000 then .ok (.str (Txt.join x ys)) st else .no
    | none => .no)
  | .str x, [.ref l] => (match itemsAt st l with
    | some es => (match strsOf es with
      | some ys => if (ys.map (·.length)).sum + ys.length * x.length ≤ 1000000 then .ok (.str (Txt.join x ys)) st else .no
      | none => .no)
    | none => .no)
  | _, _ => .no
theorem m_join : IsM X "str" "str.join" fJoin := by
  intro W ρ st H d ds x xs Q s r rs hp
  unfold fJoin at hp
  split at hp
  · split at hp
    · rename_i ys hy
      split at hp
      · rename_i hl
        obtain ⟨z, rfl, rz⟩ := rels1 rs
        cases r
        cases rz with
        | tup _ vs p h1 q1 =>
          have e := strsOf_ok q1 hy
          subst e
          exact ⟨_, mt_join, _, p, ys, rfl, rfl, .inr h1, by omega, post_ok s hp (.str _)⟩
      · exact hp.elim
    · exact hp.elim
  · split at hp
    · rename_i es he
      split at hp
      · rename_i ys hy
        split at hp
        · rename_i hl
          obtain ⟨z, rfl, rz⟩ := rels1 rs
          cases r
          cases rz with
          | ref l p h1 =>
            obtain ⟨vs, q, rv⟩ := s.read h1 he
            have e := strsOf_ok rv hy
            subst e
            exact ⟨_, mt_join, _, p, ys, rfl, rfl, .inl q, by omega, post_ok s hp (.str _)⟩
        · exact hp.elim
      · exact hp.elim
    · exact hp.elim
  · exact hp.elim
def fIsdigit (d : D) (ds : List D) (st : Store) : Out D := match d, ds with
  | .str x, [] => .ok (.bl (Txt.isdigit x)) st
  | _, _ => .no
theorem m_isdigit : IsM X "str" "str.isdigit" fIsdigit := by
  intro W ρ st H d ds x xs Q s r rs hp
  unfold fIsdigit at hp
  split at hp
  · cases rs
    cases r
    exact ⟨_, mt_isdigit, _, rfl, rfl, trivial, post_ok s hp (.bl _)⟩
  · exact hp.elim

/-! ### is True, is False -/
def isB (k : Bool) : D → Bool
  | .bl b => decide (b = k)
  | _ => false
def fIsB (a b : D) (st : Store) : Out D := match b with
  | .bl k => .ok (.bl (isB k a)) st
  | _ => .no
def isBV (k : Bool) : V → Bool
  | .bl b => decide (b = k)
  | _ => false
def rIsK : R2 := fun x y H Q => ∃ k, y = .bl k ∧ Q (.bl (isBV k x)) H
theorem op_isK : OpR X (compareOp .Is) rIsK := by
  intro pins s σ H x y v u Q I rx ry h
  obtain ⟨k, rfl, q⟩ := h
  have eu : u = Value.bool k := ry
  subst eu
  cases x with
  | bl i =>
    have ev : v = Value.bool i := rx
    subst ev
    refine wpAny_is_plain rfl ⟨.bl _, H, I, ?_, q⟩
    show Value.bool _ = Value.bool _
    congr 1
    cases i <;> cases k <;> rfl
  | non => cases rx; exact wpAny_is_plain rfl ⟨.bl _, H, I, rfl, q⟩
  | int i => obtain ⟨t, rfl⟩ := rx; exact wpAny_is_plain rfl ⟨.bl _, H, I, rfl, q⟩
  | str i => obtain ⟨t, rfl⟩ := rx; exact wpAny_is_plain rfl ⟨.bl _, H, I, rfl, q⟩
  | byt i => obtain ⟨t, rfl⟩ := rx; exact wpAny_is_plain rfl ⟨.bl _, H, I, rfl, q⟩
  | flt i => obtain ⟨t, rfl⟩ := rx; exact wpAny_is_plain rfl ⟨.bl _, H, I, rfl, q⟩
  | ref i => cases rx; exact wpAny_is_plain rfl ⟨.bl _, H, I, rfl, q⟩
  | ty i => cases rx; exact wpAny_is_plain rfl ⟨.bl _, H, I, rfl, q⟩
theorem op_isB' : IsOp X (compareOp .Is) fIsB := by
  intro W ρ st H a b x y Q s ra rb hp
  cases rb with
  | bl k =>
    refine ⟨_, op_isK, k, rfl, ?_⟩
    have e : isBV k x = isB k a := by cases ra <;> rfl
    rw [e]
    exact post_ok s hp (.bl _)
  | _ => exact hp.elim

/-! ### texts: repeats, f-strings -/
def fRepS (a b : D) (st : Store) : Out D := match a, b with
  | .str x, .int n => if 0 ≤ n ∧ n ≤ 1000 ∧ x.length ≤ 1000 then .ok (.str (Txt.mul x n)) st else .no
  | _, _ => .no
def rRepS : R2 := fun x y H Q => ∃ z n, x = .str z ∧ y = .int n ∧ 0 ≤ n ∧ n ≤ 1000 ∧ z.length ≤ 1000 ∧ Q (.str (Txt.mul z n)) H
theorem op_repS : OpR X (binaryOp .Mult) rRepS := by
  intro pins s σ H x y v u Q I rx ry h
  obtain ⟨z, n, rfl, rfl, h0, h1, hz, q⟩ := h
  obtain ⟨t, rfl⟩ := rx
  obtain ⟨t', rfl⟩ := ry
  refine SB.mul ⟨?_, fun _ _ => ?_, fun _ _ => ?_⟩ fun t' k => ⟨.str _, H, I.tok k, ⟨t', rfl⟩, q⟩
  · have e1 : decide (n < -(2 ^ 63 : Int)) = false := decide_eq_false (by omega)
    have e2 : decide (n ≥ 2 ^ 63) = false := decide_eq_false (by omega)
    rw [e1, e2]; rfl
  · rename_i hn _
    intro hgt
    have hn' : 0 < n := by omega
    have h2 : (2 ^ 63 - 1 : Int) / 1000 ≤ (2 ^ 63 - 1) / n := by
      refine Int.le_ediv_of_mul_le hn' ?_
      have : (2 ^ 63 - 1 : Int) / 1000 * n ≤ (2 ^ 63 - 1 : Int) / 1000 * 1000 := Int.mul_le_mul_of_nonneg_left h1 (by decide)
      omega
    omega
  · have : z.length * n.toNat ≤ 1000 * 1000 := Nat.mul_le_mul hz (by omega)
    unfold PySem.Builtin.Str.tooLong
    have hs : sizeLine = 16777216 := sizeLine_eq
    first
      | exact decide_eq_false (by omega)
      | (simp; omega)
theorem op_repS' : IsOp X (binaryOp .Mult) fRepS := by
  intro W ρ st H a b x y Q s ra rb hp
  cases ra with
  | str i =>
    cases rb with
    | int j =>
      simp only [fRepS] at hp
      split at hp
      · rename_i h
        exact ⟨_, op_repS, i, j, rfl, rfl, h.1, h.2.1, h.2.2, post_ok s hp (.str _)⟩
      · exact hp.elim
    | _ => exact hp.elim
  | _ => exact hp.elim
end
end Mi
/-! ## Mi3 -/
set_option Elab.async false
set_option linter.all false
set_option maxRecDepth 100000
set_option maxHeartbeats 2000000
namespace Mi
open PySem L2

def WPG (X : Cx) (tg : Expr) : TG := fun v σ H Q => ∃ t, PG X tg t ∧ t v σ H Q
def WPGs (X : Cx) (ts : List Expr) : TGs := fun vs σ H Q => ∃ t, PGs X ts t ∧ t vs σ H Q
def WPI (X : Cx) (tg e : Expr) : TI := fun σ H R => ∃ t, PI X tg e t ∧ t σ H R
theorem wpg (X : Cx) (e : Expr) : PG X e (WPG X e) := ⟨fun p s σ H v u Q I r ⟨_, h, q⟩ => h.run p s σ H v u Q I r q⟩
theorem wpgs (X : Cx) (e : List Expr) : PGs X e (WPGs X e) := ⟨fun p s σ H v u Q I r ⟨_, h, q⟩ => h.run p s σ H v u Q I r q⟩
theorem wpi (X : Cx) (tg e : Expr) : PI X tg e (WPI X tg e) := ⟨fun p s σ H R I ⟨_, h, q⟩ => h.run p s σ H R I q⟩

def PostS (K : PySem.W.Frag) (mg : Str → Option Value) (G : Amb) (W : WX) (ρ : List Addr) (H : Hp) (o : SOut) (E : Ends) : Prop :=
  match o with
  | .no => False
  | .nx env st => ∀ (ρ' : List Addr) (σ' : St) (H' : Hp), ρ <+: ρ' → Keep H H' → Rel K G ρ' env st σ' H' → E.nx σ' H'
  | .bk env st => ∀ (ρ' : List Addr) (σ' : St) (H' : Hp), ρ <+: ρ' → Keep H H' → Rel K G ρ' env st σ' H' → E.bk σ' H'
  | .ct env st => ∀ (ρ' : List Addr) (σ' : St) (H' : Hp), ρ <+: ρ' → Keep H H' → Rel K G ρ' env st σ' H' → E.ct σ' H'
  | .rt d st => ∀ (ρ' : List Addr) (v : V) (H' : Hp), ρ <+: ρ' → Keep H H' → RelS K ρ' st H' → RelD K ρ' H' d v → E.rt v H'
  | .ex c fs env st => ∀ (ρ' : List Addr) (σ' : St) (H' : Hp) (C dd : Addr) (gs : List (Str × V)), ρ <+: ρ' → Keep H H' → Rel K G ρ' env st σ' H' → mg c = some (.ref C) → H' dd = some (.xd gs) → RelF K ρ' H' fs gs → W (.ref C) (some dd) σ' H'
theorem PostS.later {K : PySem.W.Frag} {mg : Str → Option Value} {G : Amb} {W : WX} {ρ ρ' : List Addr} {H H' : Hp} {o : SOut} {E : Ends} (e : ρ <+: ρ') (k : Keep H H') (h : PostS K mg G W ρ H o E) : PostS K mg G W ρ' H' o E := by
  cases o with
  | no => exact h
  | nx env st => exact fun ρ2 σ2 H2 e2 k2 => h ρ2 σ2 H2 (e.trans e2) (k.trans k2)
  | bk env st => exact fun ρ2 σ2 H2 e2 k2 => h ρ2 σ2 H2 (e.trans e2) (k.trans k2)
  | ct env st => exact fun ρ2 σ2 H2 e2 k2 => h ρ2 σ2 H2 (e.trans e2) (k.trans k2)
  | rt d st => exact fun ρ2 v H2 e2 k2 => h ρ2 v H2 (e.trans e2) (k.trans k2)
  | ex c fs env st => exact fun ρ2 σ2 H2 C dd gs e2 k2 => h ρ2 σ2 H2 C dd gs (e.trans e2) (k.trans k2)
def liftE {α : Type} (o : Out α) (env : Env) (f : α → Store → SOut) : SOut := match o with
  | .no => .no
  | .ok a st => f a st
  | .ex c fs st => .ex c fs env st
@[simp] theorem liftE_ok {α : Type} (a : α) (st : Store) (env : Env) (f : α → Store → SOut) : liftE (.ok a st) env f = f a st := rfl
@[simp] theorem liftE_no {α : Type} (env : Env) (f : α → Store → SOut) : liftE (.no : Out α) env f = .no := rfl
@[simp] theorem liftE_ex {α : Type} (c : Str) (fs : Fs) (st : Store) (env : Env) (f : α → Store → SOut) : liftE (.ex c fs st : Out α) env f = .ex c fs env st := rfl
theorem PostS.lift {α β : Type} {K : PySem.W.Frag} {mg : Str → Option Value} {G : Amb} {W : WX} {R : List Addr → Hp → α → β → Prop} {ρ : List Addr} {env : Env} {st : Store} {σ : St} {H : Hp} {o : Out α} {f : α → Store → SOut} {E : Ends} {Q1 : β → Hp → Prop}
    (r : Rel K G ρ env st σ H) (h : PostS K mg G W ρ H (liftE o env f) E)
    (k : ∀ (ρ' : List Addr) (a : α) (st' : Store) (x : β) (H' : Hp), ρ <+: ρ' → Keep H H' → RelS K ρ' st' H' → R ρ' H' a x → PostS K mg G W ρ' H' (f a st') E → Q1 x H') : Post K mg R (fun c d h => W c d σ h) ρ H o Q1 := by
  cases o with
  | no => exact h
  | ok a st' => exact fun ρ' x H' e kp s ra => k ρ' a st' x H' e kp s ra (h.later e kp)
  | ex c fs st' => exact fun ρ' H' C dd gs e kp s hc hd hf => h ρ' σ H' C dd gs e kp (r.step e kp s) hc hd hf

def IsS (X : Cx) (G : Amb) (W : WX) (s : Stmt) (m : MS) : Prop := ∀ (ρ : List Addr) (env : Env) (st : Store) (σ : St) (H : Hp) (E : Ends), Rel X.K G ρ env st σ H → PostS X.K X.mg G W ρ H (m env st) E → WPS X s E σ H
def IsB (X : Cx) (G : Amb) (W : WX) (ss : List Stmt) (m : MS) : Prop := ∀ (ρ : List Addr) (env : Env) (st : Store) (σ : St) (H : Hp) (E : Ends), Rel X.K G ρ env st σ H → PostS X.K X.mg G W ρ H (m env st) E → WPB X ss E σ H
/-- a target -/
abbrev MG := D → Env → Option Env
abbrev MGs := List D → Env → Option Env
def IsG (X : Cx) (G : Amb) (own : List Nat) (tg : Expr) (g : MG) : Prop := ∀ (ρ : List Addr) (env env' : Env) (st : Store) (σ : St) (H : Hp) (d : D) (v : V) (Q : St → Hp → Prop), Rel X.K G ρ env st σ H → RelD X.K ρ H d v → g d env = some env' →
  (∀ σ', Rel X.K G ρ env' st σ' H → wipe σ' own = wipe σ own → Q σ' H) → WPG X tg v σ H Q
def IsGs (X : Cx) (G : Amb) (own : List Nat) (ts : List Expr) (g : MGs) : Prop := ∀ (ρ : List Addr) (env env' : Env) (st : Store) (σ : St) (H : Hp) (ds : List D) (vs : List V) (Q : St → Hp → Prop), Rel X.K G ρ env st σ H → Rels X.K ρ H ds vs → g ds env = some env' →
  (∀ σ', Rel X.K G ρ env' st σ' H → wipe σ' own = wipe σ own → Q σ' H) → WPGs X ts vs σ H Q
theorem wipe_get (σ : St) : ∀ (own : List Nat) (k : Nat), (wipe σ own)[k]? = if k ∈ own then (if k < σ.length then some none else none) else σ[k]?
  | [], k => by simp [wipe]
  | j :: r, k => by
    show ((wipe σ r).set j none)[k]? = _
    rw [getElem?_set', wipe_get σ r k, wipe_length]
    by_cases h : j = k
    · subst h; simp
    · rw [if_neg h]
      by_cases h2 : k ∈ r
      · simp [h2]
      · have : k ∉ j :: r := by simp [h2, Ne.symm h]
        rw [if_neg h2, if_neg this]
theorem wipe_set {σ : St} {own : List Nat} {i : Nat} {x : Option V} (h : i ∈ own) : wipe (σ.set i x) own = wipe σ own := by
  apply List.ext_getElem?
  intro k
  rw [wipe_get, wipe_get, List.length_set]
  by_cases hk : k ∈ own
  · simp [hk]
  · have hik : ¬ i = k := fun e => by subst e; exact hk h
    rw [if_neg hk, if_neg hk, getElem?_set', if_neg hik]
theorem wipe_wipe (σ : St) (own : List Nat) : wipe (wipe σ own) own = wipe σ own := by
  apply List.ext_getElem?
  intro k
  rw [wipe_get, wipe_get, wipe_length]
  by_cases hk : k ∈ own <;> simp [hk]
section
variable {X : Cx} {G : Amb} {W : WX} {e a b c o : Expr} {es : List Expr} {pos p2 pos' : Pos} {m ma mb mc : ME} {s : Stmt} {ss ss' : List Stmt} {k1 k2 : MS} {own : List Nat}
def gN (i : Nat) : MG := fun d env => some (env.set i (some d))
theorem is_gN {i : Nat} {x : Str} (ho : i ∈ own) (hN : X.N.Nodup) (hi : X.N[i]? = some x) (hx : Loc X.env.scope x) (hf : X.fn x = true ∨ X.env.scope.names.lookup x = some .local := by first | exact .inl rfl | exact .inr rfl | assumption) : IsG X amb0 own (.Name x pos) (gN i) := by
  intro ρ env env' st σ H d v Q r rd h k
  cases h
  exact ⟨_, pg_name hN hi hx hf, k _ (r.set rd) (wipe_set ho)⟩
def gsNil : MGs := fun ds env => match ds with
  | [] => some env
  | _ => none
def gsCons (g : MG) (gs : MGs) : MGs := fun ds env => match ds with
  | d :: r => (match g d env with
    | some env' => gs r env'
    | none => none)
  | [] => none
theorem is_gsNil : IsGs X G own [] gsNil := by
  intro ρ env env' st σ H ds vs Q r rs h k
  cases rs with
  | nil => cases h; exact ⟨_, pgs_nil, rfl, k _ r rfl⟩
  | cons _ _ => cases h
theorem is_gsCons {g : MG} {gs : MGs} (h1 : IsG X G own a g) (h2 : IsGs X G own es gs) (hs : (assignEach (a :: es) X.env).map (·.2) = assign a X.env :: (assignEach es X.env).map (·.2) := by rfl) : IsGs X G own (a :: es) (gsCons g gs) := by
  intro ρ env env' st σ H ds vs Q r rs h k
  cases rs with
  | nil => cases h
  | cons rd rt =>
    simp only [gsCons] at h
    split at h
    · rename_i env1 he
      exact ⟨_, pgs_cons (wpg X a) (wpgs X es) hs, _, _, rfl, h1 ρ env env1 st σ H _ _ _ r rd he fun σ1 r1 w1 => h2 ρ env1 env' st σ1 H _ _ Q r1 rt h fun σ2 r2 w2 => k σ2 r2 (w2.trans w1)⟩
    · cases h
def gTupM (gs : MGs) : MG := fun d env => match d with
  | .tup ds => gs ds env
  | _ => none
theorem is_gTup {gs : MGs} {k : Nat} {n : Nat} (hc : X.calm = true) (h : IsGs X G own es gs) (hlen : ∀ ds env env', gs ds env = some env' → ds.length = n) (hn : (assignEach es X.env).length = n := by rfl) (hst : (assignEach es X.env).findIdx? (·.1) = none := by rfl) : IsG X G own (.Tuple es k pos) (gTupM gs) := by
  intro ρ env env' st σ H d v Q r rd hg kk
  cases rd with
  | tup ds vs p h1 q1 =>
    have hl := hlen ds env env' hg
    exact ⟨_, pg_tup hc (wpgs X es) hn hst, p, vs, rfl, h1, by rw [← q1.length]; exact hl, h ρ env env' st σ H ds vs Q r q1 hg kk⟩
  | _ => cases hg
theorem gsNil_len {ds : List D} {env env' : Env} (h : gsNil ds env = some env') : ds.length = 0 := by
  cases ds with
  | nil => rfl
  | cons _ _ => cases h
theorem gsCons_len {g : MG} {gs : MGs} {n : Nat} (hs : ∀ ds env env', gs ds env = some env' → ds.length = n) (ds : List D) (env env' : Env) (h : gsCons g gs ds env = some env') : ds.length = n + 1 := by
  cases ds with
  | nil => cases h
  | cons d r =>
    simp only [gsCons] at h
    split at h
    · rw [List.length_cons, hs _ _ _ h]
    · cases h

/-! ### plain statements -/
def kSkip : MS := fun env st => .nx env st
def kSeq (a b : MS) : MS := fun env st => match a env st with
  | .nx env st => b env st
  | o => o
def kExpr (m : ME) : MS := fun env st => liftE (m env st) env fun _ st => .nx env st
def kSet (i : Nat) (m : ME) : MS := fun env st => liftE (m env st) env fun d st => .nx (env.set i (some d)) st
def kAsg (g : MG) (m : ME) : MS := fun env st => liftE (m env st) env fun d st => match g d env with
  | some env' => .nx env' st
  | none => .no
def kRet (m : ME) : MS := fun env st => liftE (m env st) env fun d st => .rt d st
def kRetN : MS := fun _ st => .rt .non st
def kIf (t : MT) (a b : MS) : MS := fun env st => liftE (t env st) env fun k st => if k = true then a env st else b env st
def kBrk : MS := fun env st => .bk env st
def kCt : MS := fun env st => .ct env st
theorem is_bnil : IsB X G W [] kSkip := fun ρ env st σ H E r hp => ⟨_, pss_nil, hp ρ σ H (List.prefix_refl _) (Keep.refl _) r⟩
theorem is_seq (h1 : IsS X G W s k1) (h2 : IsB X G W ss k2) : IsB X G W (s :: ss) (kSeq k1 k2) := by
  intro ρ env st σ H E r hp
  refine ⟨_, pss_cons (wps X s) (wpb X ss), h1 ρ env st σ H _ r ?_⟩
  unfold kSeq at hp
  cases e0 : k1 env st with
  | nx env' st' => rw [e0] at hp; exact fun ρ' σ' H' e k r' => h2 ρ' env' st' σ' H' E r' (hp.later e k)
  | no => rw [e0] at hp; exact hp
  | bk env' st' => rw [e0] at hp; exact hp
  | ct env' st' => rw [e0] at hp; exact hp
  | rt d st' => rw [e0] at hp; exact hp
  | ex c fs env' st' => rw [e0] at hp; exact hp
theorem is_last (h1 : IsS X G W s k1) : IsB X G W [s] k1 := fun ρ env st σ H E r hp => ⟨_, pss_one (wps X s), h1 ρ env st σ H E r hp⟩
theorem is_pass : IsS X G W (.Pass pos) kSkip := fun ρ env st σ H E r hp => ⟨_, ps_pass, hp ρ σ H (List.prefix_refl _) (Keep.refl _) r⟩
theorem is_break : IsS X G W (.Break pos) kBrk := fun ρ env st σ H E r hp => ⟨_, ps_break, hp ρ σ H (List.prefix_refl _) (Keep.refl _) r⟩
theorem is_cont : IsS X G W (.Continue pos) kCt := fun ρ env st σ H E r hp => ⟨_, ps_continue, hp ρ σ H (List.prefix_refl _) (Keep.refl _) r⟩
theorem is_expr (h : IsE X G W a m) (hs : swapsWith a none pos.line X.env = pure false := by rfl) : IsS X G W (.Expr a pos) (kExpr m) := by
  intro ρ env st σ H E r hp
  exact ⟨_, ps_expr (wpe X a) hs, h ρ env st σ H _ r (PostS.lift r hp fun ρ1 d st1 x H1 e1 k1 s1 r1 hp1 => hp1 ρ1 σ H1 (List.prefix_refl _) (Keep.refl _) (r.step e1 k1 s1))⟩
theorem is_set {i : Nat} {x : Str} (hN : X.N.Nodup) (hi : X.N[i]? = some x) (hx : Loc X.env.scope x) (h : IsE X amb0 W a m) (hs : swapsWith a (some (.Name x pos')) pos.line X.env = pure false := by rfl) (hf : X.fn x = true ∨ X.env.scope.names.lookup x = some .local := by first | exact .inl rfl | exact .inr rfl | assumption) :
    IsS X amb0 W (.Assign [.Name x pos'] a pos) (kSet i m) := by
  intro ρ env st σ H E r hp
  exact ⟨_, ps_set hN hi hx (wpe X a) hs hf, h ρ env st σ H _ r (PostS.lift r hp fun ρ1 d st1 x H1 e1 k1 s1 r1 hp1 => hp1 ρ1 _ H1 (List.prefix_refl _) (Keep.refl _) ((r.step e1 k1 s1).set r1))⟩
theorem is_asg {g : MG} (h : IsE X G W a m) (hg : IsG X G own b g) (hs : swapsWithSole [b] a pos.line X.env = pure false := by rfl) (hw : swappedStores [b] a X.env = pure none := by rfl) (h1 : (assignEach [b] X.env).map (·.2) = [assign b X.env] := by rfl) :
    IsS X G W (.Assign [b] a pos) (kAsg g m) := by
  intro ρ env st σ H E r hp
  refine ⟨_, ps_asg (wpe X a) (wpg X b) hs hw h1, h ρ env st σ H _ r (PostS.lift r hp fun ρ1 d st1 x H1 e1 k1 s1 r1 hp1 => ?_)⟩
  cases e : g d env with
  | none => simp only [e] at hp1; exact hp1.elim
  | some env' =>
    simp only [e] at hp1
    exact hg ρ1 env env' st1 σ H1 d x _ (r.step e1 k1 s1) r1 e fun σ' r' _ => hp1 ρ1 σ' H1 (List.prefix_refl _) (Keep.refl _) r'
theorem is_ret (h : IsE X G W a m) : IsS X G W (.Return (some a) pos) (kRet m) := by
  intro ρ env st σ H E r hp
  exact ⟨_, ps_ret (wpe X a), h ρ env st σ H _ r (PostS.lift r hp fun ρ1 d st1 x H1 e1 k1 s1 r1 hp1 => hp1 ρ1 x H1 (List.prefix_refl _) (Keep.refl _) s1 r1)⟩
theorem is_retN : IsS X G W (.Return none pos) kRetN := fun ρ env st σ H E r hp => ⟨_, ps_retN, hp ρ .non H (List.prefix_refl _) (Keep.refl _) r.s .non⟩
theorem is_if {t : MT} (ht : IsT X G W c t) (ha : IsB X G W ss k1) (hb : IsB X G W ss' k2) : IsS X G W (.If c ss ss' pos) (kIf t k1 k2) := by
  intro ρ env st σ H E r hp
  refine ⟨_, ps_if (wpt X c) (wpb X ss) (wpb X ss'), ht ρ env st σ H _ r (PostS.lift r hp fun ρ1 k st1 x H1 e1 kp1 s1 r1 hp1 => ?_)⟩
  subst r1
  cases k with
  | true => exact ha ρ1 env st1 σ H1 E (r.step e1 kp1 s1) hp1
  | false => exact hb ρ1 env st1 σ H1 E (r.step e1 kp1 s1) hp1
/-- a, b = x, y -/
def kPar (i j : Nat) (r : MA) : MS := fun env st => liftE (r env st) env fun ds st => match ds with
  | [d, d'] => .nx ((env.set i (some d)).set j (some d')) st
  | _ => .no
theorem is_par {i j : Nat} {x y : Str} {px py pt : Pos} {kt k2 pt2} {r : MA} (hc : X.calm = true) (hN : X.N.Nodup) (hi : X.N[i]? = some x) (hj : X.N[j]? = some y) (hij : i ≠ j)
    (hx : X.env.scope.names.lookup x = some .local) (hy : X.env.scope.names.lookup y = some .local) (ha : IsA X amb0 W [a, b] r)
    (hw : swappedStores [.Tuple [.Name x px, .Name y py] kt pt] (.Tuple [a, b] k2 pt2) X.env = pure (some [x, y]))
    (hs : swapsWithSole [.Tuple [.Name x px, .Name y py] kt pt] (.Tuple [a, b] k2 pt2) pos.line X.env = pure false := by rfl) :
    IsS X amb0 W (.Assign [.Tuple [.Name x px, .Name y py] kt pt] (.Tuple [a, b] k2 pt2) pos) (kPar i j r) := by
  intro ρ env st σ H E rl hp
  refine ⟨_, ps_par hc hN hi hj hij hx hy (wpa X _) hw hs, ha ρ env st σ H _ rl (PostS.lift rl hp fun ρ1 ds st1 xs H1 e1 k1 s1 r1 hp1 => ?_)⟩
  match ds, r1, hp1 with
  | [d, d'], .cons q1 (.cons q2 .nil), hp1 => exact ⟨_, _, rfl, hp1 ρ1 _ H1 (List.prefix_refl _) (Keep.refl _) (((rl.step e1 k1 s1).set q1).set q2)⟩
  | [], _, hp1 => exact hp1.elim
  | [_], _, hp1 => exact hp1.elim
  | _ :: _ :: _ :: _, _, hp1 => exact hp1.elim
def kPar3 (i j l : Nat) (r : MA) : MS := fun env st => liftE (r env st) env fun ds st => match ds with
  | [d, d', d''] => .nx (((env.set i (some d)).set j (some d')).set l (some d'')) st
  | _ => .no
theorem is_par3 {i j l : Nat} {x y z : Str} {px py pz pt : Pos} {kt k2 pt2} {r : MA} (hc : X.calm = true) (hN : X.N.Nodup) (hi : X.N[i]? = some x) (hj : X.N[j]? = some y) (hl : X.N[l]? = some z) (hij : i ≠ j) (hil : i ≠ l) (hjl : j ≠ l)
    (hx : X.env.scope.names.lookup x = some .local) (hy : X.env.scope.names.lookup y = some .local) (hz : X.env.scope.names.lookup z = some .local) (ha : IsA X amb0 W [a, b, c] r)
    (hw : swappedStores [.Tuple [.Name x px, .Name y py, .Name z pz] kt pt] (.Tuple [a, b, c] k2 pt2) X.env = pure (some [x, y, z]))
    (hs : swapsWithSole [.Tuple [.Name x px, .Name y py, .Name z pz] kt pt] (.Tuple [a, b, c] k2 pt2) pos.line X.env = pure false := by rfl) :
    IsS X amb0 W (.Assign [.Tuple [.Name x px, .Name y py, .Name z pz] kt pt] (.Tuple [a, b, c] k2 pt2) pos) (kPar3 i j l r) := by
  intro ρ env st σ H E rl hp
  refine ⟨_, ps_par3 hc hN hi hj hl hij hil hjl hx hy hz (wpa X _) hw hs, ha ρ env st σ H _ rl (PostS.lift rl hp fun ρ1 ds st1 xs H1 e1 k1 s1 r1 hp1 => ?_)⟩
  match ds, r1, hp1 with
  | [d, d', d''], .cons q1 (.cons q2 (.cons q3 .nil)), hp1 => exact ⟨_, _, _, rfl, hp1 ρ1 _ H1 (List.prefix_refl _) (Keep.refl _) ((((rl.step e1 k1 s1).set q1).set q2).set q3)⟩
  | [], _, hp1 => exact hp1.elim
  | [_], _, hp1 => exact hp1.elim
  | [_, _], _, hp1 => exact hp1.elim
  | _ :: _ :: _ :: _ :: _, _, hp1 => exact hp1.elim
/-- o[i] = e -/
def setF (o i d : D) (st : Store) : Out Unit := match o, i with
  | .ref l, .int k => (match st[l]? with
    | some (.lst es) => (match ixN es.length k with
      | some j => .ok () (st.set l (.lst (es.set j d)))
      | none => .no)
    | _ => .no)
  | _, _ => .no
def kSetIx (mo mi m : ME) : MS := fun env st => liftE (m env st) env fun d st => liftE (mo env st) env fun o st => liftE (mi env st) env fun i st => liftE (setF o i d st) env fun _ st => .nx env st
theorem is_setIx {mo mi : ME} (h : IsE X G W a m) (ho : IsE X G W o mo) (hi : IsE X G W e mi)
    (ha : ∀ v, assign (.Subscript o e pos') X.env v = (do
      let ov ← holding [v] (eval o X.env)
      let iv ← holding [v, ov] (eval e X.env)
      standAt pos'
      holding [v, ov, iv] (setItem ov iv v)
      release [v, ov, iv] []) := by intro _; rfl)
    (hs : swapsWithSole [.Subscript o e pos'] a pos.line X.env = pure false := by rfl) (hw : swappedStores [.Subscript o e pos'] a X.env = pure none := by rfl) (h1 : (assignEach [.Subscript o e pos'] X.env).map (·.2) = [assign (.Subscript o e pos') X.env] := by rfl) :
    IsS X G W (.Assign [.Subscript o e pos'] a pos) (kSetIx mo mi m) := by
  intro ρ env st σ H E r hp
  refine ⟨_, ps_asg (wpe X a) (pg_sub (wpe X o) (wpe X e) set_list ha) hs hw h1, h ρ env st σ H _ r (PostS.lift r hp fun ρ1 d st1 x H1 e1 k1 s1 r1 hp1 => ?_)⟩
  have rr1 := r.step e1 k1 s1
  refine ho ρ1 env st1 σ H1 _ rr1 (PostS.lift rr1 hp1 fun ρ2 od st2 ov H2 e2 k2 s2 r2 hp2 => ?_)
  have rr2 := rr1.step e2 k2 s2
  refine hi ρ2 env st2 σ H2 _ rr2 (PostS.lift rr2 hp2 fun ρ3 id st3 iv H3 e3 k3 s3 r3 hp3 => ?_)
  have rr3 := rr2.step e3 k3 s3
  have r2' := r2.mono e3 k3
  have r1' := (r1.mono e2 k2).mono e3 k3
  unfold setF at hp3
  cases r2' with
  | ref l p hl =>
    cases r3 with
    | int k =>
      simp only at hp3
      cases e4 : st3[l]? with
      | none => simp only [e4] at hp3; exact hp3.elim
      | some ob =>
        simp only [e4] at hp3
        cases ob with
        | ro _ => exact hp3.elim
        | lst es =>
          simp only at hp3
          cases e5 : ixN es.length k with
          | none => simp only [e5] at hp3; exact hp3.elim
          | some j =>
            simp only [e5] at hp3
            obtain ⟨vs, ea, rv⟩ := s3.lst hl e4
            refine ⟨p, vs, k, j, rfl, rfl, ea, by rw [← rv.length]; exact e5, ?_⟩
            have kp := Keep.put (o := .lst (vs.set j x)) ea fun z => z
            exact hp3 ρ3 σ _ (List.prefix_refl _) kp (rr3.step (List.prefix_refl _) kp (s3.put (ds := es) hl ea (rv.set r1' j)))
    | _ => exact hp3.elim
  | _ => exact hp3.elim

/-! ### loops -/
structure Src where
  item : Nat → Store → Option (Option D)
  size : Store → Nat
def sLive (l : Nat) : Src := ⟨fun i st => (itemsAt st l).map fun ds => ds[i]?, fun st => ((itemsAt st l).getD []).length⟩
def sItems (ds : List D) : Src := ⟨fun i _ => some ds[i]?, fun _ => ds.length⟩
abbrev MI := Env → Store → Out Src
def RI (K : PySem.W.Frag) : List Addr → Hp → Src → It → Prop := fun ρ0 H0 src J => ∀ (i : Nat) (ρ : List Addr) (st : Store) (H : Hp), ρ0 <+: ρ → Keep H0 H → RelS K ρ st H →
  (∀ d, src.item i st = some (some d) → J.go i H ∧ ∀ x H', J.yld i H x H' → Keep H H' ∧ RelS K ρ st H' ∧ RelD K ρ H' d x) ∧ (src.item i st = some none → J.stop i H)
theorem RI.mono {K : PySem.W.Frag} {ρ ρ' : List Addr} {H H' : Hp} {src : Src} {J : It} (e : ρ <+: ρ') (k : Keep H H') (h : RI K ρ H src J) : RI K ρ' H' src J := fun i ρ2 st H2 e2 k2 => h i ρ2 st H2 (e.trans e2) (k.trans k2)
def IsI (X : Cx) (G : Amb) (W : WX) (tg e : Expr) (m : MI) : Prop := ∀ (ρ : List Addr) (env : Env) (st : Store) (σ : St) (H : Hp) (R : It → Hp → Prop), Rel X.K G ρ env st σ H →
  Post X.K X.mg (RI X.K) (fun c d h => W c d σ h) ρ H (m env st) R → WPI X tg e σ H R
def loopS (src : Src) (g : MG) (body : MS) : Nat → Nat → Env → Store → SOut
  | 0, i, env, st => (match src.item i st with
    | some none => .nx env st
    | _ => .no)
  | n + 1, i, env, st => (match src.item i st with
    | none => .no
    | some none => .nx env st
    | some (some d) => (match g d env with
      | none => .no
      | some env1 => (match body env1 st with
        | .nx e s => loopS src g body n (i + 1) e s
        | .ct e s => loopS src g body n (i + 1) e s
        | .bk e s => .nx e s
        | o => o)))
def kFor (mi : MI) (g : MG) (body : MS) : MS := fun env st => liftE (mi env st) env fun src st => loopS src g body (src.size st) 0 env st
theorem is_for {mi : MI} {g : MG} {body : MS} (hp : PassesOwn (model X.prog X.w) X.A X.env X.xe) (hc : X.calm = true) (hi : IsI X G W a e mi) (hg : IsG X G own a g) (hb : IsB X G W ss body)
    (hs : ∀ x, foldedSetIterable e X.env x = pure x := by intro _; rfl) : IsS X G W (.For a e ss [] pos) (kFor mi g body) := by
  intro ρ env st σ H E r hpo
  refine ⟨_, ps_for hp hc (wpi X a e) (wpg X a) (wpb X ss) hs, hi ρ env st σ H _ r (PostS.lift r hpo fun ρ1 src st1 J H1 e1 k1 s1 r1 hp1 => ?_)⟩
  refine ⟨fun i m σ H => ∃ ρ env st, ρ1 <+: ρ ∧ Keep H1 H ∧ Rel X.K G ρ env st σ H ∧ PostS X.K X.mg G W ρ H (loopS src g body m i env st) E, ⟨_, ρ1, env, st1, List.prefix_refl _, Keep.refl _, r.step e1 k1 s1, hp1⟩, ?_⟩
  rintro i n σ2 H2 ⟨ρ2, env2, st2, e2, kp2, r2, hp2⟩
  obtain ⟨ri1, ri2⟩ := r1 i ρ2 st2 H2 e2 kp2 r2.s
  cases n with
  | zero =>
    unfold loopS at hp2
    split at hp2
    · rename_i he
      exact .inl ⟨ri2 he, hp2 ρ2 σ2 H2 (List.prefix_refl _) (Keep.refl _) r2⟩
    · exact hp2.elim
  | succ n =>
    unfold loopS at hp2
    split at hp2
    · exact hp2.elim
    · rename_i he
      exact .inl ⟨ri2 he, hp2 ρ2 σ2 H2 (List.prefix_refl _) (Keep.refl _) r2⟩
    · rename_i d he
      obtain ⟨go, yl⟩ := ri1 d he
      split at hp2
      · exact hp2.elim
      · rename_i env3 hg3
        refine .inr ⟨go, fun σ' H' => ∃ ρ env st, ρ1 <+: ρ ∧ Keep H1 H' ∧ Rel X.K G ρ env st σ' H' ∧ PostS X.K X.mg G W ρ H' (loopS src g body n (i + 1) env st) E, fun σ' H' h => ⟨n, Nat.lt_succ_self n, h⟩, fun x H' hy => ?_⟩
        obtain ⟨kp3, s3, rd3⟩ := yl x H' hy
        refine hg ρ2 env2 env3 st2 σ2 H' d x _ (r2.step (List.prefix_refl _) kp3 s3) rd3 hg3 fun σ4 r4 _ => ?_
        refine hb ρ2 env3 st2 σ4 H' _ r4 ?_
        have hp3 := hp2.later (List.prefix_refl _) kp3
        cases e4 : body env3 st2 with
        | no => rw [e4] at hp3; exact hp3
        | nx env5 st5 => rw [e4] at hp3; exact fun ρ5 σ5 H5 e5 kp5 r5 => ⟨ρ5, env5, st5, e2.trans e5, (kp2.trans kp3).trans kp5, r5, hp3.later e5 kp5⟩
        | ct env5 st5 => rw [e4] at hp3; exact fun ρ5 σ5 H5 e5 kp5 r5 => ⟨ρ5, env5, st5, e2.trans e5, (kp2.trans kp3).trans kp5, r5, hp3.later e5 kp5⟩
        | bk env5 st5 => rw [e4] at hp3; exact hp3
        | rt d st5 => rw [e4] at hp3; exact hp3
        | ex c fs env5 st5 => rw [e4] at hp3; exact hp3
def loopW (t : MT) (body : MS) : Nat → Env → Store → SOut
  | 0, _, _ => .no
  | n + 1, env, st => liftE (t env st) env fun k st => if k = true then (match body env st with
      | .nx e s => loopW t body n e s
      | .ct e s => loopW t body n e s
      | .bk e s => .nx e s
      | o => o) else .nx env st
def kWhile (n : Nat) (t : MT) (body : MS) : MS := fun env st => loopW t body n env st
theorem is_while {n : Nat} {t : MT} {body : MS} (hp : PassesOwn (model X.prog X.w) X.A X.env X.xe) (ht : IsT X G W c t) (hb : IsB X G W ss body) : IsS X G W (.While c ss [] pos) (kWhile n t body) := by
  intro ρ env st σ H E r hpo
  refine ⟨_, ps_while hp (wpt X c) (wpb X ss), ?_⟩
  refine ⟨fun m σ H' => ∃ ρ' env st, ρ <+: ρ' ∧ Keep H H' ∧ Rel X.K G ρ' env st σ H' ∧ PostS X.K X.mg G W ρ' H' (loopW t body m env st) E, ⟨n, ρ, env, st, List.prefix_refl _, Keep.refl _, r, hpo⟩, ?_⟩
  rintro m σ1 H1 ⟨ρ1, env1, st1, e1, kp1, r1, hp1⟩
  cases m with
  | zero => exact hp1.elim
  | succ m =>
    unfold loopW at hp1
    refine ht ρ1 env1 st1 σ1 H1 _ r1 (PostS.lift r1 hp1 fun ρ2 k st2 x H2 e2 kp2 s2 q2 hp2 => ?_)
    subst q2
    have r2 := r1.step e2 kp2 s2
    cases k with
    | false => exact hp2 ρ2 σ1 H2 (List.prefix_refl _) (Keep.refl _) r2
    | true =>
      refine ⟨fun σ' H' => ∃ ρ' env st, ρ <+: ρ' ∧ Keep H H' ∧ Rel X.K G ρ' env st σ' H' ∧ PostS X.K X.mg G W ρ' H' (loopW t body m env st) E, fun σ' H' h => ⟨m, Nat.lt_succ_self m, h⟩, hb ρ2 env1 st2 σ1 H2 _ r2 ?_⟩
      simp only [if_true] at hp2
      cases e4 : body env1 st2 with
      | no => rw [e4] at hp2; exact hp2
      | nx env5 st5 => rw [e4] at hp2; exact fun ρ5 σ5 H5 e5 kp5 r5 => ⟨ρ5, env5, st5, (e1.trans e2).trans e5, (kp1.trans kp2).trans kp5, r5, hp2.later e5 kp5⟩
      | ct env5 st5 => rw [e4] at hp2; exact fun ρ5 σ5 H5 e5 kp5 r5 => ⟨ρ5, env5, st5, (e1.trans e2).trans e5, (kp1.trans kp2).trans kp5, r5, hp2.later e5 kp5⟩
      | bk env5 st5 => rw [e4] at hp2; exact hp2
      | rt d st5 => rw [e4] at hp2; exact hp2
      | ex c fs env5 st5 => rw [e4] at hp2; exact hp2
end
end Mi
/-! ## Mi4 -/
set_option Elab.async false
set_option linter.all false
set_option maxRecDepth 100000
set_option maxHeartbeats 2000000
namespace Mi
open PySem L2
section
variable {X : Cx} {G : Amb} {W : WX} {e a b c o tg : Expr} {es : List Expr} {pos p2 pos' p : Pos} {m ma mb mc : ME} {own : List Nat}
/-! ### what a loop walks -/
/-- a value that is walked: a list, a tuple, a text -/
def srcOf (d : D) (st : Store) : Out Src := match d with
  | .ref l => (match itemsAt st l with
    | some _ => .ok (sLive l) st
    | none => .no)
  | .tup ds => .ok (sItems ds) st
  | .str x => .ok (sItems (x.cps.toList.map fun c => D.str ⟨#[c]⟩)) st
  | _ => .no
def iVal (m : ME) : MI := fun env st => (m env st).bind srcOf
theorem ri_list {K : PySem.W.Frag} {ρ : List Addr} {H : Hp} {l : Nat} {a : Addr} (hl : ρ[l]? = some a) : RI K ρ H (sLive l) (Itl K a) := by
  intro i ρ2 st H2 e2 k2 s2
  have hl2 := pre_get e2 hl
  refine ⟨fun d h => ?_, fun h => ?_⟩
  · simp only [sLive, Option.map_eq_some_iff] at h
    obtain ⟨ds, h1, h2⟩ := h
    obtain ⟨vs, q, r⟩ := s2.read hl2 h1
    obtain ⟨v, hv, rv⟩ := r.get h2
    refine ⟨⟨vs, v, q, hv⟩, fun x H' hy => ?_⟩
    obtain ⟨rfl, hx⟩ := hy
    have e := hx vs q
    rw [hv] at e
    cases e
    exact ⟨Keep.refl _, s2, rv⟩
  · simp only [sLive, Option.map_eq_some_iff] at h
    obtain ⟨ds, h1, h2⟩ := h
    obtain ⟨vs, q, r⟩ := s2.read hl2 h1
    exact ⟨vs, q, by rw [← r.length]; exact List.getElem?_eq_none_iff.mp h2⟩
theorem ri_tup {K : PySem.W.Frag} {ρ : List Addr} {H : Hp} {ds : List D} {vs : List V} {a : Addr} (h1 : SqT K H a vs) (r : Rels K ρ H ds vs) : RI K ρ H (sItems ds) (Itt K a) := by
  intro i ρ2 st H2 e2 k2 s2
  have h2 := k2.sqT h1
  have r2 := r.mono e2 k2
  refine ⟨fun d h => ?_, fun h => ?_⟩
  · have h := Option.some.inj h
    obtain ⟨v, hv, rv⟩ := r2.get h
    refine ⟨⟨vs, v, h2, hv⟩, fun x H' hy => ?_⟩
    obtain ⟨rfl, hx⟩ := hy
    have e := hx vs h2
    rw [hv] at e
    cases e
    exact ⟨Keep.refl _, s2, rv⟩
  · have h := Option.some.inj h
    exact ⟨vs, h2, by rw [← r2.length]; exact List.getElem?_eq_none_iff.mp h⟩
theorem ri_str {K : PySem.W.Frag} {ρ : List Addr} {H : Hp} {x : Str} : RI K ρ H (sItems (x.cps.toList.map fun c => D.str ⟨#[c]⟩)) (Its x) := by
  intro i ρ2 st H2 e2 k2 s2
  refine ⟨fun d h => ?_, fun h => ?_⟩
  · have h := Option.some.inj h
    simp only [List.getElem?_map, Option.map_eq_some_iff] at h
    obtain ⟨c, h1, rfl⟩ := h
    have hc : x.cps[i]? = some c := by simpa using h1
    refine ⟨(Array.getElem?_eq_some_iff.mp hc).1, fun y H' hy => ?_⟩
    obtain ⟨rfl, c', h2, rfl⟩ := hy
    rw [hc] at h2
    cases h2
    exact ⟨Keep.refl _, s2, .str _⟩
  · have h := Option.some.inj h
    rw [List.getElem?_eq_none_iff, List.length_map, Array.length_toList] at h
    exact h
theorem is_iVal (h : IsE X G W a m) : IsI X G W tg a (iVal m) := by
  intro ρ env st σ H R r hp
  unfold iVal at hp
  cases e : m env st with
  | no => rw [e] at hp; exact hp.elim
  | ex c fs st1 =>
    rw [e] at hp
    exact ⟨_, pi_list (wpe X a), h ρ env st σ H _ r (by rw [e]; exact hp)⟩
  | ok d st1 =>
    rw [e] at hp
    simp only [Out.bind_ok] at hp
    cases d with
    | ref l =>
      refine ⟨_, pi_list (wpe X a), h ρ env st σ H _ r ?_⟩
      rw [e]
      intro ρ1 x H1 e1 k1 s1 r1
      unfold srcOf at hp
      cases r1 with
      | ref _ p hl =>
        simp only at hp
        cases e2 : itemsAt st1 l with
        | none => rw [e2] at hp; exact hp.elim
        | some ds =>
          rw [e2] at hp
          obtain ⟨vs, q, _⟩ := s1.read hl e2
          exact ⟨p, rfl, ⟨vs, q⟩, hp ρ1 _ H1 e1 k1 s1 (ri_list hl)⟩
    | tup ds =>
      refine ⟨_, pi_tup (wpe X a), h ρ env st σ H _ r ?_⟩
      rw [e]
      intro ρ1 x H1 e1 k1 s1 r1
      cases r1 with
      | tup _ vs p h1 q1 => exact ⟨p, rfl, ⟨vs, h1⟩, hp ρ1 _ H1 e1 k1 s1 (ri_tup h1 q1)⟩
    | str z =>
      refine ⟨_, pi_str (wpe X a), h ρ env st σ H _ r ?_⟩
      rw [e]
      intro ρ1 x H1 e1 k1 s1 r1
      cases r1
      exact ⟨z, rfl, hp ρ1 _ H1 e1 k1 s1 ri_str⟩
    | _ => exact hp.elim
/-- range(n), range(a, b) -/
def rng (lo : Int) (n : Nat) : List D := (List.range n).map fun (i : Nat) => D.int (lo + (i : Int))
def fRng1 (ds : List D) (st : Store) : Out Src := match ds with
  | [.int n] => if n ≤ 1000000000 ∧ -1000000000 ≤ n then .ok (sItems (rng 0 n.toNat)) st else .no
  | _ => .no
def fRng2 (ds : List D) (st : Store) : Out Src := match ds with
  | [.int a, .int b] => if a ≤ 1000000000 ∧ -1000000000 ≤ a ∧ b ≤ 1000000000 ∧ -1000000000 ≤ b then .ok (sItems (rng a (b - a).toNat)) st else .no
  | _ => .no
def iRng1 (m : MA) : MI := fun env st => (m env st).bind fRng1
def iRng2 (m : MA) : MI := fun env st => (m env st).bind fRng2
theorem ri_rng {K : PySem.W.Frag} {ρ : List Addr} {H : Hp} {lo : Int} {n : Nat} : RI K ρ H (sItems (rng lo n)) (Itr lo n) := by
  intro i ρ2 st H2 e2 k2 s2
  refine ⟨fun d h => ?_, fun h => ?_⟩
  · have h := Option.some.inj h
    simp only [rng, List.getElem?_map, Option.map_eq_some_iff] at h
    obtain ⟨j, h1, rfl⟩ := h
    obtain ⟨h2, h3⟩ := List.getElem?_eq_some_iff.mp h1
    rw [List.getElem_range] at h3
    subst h3
    refine ⟨(show i < n by simpa using h2), fun y H' hy => ?_⟩
    obtain ⟨rfl, rfl⟩ := hy
    exact ⟨Keep.refl _, s2, .int _⟩
  · have h := Option.some.inj h
    rw [List.getElem?_eq_none_iff, rng, List.length_map, List.length_range] at h
    exact h
theorem is_rng1 {mr : MA} (hg : Gl X "range") (hm : X.mg "range" = none) (h : IsA X G W [a] mr) (hs : starEach [a] X.env = [(false, eval a X.env)] := by rfl) : IsI X G W tg (.Call (.Name "range" p) [a] [] pos) (iRng1 mr) := by
  intro ρ env st σ H R r hp
  refine ⟨_, pi_range1 hg hm (wpa X [a]) hs, h ρ env st σ H _ r (Post.bind hp fun ρ1 ds st1 xs H1 e1 k1 s1 r1 hp1 => ?_)⟩
  unfold fRng1 at hp1
  split at hp1
  · split at hp1
    · rename_i n hn
      obtain ⟨x, rfl, q⟩ := rels1 r1
      cases q
      exact ⟨n, rfl, by omega, by omega, hp1 ρ1 _ H1 (List.prefix_refl _) (Keep.refl _) s1 ri_rng⟩
    · exact hp1.elim
  · exact hp1.elim
theorem is_rng2 {mr : MA} (hg : Gl X "range") (hm : X.mg "range" = none) (h : IsA X G W [a, b] mr) (hs : starEach [a, b] X.env = [(false, eval a X.env), (false, eval b X.env)] := by rfl) (hs2 : starEach [b] X.env = [(false, eval b X.env)] := by rfl) : IsI X G W tg (.Call (.Name "range" p) [a, b] [] pos) (iRng2 mr) := by
  intro ρ env st σ H R r hp
  refine ⟨_, pi_range2 hg hm (wpa X [a, b]) hs hs2, h ρ env st σ H _ r (Post.bind hp fun ρ1 ds st1 xs H1 e1 k1 s1 r1 hp1 => ?_)⟩
  unfold fRng2 at hp1
  split at hp1
  · split at hp1
    · rename_i n m hn
      obtain ⟨x, y, rfl, q, q'⟩ := rels2 r1
      cases q; cases q'
      exact ⟨n, m, rfl, ⟨by omega, by omega, by omega, by omega⟩, hp1 ρ1 _ H1 (List.prefix_refl _) (Keep.refl _) s1 ri_rng⟩
    · exact hp1.elim
  · exact hp1.elim
/-- enumerate(list) -/
def sEnum (l : Nat) : Src := ⟨fun i st => (itemsAt st l).map fun ds => ds[i]?.map fun d => .tup [.int (i : Nat), d], fun st => ((itemsAt st l).getD []).length⟩
def fEnum (ds : List D) (st : Store) : Out Src := match ds with
  | [.ref l] => (match itemsAt st l with
    | some _ => .ok (sEnum l) st
    | none => .no)
  | _ => .no
def iEnumM (m : MA) : MI := fun env st => (m env st).bind fEnum
theorem ri_enum {K : PySem.W.Frag} {ρ : List Addr} {H : Hp} {l : Nat} {a : Addr} (hl : ρ[l]? = some a) : RI K ρ H (sEnum l) (Ite K a) := by
  intro i ρ2 st H2 e2 k2 s2
  have hl2 := pre_get e2 hl
  refine ⟨fun d h => ?_, fun h => ?_⟩
  · simp only [sEnum, Option.map_eq_some_iff] at h
    obtain ⟨ds, h1, d0, h2, rfl⟩ := h
    obtain ⟨vs, q, r⟩ := s2.read hl2 h1
    obtain ⟨v, hv, rv⟩ := r.get h2
    refine ⟨⟨vs, v, q, hv⟩, fun x H' hy => ?_⟩
    obtain ⟨T, y, rfl, hT, rfl, hx⟩ := hy
    have e := hx vs q
    rw [hv] at e
    cases e
    have kp : Keep H2 (upd H2 T (.tup [.int (i : Nat), v])) := Keep.new hT
    exact ⟨kp, s2.frame hT, .tup _ [.int (i : Nat), v] T (SqT.of upd_same) (.cons (.int _) (.cons (rv.mono (List.prefix_refl _) kp) .nil))⟩
  · simp only [sEnum, Option.map_eq_some_iff] at h
    obtain ⟨ds, h1, h2⟩ := h
    obtain ⟨vs, q, r⟩ := s2.read hl2 h1
    refine ⟨vs, q, ?_⟩
    rw [← r.length]
    cases e : ds[i]? with
    | none => exact List.getElem?_eq_none_iff.mp e
    | some d => rw [e] at h2; cases h2
theorem is_enum {mr : MA} {elts : List Expr} {kk : Nat} {tpos : Pos} (hg : Gl X "enumerate") (hm : X.mg "enumerate" = none) (h : IsA X G W [a] mr) (hs : starEach [a] X.env = [(false, eval a X.env)] := by rfl) :
    IsI X G W (.Tuple elts kk tpos) (.Call (.Name "enumerate" p) [a] [] pos) (iEnumM mr) := by
  intro ρ env st σ H R r hp
  refine ⟨_, pi_enum hg hm (wpa X [a]) hs, h ρ env st σ H _ r (Post.bind hp fun ρ1 ds st1 xs H1 e1 k1 s1 r1 hp1 => ?_)⟩
  unfold fEnum at hp1
  split at hp1
  · obtain ⟨x, rfl, q⟩ := rels1 r1
    cases q with
    | ref l q hl =>
      split at hp1
      · rename_i ds e2
        obtain ⟨vs, sq, _⟩ := s1.read hl e2
        exact ⟨q, vs, rfl, sq, hp1 ρ1 _ H1 (List.prefix_refl _) (Keep.refl _) s1 (ri_enum hl)⟩
      · exact hp1.elim
  · exact hp1.elim
/-- reversed(tuple) -/
def fRev (d : D) (st : Store) : Out Src := match d with
  | .tup ds => .ok (sItems ds.reverse) st
  | _ => .no
def iRevM (m : ME) : MI := fun env st => (m env st).bind fRev
theorem ri_rev {K : PySem.W.Frag} {ρ : List Addr} {H : Hp} {ds : List D} {vs : List V} {a : Addr} (h1 : SqT K H a vs) (r : Rels K ρ H ds vs) : RI K ρ H (sItems ds.reverse) (RT.ItvT K a vs.length) := by
  intro i ρ2 st H2 e2 k2 s2
  have h2 := k2.sqT h1
  have r2 := r.mono e2 k2
  have hl := r2.length
  refine ⟨fun d h => ?_, fun h => ?_⟩
  · have h := Option.some.inj h
    have hi : i < ds.length := by
      have := (List.getElem?_eq_some_iff.mp h).1
      simpa using this
    rw [List.getElem?_reverse hi] at h
    obtain ⟨v, hv, rv⟩ := r2.get h
    rw [hl] at hv
    refine ⟨⟨by omega, vs, v, h2, hv⟩, fun x H' hy => ?_⟩
    obtain ⟨rfl, hx⟩ := hy
    have e := hx vs h2
    rw [hv] at e
    cases e
    exact ⟨Keep.refl _, s2, rv⟩
  · have h := Option.some.inj h
    rw [List.getElem?_eq_none_iff, List.length_reverse] at h
    show vs.length ≤ i
    omega
theorem is_rev (hg : Gl X "reversed") (hm : X.mg "reversed" = none) (h : IsE X G W a m) (hs : starEach [a] X.env = (false, eval a X.env) :: starEach [] X.env := by rfl) : IsI X G W tg (.Call (.Name "reversed" p) [a] [] pos) (iRevM m) := by
  intro ρ env st σ H R r hp
  refine ⟨_, RT.pi_revA hg hm (wpe X a) hs, h ρ env st σ H _ r (Post.bind hp fun ρ1 d st1 x H1 e1 k1 s1 r1 hp1 => ?_)⟩
  cases r1 with
  | tup ds vs p h1 q1 => exact ⟨p, vs, rfl, .inr ⟨h1, hp1 ρ1 _ H1 (List.prefix_refl _) (Keep.refl _) s1 (ri_rev h1 q1)⟩⟩
  | _ => exact hp1.elim

/-! ### comprehensions -/
def compS (src : Src) (g : MG) (t : MT) (m : ME) (r : Nat) (env0 : Env) : Nat → Nat → Store → Out Unit
  | 0, i, st => (match src.item i st with
    | some none => .ok () st
    | _ => .no)
  | n + 1, i, st => (match src.item i st with
    | none => .no
    | some none => .ok () st
    | some (some d) => (match g d env0 with
      | none => .no
      | some env1 => (match t env1 st with
        | .ok true st1 => (match m env1 st1 with
          | .ok y st2 => (match st2[r]? with
            | some (.lst acc) => if acc.length < 1000000 then compS src g t m r env0 n (i + 1) (st2.set r (.lst (acc ++ [y]))) else .no
            | _ => .no)
          | _ => .no)
        | .ok false st1 => compS src g t m r env0 n (i + 1) st1
        | _ => .no)))
def mLc (mi : MI) (own : List Nat) (g : MG) (t : MT) (m : ME) : ME := fun env st => (mi env st).bind fun src st =>
  (compS src g t m st.length (wipeE env own) (src.size st) 0 (st ++ [.lst []])).bind fun _ st' => .ok (.ref st.length) st'
def mYes : MT := fun _ st => .ok true st
def W0 : WX := fun _ _ _ _ => False
def WPTs (X : Cx) (ifs : List Expr) : TT := fun σ H Q => ∃ t, PTs X ifs t ∧ t σ H Q
theorem wpts (X : Cx) (e : List Expr) : PTs X e (WPTs X e) := ⟨fun p s σ H Q I ⟨_, h, q⟩ => h.run p s σ H Q I q⟩
def IsTs (X : Cx) (G : Amb) (W : WX) (ifs : List Expr) (m : MT) : Prop := ∀ (ρ : List Addr) (env : Env) (st : Store) (σ : St) (H : Hp) (Q : Bool → Hp → Prop), Rel X.K G ρ env st σ H →
  Post X.K X.mg RB (fun c d h => W c d σ h) ρ H (m env st) Q → WPTs X ifs σ H Q
theorem is_ts0 : IsTs X G W [] mYes := fun ρ env st σ H Q r hp => ⟨_, pts_nil, hp ρ true H (List.prefix_refl _) (Keep.refl _) r.s rfl⟩
theorem is_ts1 {t : MT} (h : IsT X G W a t) : IsTs X G W [a] t := fun ρ env st σ H Q r hp => ⟨_, pts_one (wpt X a), h ρ env st σ H Q r hp⟩
/-- in every block -/
abbrev Blk (X : Cx) (scope : Scope) (P : Cx → Prop) : Prop := ∀ (s : Shared) (H : Hp) (C : Addr) (cl : List (Str × Addr)) (fp : List Addr), P (X.blk s H scope (compEnvC scope cl C X.env) fp)
theorem lc_go {scope : Scope} {ifs : List Expr} {mi : MI} {g : MG} {t : MT} (hi : IsI X amb0 W tg e mi) (hg : Blk X scope fun B => IsG B amb0 own tg g) (ht : Blk X scope fun B => IsTs B amb0 W0 ifs t) (he : Blk X scope fun B => IsE B amb0 W0 a m)
    {ρ : List Addr} {env : Env} {st : Store} {σ : St} {H : Hp} {Q : VK} (r : Rel X.K amb0 ρ env st σ H) (hp : Post X.K X.mg (RelD X.K) (fun c d h => W c d σ h) ρ H (mLc mi own g t m env st) Q) :
    tLc (WPI X tg e) (fun v σ H Q => Blk X scope fun B => WPG B tg v σ H Q) (fun σ H Q => Blk X scope fun B => WPTs B ifs σ H Q) (fun σ H Q => Blk X scope fun B => WPE B a σ H Q) own σ H Q := by
  refine hi ρ env st σ H _ r (Post.bind hp fun ρ1 src st1 J H1 e1 k1 s1 r1 hp1 => ?_)
  intro D0 hD
  have rr := r.step e1 k1 s1
  have kD : Keep H1 (upd H1 D0 (.lst [])) := Keep.new hD
  have sD : RelS X.K (ρ1 ++ [D0]) (st1 ++ [.lst []]) (upd H1 D0 (.lst [])) := s1.new hD .nil
  have pD : ρ1 <+: ρ1 ++ [D0] := List.prefix_append _ _
  have lD : (ρ1 ++ [D0])[st1.length]? = some D0 := by rw [← s1.len]; simp
  refine ⟨fun i n H2 => ∃ ρ2 st2, (ρ1 ++ [D0]) <+: ρ2 ∧ Keep H1 H2 ∧ RelS X.K ρ2 st2 H2 ∧ RelE X.K ρ2 (wipeE env own) (wipe σ own) H2 ∧
      Post X.K X.mg (RelD X.K) (fun c d h => W c d σ h) ρ2 H2 ((compS src g t m st1.length (wipeE env own) n i st2).bind fun _ st' => .ok (.ref st1.length) st') Q,
    ⟨_, ρ1 ++ [D0], st1 ++ [.lst []], List.prefix_refl _, kD, sD, (rr.e.wipe own).mono pD kD, hp1.later pD kD⟩, ?_⟩
  rintro i n H2 ⟨ρ2, st2, e2, kp2, s2, re2, hp2⟩
  obtain ⟨ri1, ri2⟩ := r1 i ρ2 st2 H2 (pD.trans e2) kp2 s2
  have fin : Post X.K X.mg (RelD X.K) (fun c d h => W c d σ h) ρ2 H2 (.ok (.ref st1.length) st2) Q → Q (.ref D0) H2 := fun h =>
    h ρ2 _ H2 (List.prefix_refl _) (Keep.refl _) s2 (.ref _ _ (pre_get e2 lD))
  cases n with
  | zero =>
    unfold compS at hp2
    split at hp2
    · rename_i h0
      exact .inl ⟨ri2 h0, fin hp2⟩
    · exact hp2.elim
  | succ n =>
    unfold compS at hp2
    split at hp2
    · exact hp2.elim
    · rename_i h0
      exact .inl ⟨ri2 h0, fin hp2⟩
    · rename_i d h0
      obtain ⟨go, yl⟩ := ri1 d h0
      split at hp2
      · exact hp2.elim
      · rename_i env3 hg3
        refine .inr ⟨go, fun H' => ∃ ρ2 st2, (ρ1 ++ [D0]) <+: ρ2 ∧ Keep H1 H' ∧ RelS X.K ρ2 st2 H' ∧ RelE X.K ρ2 (wipeE env own) (wipe σ own) H' ∧
          Post X.K X.mg (RelD X.K) (fun c d h => W c d σ h) ρ2 H' ((compS src g t m st1.length (wipeE env own) n (i + 1) st2).bind fun _ st' => .ok (.ref st1.length) st') Q, fun H' h => ⟨n, Nat.lt_succ_self n, h⟩, fun x H' hy => ?_⟩
        obtain ⟨kp3, s3, rd3⟩ := yl x H' hy
        have re3 := re2.mono (List.prefix_refl _) kp3
        intro bs bH bC bcl bfp
        refine hg bs bH bC bcl bfp ρ2 (wipeE env own) env3 st2 (wipe σ own) H' d x _ ⟨s3, re3, trivial⟩ rd3 hg3 fun σ4 r4 w4 => ?_
        refine ⟨w4.trans (wipe_wipe σ own), ?_⟩
        intro bs bH bC bcl bfp
        have hp3 := hp2.later (List.prefix_refl _) kp3
        cases e4 : t env3 st2 with
        | no => rw [e4] at hp3; exact hp3.elim
        | ex c fs st5 => rw [e4] at hp3; exact hp3.elim
        | ok k st3 =>
          rw [e4] at hp3
          refine ht bs bH bC bcl bfp ρ2 env3 st2 σ4 H' _ r4 ?_
          rw [e4]
          intro ρ4 k' H4 e5 kp4 s4 hk
          subst hk
          cases k with
          | false =>
            exact ⟨ρ4, st3, e2.trans e5, (kp2.trans kp3).trans kp4, s4, re3.mono e5 kp4, hp3.later e5 kp4⟩
          | true =>
            intro bs bH bC bcl bfp
            simp only at hp3
            cases e6 : m env3 st3 with
            | no => rw [e6] at hp3; exact hp3.elim
            | ex c fs st5 => rw [e6] at hp3; exact hp3.elim
            | ok y st5 =>
              rw [e6] at hp3
              simp only at hp3
              refine he bs bH bC bcl bfp ρ4 env3 st3 σ4 H4 _ (r4.step e5 kp4 s4) ?_
              rw [e6]
              intro ρ5 v H5 e7 kp5 s5 rv
              split at hp3
              · rename_i acc e8
                split at hp3
                · rename_i hl
                  have lD5 := pre_get ((e2.trans e5).trans e7) lD
                  obtain ⟨vs, ea, rs⟩ := s5.lst lD5 e8
                  refine ⟨vs, ea, by rw [← rs.length]; exact line_lt hl, ?_⟩
                  have kp6 := Keep.put (o := .lst (vs ++ [v])) ea fun z => z
                  exact ⟨ρ5, _, (e2.trans e5).trans e7, (((kp2.trans kp3).trans kp4).trans kp5).trans kp6, s5.put (ds := acc) lD5 ea (rs.append (.cons rv .nil)), ((re3.mono e5 kp4).mono e7 kp5).mono (List.prefix_refl _) kp6,
                    ((hp3.later e5 kp4).later e7 kp5).later (List.prefix_refl _) kp6⟩
                · exact hp3.elim
              · exact hp3.elim
theorem blk_pg {scope : Scope} : ∀ (s : Shared) (H : Hp) (C : Addr) (cl : List (Str × Addr)) (fp : List Addr), PG (X.blk s H scope (compEnvC scope cl C X.env) fp) tg (fun v σ H Q => Blk X scope fun B => WPG B tg v σ H Q) :=
  fun s H C cl fp => ⟨fun pins s' σ H' v u Q I r h => (wpg _ tg).run pins s' σ H' v u Q I r (h s H C cl fp)⟩
theorem blk_pts {scope : Scope} {ifs : List Expr} : ∀ (s : Shared) (H : Hp) (C : Addr) (cl : List (Str × Addr)) (fp : List Addr), PTs (X.blk s H scope (compEnvC scope cl C X.env) fp) ifs (fun σ H Q => Blk X scope fun B => WPTs B ifs σ H Q) :=
  fun s H C cl fp => ⟨fun pins s' σ H' Q I h => (wpts _ ifs).run pins s' σ H' Q I (h s H C cl fp)⟩
theorem blk_pe {scope : Scope} : ∀ (s : Shared) (H : Hp) (C : Addr) (cl : List (Str × Addr)) (fp : List Addr), PE (X.blk s H scope (compEnvC scope cl C X.env) fp) a (fun σ H Q => Blk X scope fun B => WPE B a σ H Q) :=
  fun s H C cl fp => ⟨fun pins s' σ H' Q I h => (wpe _ a).run pins s' σ H' Q I (h s H C cl fp)⟩
theorem is_lc {scope : Scope} {ifs : List Expr} {mi : MI} {g : MG} {t : MT} (hc : X.calm = true) (hN : X.N.Nodup) (ow : List (Str × Nat)) (ok : BlkOk X.N X.env.scope scope ow) (hi : IsI X amb0 W tg e mi) (hg : Blk X scope fun B => IsG B amb0 (ow.map (·.2)) tg g) (ht : Blk X scope fun B => IsTs B amb0 W0 ifs t) (he : Blk X scope fun B => IsE B amb0 W0 a m)
    (hs : ∀ x, foldedSetIterable e X.env x = pure x := by intro _; rfl) : IsE X amb0 W (.ListComp a [⟨tg, e, ifs, 0⟩] scope pos) (mLc mi (ow.map (·.2)) g t m) :=
  fun ρ env st σ H Q r hp => ⟨_, pe_lc hc hN (wpi X tg e) ok blk_pg blk_pts blk_pe hs, lc_go hi hg ht he r hp⟩
theorem is_setLc {scope : Scope} {ifs : List Expr} {mi : MI} {g : MG} {t : MT} {i : Nat} {y : Str} {py spos : Pos} (hc : X.calm = true) (hN : X.N.Nodup) (hy : X.N[i]? = some y) (hyl : X.env.scope.names.lookup y = some .local)
    (hsw : swapsWith (.ListComp a [⟨tg, e, ifs, 0⟩] scope pos) (some (.Name y py)) spos.line X.env = pure true)
    (ow : List (Str × Nat)) (ok : BlkOk X.N X.env.scope scope ow) (hi : IsI X amb0 W tg e mi) (hg : Blk X scope fun B => IsG B amb0 (ow.map (·.2)) tg g) (ht : Blk X scope fun B => IsTs B amb0 W0 ifs t) (he : Blk X scope fun B => IsE B amb0 W0 a m)
    (hs : ∀ x, foldedSetIterable e X.env x = pure x := by intro _; rfl) : IsS X amb0 W (.Assign [.Name y py] (.ListComp a [⟨tg, e, ifs, 0⟩] scope pos) spos) (kSet i (mLc mi (ow.map (·.2)) g t m)) := by
  intro ρ env st σ H E r hp
  refine ⟨_, ps_setLc hc hN hy hyl hsw (wpi X tg e) ok blk_pg blk_pts blk_pe hs, ?_⟩
  refine lc_go hi hg ht he r (PostS.lift r hp fun ρ1 d st1 x H1 e1 k1 s1 r1 hp1 => ?_)
  exact hp1 ρ1 _ H1 (List.prefix_refl _) (Keep.refl _) ((r.step e1 k1 s1).set r1)
end
end Mi
/-! ## Mi5 -/
set_option Elab.async false
set_option linter.all false
set_option maxRecDepth 100000
set_option maxHeartbeats 2000000
namespace Mi
open PySem L2

/-! ### contexts -/
/-- where expressions are evaluated: W is wished of what is raised -/
structure Cal (X : Cx) (W : WX) (k : Nat) : Prop where
  calm : X.calm = true
  nod : X.N.Nodup
  room : Room k X.A
  pass : ∀ σ : St, PassesAt (L2.CX X.prog X.w) X σ (WE W σ)
/-- .. and statements -/
structure Stm (X : Cx) (W : WX) (k : Nat) : Prop extends Cal X W k where
  tk : Takes X W
  po : PassesOwn (model X.prog X.w) X.A X.env X.xe
  hs : X.stack = X.env :: X.outer
  hf : X.env.frame = some X.env.locals
theorem pass_W0 {X : Cx} (σ : St) : PassesAt (L2.CX X.prog X.w) X σ (WE W0 σ) := fun _ _ _ _ _ _ c => by
  obtain ⟨_, _, _, _, _, _, _, _, _, _, _, _, z⟩ := c
  exact z.elim
theorem pass_no {X : Cx} : Passes (L2.CX X.prog X.w) X (fun _ _ _ => False) := fun _ _ _ _ _ _ _ c => by
  obtain ⟨_, _, _, _, _, _, _, _, _, _, _, _, z⟩ := c
  exact z.elim
theorem Cal.blk {X : Cx} {W : WX} {k : Nat} (c : Cal X W k) (scope : Scope) (s : Shared) (H : Hp) (C : Addr) (cl : List (Str × Addr)) (fp : List Addr) : Cal (X.blk s H scope (compEnvC scope cl C X.env) fp) W0 k :=
  ⟨c.calm, c.nod, c.room, pass_W0⟩
theorem Cal.low {X : Cx} {W : WX} {j k : Nat} (c : Cal X W k) (h : j ≤ k) : Cal X W j := ⟨c.calm, c.nod, c.room.mono h, c.pass⟩
theorem Cal.hu {X : Cx} {W : WX} {k : Nat} (c : Cal X W k) : X.A.units + 64 < cLine := c.room.units

/-! ### what a def promises: that it does as its meaning -/
def spM (K : PySem.W.Frag) (mg : Str → Option Value) (n : Nat) (m : MF) : Sp := fun vs H Q E => vs.length = n ∧ ∃ (ρ : List Addr) (st : Store) (ds : List D), RelS K ρ st H ∧ Rels K ρ H ds vs ∧ Post K mg (RelD K) E ρ H (m ds st) Q
def mDef (n : Nat) (b : MS) : MF := fun ds st => match b (ds.map some ++ List.replicate (n - ds.length) none) st with
  | .nx _ st => .ok .non st
  | .rt d st => .ok d st
  | .ex c fs _ st => .ex c fs st
  | _ => .no
theorem start_rel {K : PySem.W.Frag} {ρ : List Addr} {H : Hp} {ds : List D} {vs : List V} (r : Rels K ρ H ds vs) (N : List Str) : RelE K ρ (ds.map some ++ List.replicate (N.length - ds.length) none) (L2.start N vs) H := by
  have hl := r.length
  refine ⟨by simp [L2.start, hl], fun i d h => ?_⟩
  unfold L2.start
  by_cases hi : i < ds.length
  · rw [List.getElem?_append_left (by simpa using hi), List.getElem?_map] at h
    cases e : ds[i]? with
    | none => rw [e] at h; cases h
    | some d' =>
      rw [e] at h
      cases h
      obtain ⟨v, hv, rv⟩ := r.get e
      refine ⟨v, ?_, rv⟩
      rw [List.getElem?_append_left (by simpa [← hl] using hi), List.getElem?_map, hv]
      rfl
  · rw [List.getElem?_append_right (by simpa using Nat.le_of_not_lt hi)] at h
    rw [List.getElem?_replicate] at h
    split at h <;> cases h
section
variable {P : Program} {w : World} {K : PySem.W.Frag} {mg : Str → Option Value} {base : Heap}
theorem fn_okM {x qual : Str} {st : Stmt} {f : Addr} {fd : FuncData} {N ps : List Str} {k : Nat} {b : MS} (F : Fun K x qual st f fd) (S : FnScope N ps (defScope st))
    (hb : ∀ (cdv : Value) (A : Around) (outer : List PySem.Env) (s : Shared) (H : Hp) (E : XK), Stm (cxOf (L2.CX P w) P w K mg base N qual (defScope st) f cdv A outer s H E) (fun cls d _ H => E cls d H) k →
      IsB (cxOf (L2.CX P w) P w K mg base N qual (defScope st) f cdv A outer s H E) amb0 (fun cls d _ H => E cls d H) (defBody st) b) :
    FnOk P w K mg base (L2.CX P w) (k + 1) f fd ps (spM K mg ps.length (mDef N.length b)) := by
  refine F.okX S (fun vs H Q E h => h.1) fun cdv A outer s H vs Q E hr h => ?_
  obtain ⟨_, ρ, sto, ds, hs, rs, hp⟩ := h
  have c : Stm (cxOf (L2.CX P w) P w K mg base N qual (defScope st) f cdv A outer s H E) (fun cls d _ H => E cls d H) k := by
    have tk : Takes (cxOf (L2.CX P w) P w K mg base N qual (defScope st) f cdv A outer s H E) (fun cls d _ H => E cls d H) := takes_of rfl rfl rfl rfl
    exact ⟨⟨rfl, S.nd, hr, fun σ => passAt tk σ⟩, tk, passes_of rfl, rfl, rfl⟩
  refine ⟨_, wpb _ _, hb cdv A outer s H E c ρ _ sto (L2.start N vs) H _ ⟨hs, start_rel rs N, trivial⟩ ?_⟩
  unfold mDef at hp
  cases e : b (ds.map some ++ List.replicate (N.length - ds.length) none) sto with
  | no => rw [e] at hp; exact hp.elim
  | bk env st' => rw [e] at hp; exact hp.elim
  | ct env st' => rw [e] at hp; exact hp.elim
  | nx env st' => rw [e] at hp; exact fun ρ' σ' H' e' k' r' => hp ρ' .non H' e' k' r'.s .non
  | rt d st' => rw [e] at hp; exact fun ρ' v H' e' k' s' r' => hp ρ' v H' e' k' s' r'
  | ex c fs env st' => rw [e] at hp; exact fun ρ' σ' H' C dd gs e' k' r' hc hd hf => hp ρ' H' C dd gs e' k' r'.s hc hd hf
end

section
variable {X : Cx} {G : Amb} {W : WX} {e a b c o tg : Expr} {es : List Expr} {pos p2 pos' p : Pos} {m ma mb mc : ME} {own : List Nat} {k : Nat} {x : Str} {f : Addr} {fd : FuncData} {ps : List Str}
def mCall (f : MF) (r : MA) : ME := fun env st => (r env st).bind fun ds st => f ds st
theorem is_call {mf : MF} {r : MA} (c : Cal X W k) (F : FnOk X.prog X.w X.K X.mg X.base (L2.CX X.prog X.w) k f fd ps (spM X.K X.mg ps.length mf)) (hg : Gl X x) (hm : X.mg x = some (.ref f)) (hk : PySem.W.keepIn X.K (.ref f) = true) (hb : Binds X.K fd ps []) (ha : IsA X G W (e :: es) r)
    (hdb : (x == ("__debug__" : Str)) = false := by decide) (he : starEach (e :: es) X.env = (false, eval e X.env) :: starEach es X.env := by rfl) (hpl : (backTo pos (starEach es X.env)).any (·.1) = false := by rfl) (hlen : ∀ env st ds st', r env st = .ok ds st' → ds.length = ps.length) :
    IsE X G W (.Call (.Name x p) (e :: es) [] pos) (mCall mf r) := by
  intro ρ env st σ H Q rl hp
  refine ⟨_, pe_callS F c.room hg hm hk hb c.pass (wpa X _) hdb he hpl, ha ρ env st σ H _ rl ?_⟩
  unfold mCall at hp
  cases e0 : r env st with
  | no => rw [e0] at hp; exact hp.elim
  | ex cc fs st' => rw [e0] at hp; exact hp
  | ok ds st1 =>
    rw [e0] at hp
    exact fun ρ1 xs H1 e1 k1 s1 r1 => ⟨by rw [← r1.length]; exact hlen _ _ _ _ e0, ρ1, st1, ds, s1, r1, Post.later e1 k1 hp⟩
/-- how many arguments -/
theorem mNil_len {env : Env} {st st' : Store} {ds : List D} (h : mNil env st = .ok ds st') : ds.length = 0 := by cases h; rfl
theorem mCons_len {m : ME} {r : MA} {n : Nat} (hr : ∀ env st ds st', r env st = .ok ds st' → ds.length = n) (env : Env) (st : Store) (ds : List D) (st' : Store) (h : mCons m r env st = .ok ds st') : ds.length = n + 1 := by
  unfold mCons at h
  cases e : m env st with
  | no => rw [e] at h; cases h
  | ex c fs st' => rw [e] at h; cases h
  | ok d st1 =>
    rw [e] at h
    simp only [Out.bind_ok] at h
    cases e2 : r env st1 with
    | no => rw [e2] at h; cases h
    | ex c fs st' => rw [e2] at h; cases h
    | ok ds' st2 =>
      rw [e2] at h
      cases h
      rw [List.length_cons, hr _ _ _ _ e2]
/-- f(k = v), by keyword alone -/
def tKw (sp : Sp) (E : St → XK) (t : TA) : TE := fun σ H Q => t σ H fun zs H2 => sp zs H2 Q (E σ)
def KwTo (K : PySem.W.Frag) (fd : FuncData) (ps ks : List Str) : Prop := ∀ (s : Shared) (ws : List Value), K.In s.heap → ws.length = ps.length → BindsTo s fd ⟨[], ks.zip ws⟩ (ps.zip ws)
theorem pe_kw0 {CX : CXT} {sp : Sp} {E : St → XK} {kws : List Keyword} {ks : List Str} {t : TA} (F : FnOk X.prog X.w X.K X.mg X.base CX k f fd ps sp) (hr : Room k X.A) (hg : Gl X x) (hm : X.mg x = some (.ref f)) (hk : PySem.W.keepIn X.K (.ref f) = true)
    (hb : KwTo X.K fd ps ks) (hx : ∀ σ : St, PassesAt CX X σ (E σ)) (ha : PK X kws t)
    (hall : (backToKw pos (keywordEach kws X.env)).all (·.1.isSome) = true := by rfl) (hks : (backToKw pos (keywordEach kws X.env)).filterMap (·.1) = ks := by rfl) (hdb : (x == ("__debug__" : Str)) = false := by decide)
    (hpl : ((backTo pos (starEach [] X.env)).any (·.1) || (backToKw pos (keywordEach kws X.env)).any (·.1.isNone)) = false := by rfl) : PE X (.Call (.Name x p) [] kws pos) (tKw sp E t) := by
  constructor
  intro pins s σ H Q I h
  apply wpAny_Call_Name_kw
  apply ld_glob I hg hm _ hdb
  apply PySem.W.callWith_KW0 I.ok.mod.kin hk hall _ hpl
  apply thn (ha.run pos pins s σ H _ I h)
  rintro ws s2 ⟨zs, H2, I2, rz, q⟩
  refine ⟨I2.kIn, ?_⟩
  rw [hks]
  have hl : ws.length = ps.length := by rw [← Paired.length rz]; exact F.len _ _ _ _ q
  have run := F.run X.A X.stack s2 H2 ⟨[], ks.zip ws⟩ ws zs Q (E σ) hr I2.env0 (hb s2 ws I2.kIn hl) rz q
  apply wpAny_call
  apply codeAny_mono run
  intro r s' hq
  match r, hq with
  | .error er, hq => exact hx σ pins H2 s2 er s' I2 hq
  | .ok (.ret u), hq => exact I2.after hq
def WPK (X : Cx) (kws : List Keyword) : TA := fun σ H Q => ∃ t, PK X kws t ∧ t σ H Q
theorem wpk (X : Cx) (kws : List Keyword) : PK X kws (WPK X kws) := ⟨fun pos p s σ H Q I ⟨_, h, q⟩ => h.run pos p s σ H Q I q⟩
def IsK (X : Cx) (G : Amb) (W : WX) (kws : List Keyword) (m : MA) : Prop := ∀ (ρ : List Addr) (env : Env) (st : Store) (σ : St) (H : Hp) (Q : List V → Hp → Prop), Rel X.K G ρ env st σ H →
  Post X.K X.mg (Rels X.K) (fun c d h => W c d σ h) ρ H (m env st) Q → WPK X kws σ H Q
theorem is_knil : IsK X G W [] mNil := fun ρ env st σ H Q r hp => ⟨_, pk_nil, hp ρ [] H (List.prefix_refl _) (Keep.refl _) r.s .nil⟩
theorem is_kcons {nm : Option Str} {kpos : Pos} {kws : List Keyword} {r : MA} (h : IsE X G W a m) (h' : IsK X G W kws r) : IsK X G W (⟨nm, a, kpos⟩ :: kws) (mCons m r) := by
  intro ρ env st σ H Q r hp
  refine ⟨_, pk_cons (wpe X a) (wpk X kws), h ρ env st σ H _ r (Post.bind hp fun ρ1 d1 st1 x H1 e1 k1 s1 r1 hp1 => ?_)⟩
  refine h' ρ1 env st1 σ H1 _ (r.step e1 k1 s1) (hp1.bind fun ρ2 ds st2 xs H2 e2 k2 s2 r2 hp2 => ?_)
  exact hp2 ρ2 (x :: xs) H2 (List.prefix_refl _) (Keep.refl _) s2 (.cons (r1.mono e2 k2) r2)
theorem is_callK {mf : MF} {r : MA} {kws : List Keyword} (ks : List Str) (c : Cal X W k) (F : FnOk X.prog X.w X.K X.mg X.base (L2.CX X.prog X.w) k f fd ps (spM X.K X.mg ps.length mf)) (hg : Gl X x) (hm : X.mg x = some (.ref f)) (hk : PySem.W.keepIn X.K (.ref f) = true) (hb : KwTo X.K fd ps ks) (ha : IsK X G W kws r) (hlen : ∀ env st ds st', r env st = .ok ds st' → ds.length = ps.length)
    (hall : (backToKw pos (keywordEach kws X.env)).all (·.1.isSome) = true := by rfl) (hks : (backToKw pos (keywordEach kws X.env)).filterMap (·.1) = ks := by rfl) (hdb : (x == ("__debug__" : Str)) = false := by decide)
    (hpl : ((backTo pos (starEach [] X.env)).any (·.1) || (backToKw pos (keywordEach kws X.env)).any (·.1.isNone)) = false := by rfl) : IsE X G W (.Call (.Name x p) [] kws pos) (mCall mf r) := by
  intro ρ env st σ H Q rl hp
  refine ⟨_, pe_kw0 F c.room hg hm hk hb c.pass (wpk X kws) hall hks hdb hpl, ha ρ env st σ H _ rl ?_⟩
  unfold mCall at hp
  cases e0 : r env st with
  | no => rw [e0] at hp; exact hp.elim
  | ex cc fs st' => rw [e0] at hp; exact hp
  | ok ds st1 =>
    rw [e0] at hp
    exact fun ρ1 xs H1 e1 k1 s1 r1 => ⟨by rw [← r1.length]; exact hlen _ _ _ _ e0, ρ1, st1, ds, s1, r1, Post.later e1 k1 hp⟩

/-! ### raise X(e, ..), X's __init__ stores its parameters -/
/-- the __init__ of an error of two fields -/
def spI2 (K : PySem.W.Frag) (C : Addr) (f1 f2 : Str) : Sp := fun vs H Q _ => ∃ (a : Addr) (v1 v2 : V), vs = [.ref a, v1, v2] ∧ H a = some (exo a C none) ∧
  ∀ dx, H dx = none → dx ≠ a → Q .non (upd (upd (upd H dx (exd dx [(f1, v1)])) a (exo a C (some dx))) dx (exd dx [(f2, v2), (f1, v1)]))
/-- what is known of the error's class -/
structure Err2 (P : Program) (w : World) (K : PySem.W.Frag) (mg : Str → Option Value) (base : Heap) (k : Nat) (x : Str) (C fI : Addr) (fd : FuncData) (f1 f2 : Str) : Prop where
  oc : OexC K C
  iC : PySem.W.findIn K (.ref C) "__init__" = some (some (.ref fI))
  tI : PySem.W.typeIn K (.ref fI) = some (.type "function")
  ok : FnOk P w K mg base (L2.CX P w) k fI fd ["self", f1, f2] (spI2 K C f1 f2)
  bi : Binds K fd ["self", f1, f2] []
  gC : mg x = some (.ref C)
def kRaise (x : Str) (f1 f2 : Str) (r : MA) : MS := fun env st => liftE (r env st) env fun ds st => match ds with
  | [d1, d2] => .ex x [(f2, d2), (f1, d1)] env st
  | _ => .no
theorem is_raise {r : MA} {C fI : Addr} {f1 f2 : Str} {q q' : Pos} (c : Stm X W (k + 1)) (R : Err2 X.prog X.w X.K X.mg X.base k x C fI fd f1 f2) (hg : Gl X x) (ha : IsA X G W (e :: es) r)
    (hdb : (x == ("__debug__" : Str)) = false := by decide) (he : starEach (e :: es) X.env = (false, eval e X.env) :: starEach es X.env := by rfl) (hpl : (backTo q (starEach es X.env)).any (·.1) = false := by rfl) :
    IsS X G W (.Raise (some (.Call (.Name x p) (e :: es) [] q)) none q') (kRaise x f1 f2 r) := by
  intro ρ env st σ H E rl hp
  refine ⟨_, ps_raise c.calm c.tk (pmk_oex R.oc R.iC R.tI R.ok c.room R.bi .nil pass_no hg R.gC (wpa X _) hdb he hpl), ?_⟩
  refine ha ρ env st σ H _ rl (PostS.lift rl hp fun ρ1 ds st1 xs H1 e1 k1 s1 r1 hp1 => ?_)
  match ds, r1, hp1 with
  | [d1, d2], .cons (v := v1) q1 (.cons (v := v2) q2 .nil), hp1 =>
    refine ⟨(show 2 ≤ 1000 by decide), fun a hna => ⟨a, v1, v2, rfl, upd_same, fun dx hdx hne => ?_⟩⟩
    have hdx1 : H1 dx = none := by rw [upd_ne hne] at hdx; exact hdx
    refine ⟨rfl, dx, [(f2, v2), (f1, v1)], ?_, upd_same, hdx1, ?_⟩
    · rw [upd_ne (Ne.symm hne), upd_same]
    · have rr := rl.step e1 k1 s1
      have eH : upd (del (upd (upd (upd (upd H1 a (exo a C none)) dx (exd dx [(f1, v1)])) a (exo a C (some dx))) dx (exd dx [(f2, v2), (f1, v1)])) a) dx (.xd [(f2, v2), (f1, v1)]) = upd H1 dx (.xd [(f2, v2), (f1, v1)]) := by
        funext z
        by_cases h1 : z = dx
        · subst h1; rw [upd_same, upd_same]
        · rw [upd_ne h1, upd_ne h1]
          by_cases h2 : z = a
          · subst h2; rw [del_same, hna]
          · rw [del_ne h2, upd_ne h1, upd_ne h2, upd_ne h1, upd_ne h2]
      rw [eH]
      have kp : Keep H1 (upd H1 dx (.xd [(f2, v2), (f1, v1)])) := Keep.new hdx1
      exact hp1 ρ1 σ _ C dx _ (List.prefix_refl _) kp (rr.step (List.prefix_refl _) kp (s1.frame hdx1)) R.gC upd_same (.cons (q2.mono (List.prefix_refl _) kp) (.cons (q1.mono (List.prefix_refl _) kp) .nil))
  | [], _, hp1 => exact hp1.elim
  | [_], _, hp1 => exact hp1.elim
  | _ :: _ :: _ :: _, _, hp1 => exact hp1.elim
end
end Mi
/-! ## Mi6 -/
set_option Elab.async false
set_option linter.all false
set_option maxRecDepth 100000
set_option maxHeartbeats 2000000
namespace Mi
open PySem L2 PySem.Spec PyProof.Rows

/-! ### try with several clauses, each with a name or without one -/
abbrev Clause := Value × Option Nat × (Addr → Value → Option Addr → TS)
def fin_ (i : Option Nat) (σ : L2.St) : L2.St := match i with
  | some i => σ.set i none
  | none => σ
def wCl (K : PySem.W.Frag) (Wout : WX) (D : Ends) : List Clause → WX
  | [] => Wout
  | (c, i, ts) :: r => fun cls d σ H => ∃ b, PySem.W.exmOne K cls c = some b ∧
      (b = true → ∀ a, H a = none → ts a cls d { nx := fun σ' H' => D.nx (fin_ i σ') H', rt := D.rt, bk := fun σ' H' => D.bk (fin_ i σ') H', ct := fun σ' H' => D.ct (fin_ i σ') H' } (match i with | some i => σ.set i (some (.ref a)) | none => σ) H) ∧
      (b = false → wCl K Wout D r cls d σ H)
inductive ClOk (X : Cx) : List ExceptHandler → List Clause → Prop
  | nil : ClOk X [] []
  | bare {x : Str} {c : Value} {ts : Addr → Value → Option Addr → TS} {b0 : Stmt} {su : List Stmt} {np pos' : Pos} {hds : List ExceptHandler} {l : List Clause} (hc : Names X x c)
      (hsu : ∀ (a : Addr) (oe : Obj) (cls : Value) (d : Option Addr) (pn : List (Addr × Obj)), Zc cls d oe → (∃ vs, oe.data = .fields vs) → PSs (X.suite a ((a, oe) :: pn)) (b0 :: su) (ts a cls d)) (r : ClOk X hds l) :
      ClOk X (.ExceptHandler (some (.Name x np)) none (b0 :: su) pos' :: hds) ((c, none, ts) :: l)
  | named {x n : Str} {i : Nat} {c : Value} {ts : Addr → Value → Option Addr → TS} {b0 : Stmt} {su : List Stmt} {np pos' : Pos} {hds : List ExceptHandler} {l : List Clause} (hc : Names X x c) (hN : X.N.Nodup) (hi : X.N[i]? = some n) (hl : X.env.kindOf n = some .local)
      (hsu : ∀ (a : Addr) (oe : Obj) (cls : Value) (d : Option Addr) (pn : List (Addr × Obj)), Zc cls d oe → (∃ vs, oe.data = .fields vs) → PSs (X.suite a ((a, oe) :: pn)) (b0 :: su) (ts a cls d)) (r : ClOk X hds l) :
      ClOk X (.ExceptHandler (some (.Name x np)) (some n) (b0 :: su) pos' :: hds) ((c, some i, ts) :: l)
section
variable {X : Cx} {body : List Stmt} {h0 : ExceptHandler} {hds : List ExceptHandler} {l : List Clause} {pos : Pos} {tb : WX → TS} {Wout : WX}
/-- the class of a clause is looked up -/
theorem name_of_clause {x : Str} {c : Value} {np : Pos} {a : Addr} {oe : Obj} {pn pins : List (Addr × Obj)} {σ : L2.St} {H : Hp} {s : Shared} {Q : Value → Shared → Prop} {E : Value → Shared → Prop} (hc : Names X x c) (S : Inv (X.suite a ((a, oe) :: pn)) pins σ H s) (q : Q c s) :
    wpAny (model X.prog X.w) (X.A.mark (some (.ref a))) (eval (.Name x np) X.env) Q E s := by
  rcases hc with ⟨hg, hdbg, hm | ⟨hm, hv, hnn⟩⟩
  · exact ld_glob S hg hm q hdbg
  · exact ld_blt S hg hm hv q hnn hdbg
theorem ps_tryN (hs : X.stack = X.env :: X.outer) (hf : X.env.frame = some X.env.locals) (tk : Takes X Wout)
    (hb : ∀ (W : WX) (pn : List (Addr × Obj)) (xe : Value → Shared → Prop), Takes (X.tr pn xe) W → PassesOwn (model X.prog X.w) X.A X.env xe → PSs (X.tr pn xe) body (tb W))
    (hh : ClOk X (h0 :: hds) l) : PS X (.Try body (h0 :: hds) [] [] pos) (fun D σ H => tb (wCl X.K Wout D l) D σ H) := by
  constructor
  intro pins s σ H D I h
  have ok := I.ok
  have hfr : X.A.frames = some (X.env :: X.outer) := ok.frames.trans (congrArg some hs)
  apply wpAny_Try_except
  have run := (hb (wCl X.K Wout D l) (X.pn ++ pins)
    (fun e s1 => wpAny (model X.prog X.w) X.A (noteFrame e X.env) (fun _ s2 => wpAny (model X.prog X.w) X.A (setFlight e none)
      (fun _ s3 => wpAny (model X.prog X.w) X.A (handleBy e X.env (h0 :: hds)) (SP X pins D) X.xe s3) X.xe s2) X.xe s1)
    ?caught PassesOwn.looking).run [] s σ H D (I.toTry _) h
  case caught =>
    rintro u s' ⟨a, B, sI, pins', σ', H', cls, d, rfl, J0, nb, up, sky, na, os, ag, w⟩
    have J := Inv.ofTry J0 ok
    have sky1 : Sky B (X.env :: X.outer) a (Zc cls d) X.env.locals s'.heap := hs ▸ sky
    show wpAny (model X.prog X.w) X.A (noteFrame (.ref a) X.env) _ _ _
    apply Sky.land Zc.steady hfr hf sky1
    intro h3 fl3 up3
    have J3 : Inv X pins σ' H' { s' with heap := h3 } := J.landed nb fl3.1 (up.trans up3) os ag
    obtain ⟨oe3, vs3, he3, hz3, hd3⟩ := fl3.there
    have out : a ∉ frs (X.env :: X.outer) := by
      intro hm
      obtain ⟨_, o', e', hnf⟩ := fl3.2.2.1.mem hm
      have q := he3.symm.trans e'
      injection q with q
      exact hnf _ (q ▸ hd3)
    have nL : a ≠ X.env.locals := by
      intro z
      apply out
      apply List.mem_filterMap.mpr
      exact ⟨X.env, List.mem_cons_self, hf.trans (congrArg some z.symm)⟩
    have nF : a ∉ X.fs := by
      intro hm
      obtain ⟨e, he, q⟩ := List.mem_filterMap.mp hm
      apply out
      exact List.mem_filterMap.mpr ⟨e, List.mem_cons_of_mem _ he, q⟩
    have S3 := J3.suite he3 hd3 na nL nF
    have LT : PySem.W.Looks (model X.prog X.w) h3 (typeOf (.ref a)) cls := by
      intro A Q E s k q
      exact wpAny_typeOf_ref (k _ _ he3) (hz3.1.symm ▸ q)
    -- the state in which a suite begins
    have enter : ∀ {A' : Around} {E' : Value → Shared → Prop} {R : Shared → Prop}, (∀ (h4 : Heap) (oe4 : Obj), Zc cls d oe4 → (∃ vs, oe4.data = .fields vs) → Inv (X.suite a ((a, oe4) :: (X.pn ++ pins))) [] σ' H' { s' with heap := h4 } → R { s' with heap := h4 }) →
        wpAny (model X.prog X.w) A' (setFlight (.ref a) none) (fun _ s4 => R s4) E' { s' with heap := h3 } := by
      intro A' E' R q
      apply HandSPX.lands_againZ fl3
      intro h4 fl4 up4
      have J4 : Inv X pins σ' H' { s' with heap := h4 } := J.landed nb fl4.1 ((up.trans up3).trans up4) os ag
      obtain ⟨oe4, vs4, he4, hz4, hd4⟩ := fl4.there
      exact q h4 oe4 hz4 ⟨vs4, hd4⟩ (J4.suite he4 hd4 na nL nF)
    have walk : ∀ (hs' : List ExceptHandler) (l' : List Clause), ClOk X hs' l' → wCl X.K Wout D l' cls d σ' H' → wpAny (model X.prog X.w) X.A (handleBy (.ref a) X.env hs') (SP X pins D) X.xe { s' with heap := h3 } := by
      intro hs' l' hk
      induction hk with
      | nil =>
        intro w'
        apply wpAny_handleBy_nil
        obtain ⟨_, _, _, oe, vs, T, oT, ts', he, hz, hd, h1, hr⟩ := id fl3
        unfold PySem.passOn
        apply wpAny_bind
        apply wpAny_field he hd h1
        rw [if_neg (show ¬ ((Value.ref T == Value.none) = true) by simp)]
        have last : wpAny (model X.prog X.w) X.A (setFlight (.ref a) X.env.frame) (fun _ s4 => wpAny (model X.prog X.w) X.A (throw (.ref a) : Sem Flow) (SP X pins D) X.xe s4) X.xe { s' with heap := h3 } := by
          rw [hf]
          apply HandSPX.setFlight_upZ fl3
          intro h4 hh4 up4
          apply wpAny_throw
          apply tk
          exact ⟨a, B, sI, pins, σ', H', cls, d, rfl, J, nb, (up.trans up3).trans up4, .inr (.inr (hs.symm ▸ hh4)), na, os, ag, w'⟩
        first
          | exact wpAny_bind last
          | exact wpAny_bind (wpAny_pure (wpAny_bind last))
      | bare hc hsu r ih =>
        rintro ⟨b, hb1, yes, no⟩
        apply wpAny_handleBy_cons (codeAny_handlers_test _) (by intro q; cases q)
        apply name_of_clause hc S3
        refine (PySem.W.exm_one (M := model X.prog X.w) J3.kIn LT hb1).here ?_
        cases b
        · exact ih (no rfl)
        · apply codeAny_handlers_suite
          apply enter
          intro h4 oe4 z4 d4 S4
          apply wpAny_mono ((hsu a oe4 cls d (X.pn ++ pins) z4 d4).run [] _ _ H' _ S4 (yes rfl a na)) _ (fun _ _ z => False.elim z)
          intro f s6 hsp
          match f, hsp with
          | .next, ⟨_, _, S6, q6⟩ => exact ⟨_, _, S6.unsuite ok, q6⟩
          | .brk, ⟨_, _, S6, q6⟩ => exact ⟨_, _, S6.unsuite ok, q6⟩
          | .cont, ⟨_, _, S6, q6⟩ => exact ⟨_, _, S6.unsuite ok, q6⟩
          | .ret _, ⟨_, _, _, S6, r6, q6⟩ => exact ⟨_, _, _, S6.unsuite ok, r6, q6⟩
      | @named x n i c ts b0 su np pos' hds2 l2 hc hN hi hl hsu r ih =>
        rintro ⟨b, hb1, yes, no⟩
        apply wpAny_handleBy_cons (codeAny_handlers_test _) (by intro q; cases q)
        apply name_of_clause hc S3
        refine (PySem.W.exm_one (M := model X.prog X.w) J3.kIn LT hb1).here ?_
        cases b
        · exact ih (no rfl)
        · apply codeAny_handlers_suite_as
          apply enter
          intro h4 oe4 z4 d4 S4
          refine store_ok (X := X.suite a ((a, oe4) :: (X.pn ++ pins))) (v := .ref a) S4 hN hi (.inl hl) rfl ?_ (.inr hl)
          intro s5 S5
          apply wpAny_mono ((hsu a oe4 cls d (X.pn ++ pins) z4 d4).run [] s5 _ H' _ S5 (yes rfl a na)) _ (fun _ _ z => False.elim z)
          intro f s6 hsp
          match f, hsp with
          | .next, ⟨_, _, S6, q6⟩ => exact gone_ok (S6.unsuite ok) hN hi hl fun s7 J7 => ⟨_, _, J7, q6⟩
          | .brk, ⟨_, _, S6, q6⟩ => exact gone_ok (S6.unsuite ok) hN hi hl fun s7 J7 => ⟨_, _, J7, q6⟩
          | .cont, ⟨_, _, S6, q6⟩ => exact gone_ok (S6.unsuite ok) hN hi hl fun s7 J7 => ⟨_, _, J7, q6⟩
          | .ret _, ⟨_, _, _, S6, r6, q6⟩ => exact gone_ok (S6.unsuite ok) hN hi hl fun s7 J7 => ⟨_, _, _, J7, r6, q6⟩
    exact walk _ _ hh w
  apply wpAny_mono run
  · intro f s1 hsp
    match f, hsp with
    | .next, ⟨σ', H', J', q⟩ => exact wpAny_execs_nil ⟨σ', H', J'.ofTry ok, q⟩
    | .brk, ⟨σ', H', J', q⟩ => exact ⟨σ', H', J'.ofTry ok, q⟩
    | .cont, ⟨σ', H', J', q⟩ => exact ⟨σ', H', J'.ofTry ok, q⟩
    | .ret _, ⟨v, σ', H', J', r, q⟩ => exact ⟨v, σ', H', J'.ofTry ok, r, q⟩
  · intro e s1 he
    exact he
end
end Mi
/-! ## Mi7 -/
set_option Elab.async false
set_option linter.all false
set_option maxRecDepth 100000
set_option maxHeartbeats 2000000
namespace Mi
open PySem L2

/-! ### try, with the meanings of its clauses -/
abbrev MH := Fs → MS
abbrev MCl := Str × Option Nat × MH
def setN : Option Nat → Env → Env
  | some i, env => env.set i none
  | none, env => env
def finN (i : Option Nat) : SOut → SOut
  | .nx env st => .nx (setN i env) st
  | .bk env st => .bk (setN i env) st
  | .ct env st => .ct (setN i env) st
  | .rt d st => .rt d st
  | _ => .no
def okN : Option Nat → Env → Bool
  | some i, env => decide (i < env.length)
  | none, _ => true
def kHand : List MCl → Str → Fs → Env → Store → SOut
  | [], c, fs, env, st => .ex c fs env st
  | (x, i, h) :: r, c, fs, env, st => if c = x then (if okN i env = true then finN i (h fs (setN i env) st) else .no) else kHand r c fs env st
def kTry (cs : List Str) (hs : List MCl) (b : MS) : MS := fun env st => match b env st with
  | .ex c fs env' st' => if c ∈ cs then kHand hs c fs env' st' else .no
  | o => o
/-- in a suite: the error at hand -/
def ambX (K : PySem.W.Frag) (a : Addr) (i : Option Nat) (dd : Addr) (gs : List (Str × V)) (fs : Fs) : Amb :=
  ⟨fun ρ H σ => H dd = some (.xd gs) ∧ RelF K ρ H fs gs ∧ ∀ j, i = some j → σ[j]? = some (some (.ref a)), fun e k z => ⟨k _ _ z.1 trivial, z.2.1.mono e k, z.2.2⟩⟩
section
variable {X : Cx} {G : Amb} {W : WX} {e a b c o tg : Expr} {es : List Expr} {pos p2 pos' p : Pos} {m ma mb mc : ME} {k : Nat} {cs : List Str}
/-- what one clause's suite does -/
abbrev Suite (X : Cx) (su : List Stmt) (x : Str) (C : Addr) (i : Option Nat) (h : MH) : Prop := ∀ (a : Addr) (oe : Obj) (dd : Addr) (pn : List (Addr × Obj)) (gs : List (Str × V)) (fs : Fs), Zc (.ref C) (some dd) oe → (∃ vs, oe.data = .fields vs) →
  IsB (X.suite a ((a, oe) :: pn)) (ambX X.K a i dd gs fs) W0 su (h fs)
inductive ClM (X : Cx) (cs : List Str) : List ExceptHandler → List MCl → Prop
  | nil : ClM X cs [] []
  | bare {x : Str} {C : Addr} {b0 : Stmt} {su : List Stmt} {np pos' : Pos} {hds : List ExceptHandler} {l : List MCl} {h : MH} (hg : Gl X x) (hd : (x == ("__debug__" : Str)) = false) (hm : X.mg x = some (.ref C))
      (hx : ∀ c ∈ cs, ∀ C', X.mg c = some (.ref C') → PySem.W.exmOne X.K (.ref C') (.ref C) = some (decide (c = x))) (hsu : Suite X (b0 :: su) x C none h) (r : ClM X cs hds l) :
      ClM X cs (.ExceptHandler (some (.Name x np)) none (b0 :: su) pos' :: hds) ((x, none, h) :: l)
  | named {x n : Str} {i : Nat} {C : Addr} {b0 : Stmt} {su : List Stmt} {np pos' : Pos} {hds : List ExceptHandler} {l : List MCl} {h : MH} (hg : Gl X x) (hd : (x == ("__debug__" : Str)) = false) (hm : X.mg x = some (.ref C)) (hN : X.N.Nodup) (hi : X.N[i]? = some n) (hl : X.env.kindOf n = some .local)
      (hx : ∀ c ∈ cs, ∀ C', X.mg c = some (.ref C') → PySem.W.exmOne X.K (.ref C') (.ref C) = some (decide (c = x))) (hsu : Suite X (b0 :: su) x C (some i) h) (r : ClM X cs hds l) :
      ClM X cs (.ExceptHandler (some (.Name x np)) (some n) (b0 :: su) pos' :: hds) ((x, some i, h) :: l)
/-- the reading of a suite -/
def tSu (X : Cx) (su : List Stmt) : Addr → Value → Option Addr → TS := fun a cls d D σ H => ∀ (oe : Obj) (pn : List (Addr × Obj)), Zc cls d oe → (∃ vs, oe.data = .fields vs) → WPB (X.suite a ((a, oe) :: pn)) su D σ H
theorem tSu_ok {su : List Stmt} : ∀ (a : Addr) (oe : Obj) (cls : Value) (d : Option Addr) (pn : List (Addr × Obj)), Zc cls d oe → (∃ vs, oe.data = .fields vs) → PSs (X.suite a ((a, oe) :: pn)) su (tSu X su a cls d) :=
  fun a oe cls d pn hz hd => ⟨fun pins s σ H D I h => (wpb _ su).run pins s σ H D I (h oe pn hz hd)⟩
theorem fin_post {ρ : List Addr} {H : Hp} {E : Ends} {i : Option Nat} {o : SOut} {a dd : Addr} {gs : List (Str × V)} {fs : Fs} (h : PostS X.K X.mg amb0 W ρ H (finN i o) E) :
    PostS X.K X.mg (ambX X.K a i dd gs fs) W0 ρ H o { nx := fun σ' H' => E.nx (fin_ i σ') H', rt := E.rt, bk := fun σ' H' => E.bk (fin_ i σ') H', ct := fun σ' H' => E.ct (fin_ i σ') H' } := by
  have cvt : ∀ {ρ' : List Addr} {env : Env} {st : Store} {σ' : L2.St} {H' : Hp}, Rel X.K (ambX X.K a i dd gs fs) ρ' env st σ' H' → Rel X.K amb0 ρ' (setN i env) st (fin_ i σ') H' := by
    intro ρ' env st σ' H' r
    cases i with
    | none => exact ⟨r.s, r.e, trivial⟩
    | some j => exact ⟨r.s, r.e.none, trivial⟩
  cases o with
  | no => exact h
  | nx env st => exact fun ρ' σ' H' e k r => h ρ' _ H' e k (cvt r)
  | bk env st => exact fun ρ' σ' H' e k r => h ρ' _ H' e k (cvt r)
  | ct env st => exact fun ρ' σ' H' e k r => h ρ' _ H' e k (cvt r)
  | rt d st => exact h
  | ex c fs' env st => exact h.elim
theorem clm_go {hds : List ExceptHandler} {l : List MCl} (h : ClM X cs hds l) : ∃ l' : List Clause, ClOk X hds l' ∧ ∀ (c : Str) (C dd : Addr) (gs : List (Str × V)) (fs : Fs) (ρ : List Addr) (env : Env) (st : Store) (σ : L2.St) (H : Hp) (E : Ends), c ∈ cs → Rel X.K amb0 ρ env st σ H →
    X.mg c = some (.ref C) → H dd = some (.xd gs) → RelF X.K ρ H fs gs → PostS X.K X.mg amb0 W ρ H (kHand l c fs env st) E → wCl X.K W E l' (.ref C) (some dd) σ H := by
  induction h with
  | nil => exact ⟨[], .nil, fun c C dd gs fs ρ env st σ H E _ r hc hd hf hp => hp ρ σ H C dd gs (List.prefix_refl _) (Keep.refl _) r hc hd hf⟩
  | @bare x C0 b0 su np pos' hds l h hg hdb hm hx hsu r ih =>
    obtain ⟨l', ok, go⟩ := ih
    refine ⟨(.ref C0, none, tSu X (b0 :: su)) :: l', .bare ⟨hg, hdb, .inl hm⟩ tSu_ok ok, fun c C dd gs fs ρ env st σ H E hcs rl hc hd hf hp => ?_⟩
    refine ⟨_, hx c hcs C hc, fun hb a na oe pn hz hv => ?_, fun hb => ?_⟩
    · have e := of_decide_eq_true hb
      subst e
      rw [hc] at hm; cases hm
      unfold kHand at hp
      rw [if_pos rfl, if_pos (show okN none env = true from rfl)] at hp
      exact hsu a oe dd pn gs fs hz hv ρ env st σ H _ ⟨rl.s, rl.e, hd, hf, fun j e => nomatch e⟩ (fin_post hp)
    · have e := of_decide_eq_false hb
      unfold kHand at hp
      rw [if_neg e] at hp
      exact go c C dd gs fs ρ env st σ H E hcs rl hc hd hf hp
  | @named x n i C0 b0 su np pos' hds l h hg hdb hm hN hi hl hx hsu r ih =>
    obtain ⟨l', ok, go⟩ := ih
    refine ⟨(.ref C0, some i, tSu X (b0 :: su)) :: l', .named ⟨hg, hdb, .inl hm⟩ hN hi hl tSu_ok ok, fun c C dd gs fs ρ env st σ H E hcs rl hc hd hf hp => ?_⟩
    refine ⟨_, hx c hcs C hc, fun hb a na oe pn hz hv => ?_, fun hb => ?_⟩
    · have e := of_decide_eq_true hb
      subst e
      rw [hc] at hm; cases hm
      unfold kHand at hp
      rw [if_pos rfl] at hp
      by_cases hj : i < env.length
      · rw [if_pos (show okN (some i) env = true from decide_eq_true hj)] at hp
        refine hsu a oe dd pn gs fs hz hv ρ _ st _ H _ ⟨rl.s, rl.e.none, hd, hf, fun j e => ?_⟩ (fin_post hp)
        cases e
        rw [List.getElem?_set_self (by rw [← rl.e.len]; exact hj)]
      · rw [if_neg (show ¬ okN (some i) env = true from fun z => hj (of_decide_eq_true z))] at hp
        exact hp.elim
    · have e := of_decide_eq_false hb
      unfold kHand at hp
      rw [if_neg e] at hp
      exact go c C dd gs fs ρ env st σ H E hcs rl hc hd hf hp
theorem is_try {body : List Stmt} {h0 : ExceptHandler} {hds : List ExceptHandler} {l : List MCl} {b : MS} (c : Stm X W k) (hb : ∀ (W' : WX) (pn : List (Addr × Obj)) (xe : Value → Shared → Prop), Stm (X.tr pn xe) W' k → IsB (X.tr pn xe) amb0 W' body b)
    (hh : ClM X cs (h0 :: hds) l) : IsS X amb0 W (.Try body (h0 :: hds) [] [] pos) (kTry cs l b) := by
  obtain ⟨l', ok, go⟩ := clm_go (W := W) hh
  intro ρ env st σ H E rl hp
  have stm : ∀ (W' : WX) (pn : List (Addr × Obj)) (xe : Value → Shared → Prop), Takes (X.tr pn xe) W' → PassesOwn (model X.prog X.w) X.A X.env xe → Stm (X.tr pn xe) W' k :=
    fun W' pn xe tk po => ⟨⟨c.calm, c.nod, c.room, fun σ => passAt tk σ⟩, tk, po, c.hs, c.hf⟩
  refine ⟨_, ps_tryN (tb := fun W' => fun D σ H => ∀ (pn : List (Addr × Obj)) (xe : Value → Shared → Prop), Stm (X.tr pn xe) W' k → WPB (X.tr pn xe) body D σ H) c.hs c.hf c.tk
    (fun W' pn xe tk po => ⟨fun pins s σ H D I h => (wpb _ body).run pins s σ H D I (h pn xe (stm W' pn xe tk po))⟩) ok, fun pn xe sm => ?_⟩
  refine hb _ pn xe sm ρ env st σ H E rl ?_
  unfold kTry at hp
  cases e : b env st with
  | no => rw [e] at hp; exact hp.elim
  | nx env' st' => rw [e] at hp; exact hp
  | bk env' st' => rw [e] at hp; exact hp
  | ct env' st' => rw [e] at hp; exact hp
  | rt d st' => rw [e] at hp; exact hp
  | ex cc fs env' st' =>
    rw [e] at hp
    by_cases hcs : cc ∈ cs
    · simp only [if_pos hcs] at hp
      exact fun ρ' σ' H' C dd gs e' k' r' hc hd hf => go cc C dd gs fs ρ' env' st' σ' H' E hcs r' hc hd hf (hp.later e' k')
    · simp only [if_neg hcs] at hp
      exact hp.elim
/-- e.f, e the error at hand -/
def mXf (fs : Fs) (f : Str) : ME := fun _ st => match fs.lookup f with
  | some d => .ok d st
  | none => .no
theorem is_xf {X0 : Cx} {a C dd : Addr} {oe : Obj} {pn : List (Addr × Obj)} {gs : List (Str × V)} {fs : Fs} {i : Nat} {f n : Str} {np : Pos} (T : XfC X0.K C) (hno : PySem.W.findIn X0.K (.ref C) f = some none) (hz : Zc (.ref C) (some dd) oe) (hv : ∃ vs, oe.data = .fields vs)
    (hn : PE (X0.suite a ((a, oe) :: pn)) (.Name n np) (tVar i)) (hb : attributeBase (.Name n np) f X0.env (eval (.Name n np) X0.env) = eval (.Name n np) X0.env := by rfl) :
    IsE (X0.suite a ((a, oe) :: pn)) (ambX X0.K a (some i) dd gs fs) W (.Attribute (.Name n np) f pos) (mXf fs f) := by
  intro ρ env st σ H Q rl hp
  obtain ⟨z1, z2, z3⟩ := rl.z
  refine ⟨_, pe_xf T hno hz hv hn hb, ?_⟩
  unfold mXf at hp
  cases e : fs.lookup f with
  | none => rw [e] at hp; exact hp.elim
  | some d =>
    rw [e] at hp
    obtain ⟨v, hv, rv⟩ := z2.look e
    exact ⟨.ref a, z3 i rfl, rfl, rfl, dd, gs, v, rfl, z1, hv, post_ok (X := X0.suite a ((a, oe) :: pn)) rl.s hp rv⟩

/-! ### __init__ of an error of two fields: self.f1 = .., self.f2 = .. -/
theorem init2 {P : Program} {w : World} {K : PySem.W.Frag} {mg : Str → Option Value} {base : Heap} {qual : Str} {st : Stmt} {fI C : Addr} {fd : FuncData} {f1 f2 : Str} (F : Fun K "__init__" qual st fI fd) (S : FnScope ["self", f1, f2] ["self", f1, f2] (defScope st)) (oc : OexC K C)
    (n1 : PySem.W.findIn K (.ref C) f1 = some none) (n2 : PySem.W.findIn K (.ref C) f2 = some none)
    (hb : ∀ X : Cx, X.K = K → X.N = (["self", f1, f2] : List Str) → X.env.scope = defScope st → PSs X (defBody st) (tSeq (tOst K f1 (tVar 0) (tVar 1)) (tOst K f2 (tVar 0) (tVar 2)))) :
    FnOk P w K mg base (L2.CX P w) 1 fI fd ["self", f1, f2] (spI2 K C f1 f2) := by
  refine F.okX S (fun vs H Q E h => ?_) fun cdv A outer s H vs Q E hr h => ?_
  · obtain ⟨a, v1, v2, rfl, _⟩ := h
    rfl
  · obtain ⟨a, v1, v2, rfl, ea, q⟩ := h
    refine ⟨_, hb _ rfl rfl rfl, ?_⟩
    refine ⟨v1, rfl, .ref a, rfl, a, C, rfl, oc, n1, .inl ⟨ea, fun dx hdx hne => ?_⟩⟩
    refine ⟨v2, rfl, .ref a, rfl, a, C, rfl, oc, n2, .inr ⟨dx, [(f1, v1)], upd_same, ?_, (show 1 ≤ 900 by decide), q dx hdx hne⟩⟩
    rw [upd_ne hne, upd_same]
end
end Mi
/-! ## Mi8 -/
set_option Elab.async false
set_option linter.all false
set_option maxRecDepth 100000
set_option maxHeartbeats 2000000
namespace Mi
open PySem L2

/-! ### f-strings of texts -/
section
variable {X : Cx} {G : Amb} {W : WX} {e a b c o tg : Expr} {es : List Expr} {pos p2 pos' p : Pos} {m ma mb mc : ME} {own : List Nat} {k j : Nat} {x : Str}
def fmtS (d : D) (st : Store) : Out D := match d with
  | .str y => if y.length ≤ 1000000 then .ok (.str y) st else .no
  | _ => .no
def mFmt (m : ME) : ME := fun env st => (m env st).bind fmtS
theorem is_fmt (h : IsE X G W a m) : IsE X G W (.FormattedValue a (-1) none pos) (mFmt m) := by
  intro ρ env st σ H Q r hp
  refine ⟨_, pe_fmt (wpe X a), h ρ env st σ H _ r (Post.bind hp fun ρ1 d st1 x H1 e1 k1 s1 r1 hp1 => ?_)⟩
  unfold fmtS at hp1
  split at hp1
  · split at hp1
    · rename_i hl
      cases r1
      exact .inl ⟨_, rfl, line_ok hl, post_ok s1 hp1 (.str _)⟩
    · exact hp1.elim
  · exact hp1.elim
def joinS : List ME → Str → ME
  | [], acc => fun _ st => .ok (.str acc) st
  | m :: ms, acc => fun env st => (m env st).bind fun d st => match d with
    | .str y => if (acc ++ y).length ≤ 1000000 then joinS ms (acc ++ y) env st else .no
    | _ => .no
def mJoined (ms : List ME) : ME := joinS ms Str.empty
inductive IsJ (X : Cx) (G : Amb) (W : WX) : List Expr → List ME → Prop
  | nil : IsJ X G W [] []
  | cons {e : Expr} {m : ME} {es : List Expr} {ms : List ME} (h : IsE X G W e m) (r : IsJ X G W es ms) : IsJ X G W (e :: es) (m :: ms)
theorem pj_of (es : List Expr) : PJ X es (es.map (WPE X)) := by
  induction es with
  | nil => exact .nil
  | cons e es ih => exact .cons (wpe X e) ih
theorem isj_go {ms : List ME} (h : IsJ X G W es ms) : ∀ (acc : Str) (ρ : List Addr) (env : Env) (st : Store) (σ : St) (H : Hp) (Q : VK), Rel X.K G ρ env st σ H →
    Post X.K X.mg (RelD X.K) (fun c d h => W c d σ h) ρ H (joinS ms acc env st) Q → tJs (es.map (WPE X)) acc σ H fun out H1 => Q (.str out) H1 := by
  induction h with
  | nil => exact fun acc ρ env st σ H Q r hp => post_ok r.s hp (.str _)
  | @cons e m es ms h r ih =>
    intro acc ρ env st σ H Q rl hp
    refine h ρ env st σ H _ rl (Post.bind hp fun ρ1 d st1 x H1 e1 k1 s1 r1 hp1 => ?_)
    split at hp1
    · rename_i y
      cases r1
      split at hp1
      · rename_i hl
        exact ⟨_, rfl, line_ok hl, ih _ ρ1 env st1 σ H1 Q (rl.step e1 k1 s1) hp1⟩
      · exact hp1.elim
    · exact hp1.elim
theorem is_joined {ms : List ME} (h : IsJ X G W (a :: b :: es) ms) : IsE X G W (.JoinedStr (a :: b :: es) pos) (mJoined ms) :=
  fun ρ env st σ H Q r hp => ⟨_, pe_joined (pj_of _), isj_go h _ ρ env st σ H Q r hp⟩

/-! ### int * int, text * int -/
def fMulA (a b : D) (st : Store) : Out D := match a with
  | .str _ => fRepS a b st
  | _ => fMul a b st
theorem op_mulA' : IsOp X (binaryOp .Mult) fMulA := by
  intro W ρ st H a b x y Q s ra rb hp
  unfold fMulA at hp
  split at hp
  · exact op_repS' W ρ st H _ b x y Q s ra rb hp
  · exact op_mul' W ρ st H a b x y Q s ra rb hp

/-! ### constants of the module -/
theorem is_glob {d : D} {v : V} {u : Value} (hg : Gl X x) (hm : X.mg x = some u) (rv : RelV v u) (hr : ∀ ρ H, RelD X.K ρ H d v) (hd : (x == ("__debug__" : Str)) = false := by decide) : IsE X G W (.Name x pos) (mC d) :=
  is_c (pe_glob hg hm rv hd) hr
/-- what is known of a constant -/
def Kst (K : PySem.W.Frag) (mg : Str → Option Value) (x : Str) (d : D) : Prop := ∃ (v : V) (u : Value), mg x = some u ∧ RelV v u ∧ ∀ ρ H, RelD K ρ H d v
theorem is_kst {d : D} (h : Kst X.K X.mg x d) (hg : Gl X x) (hd : (x == ("__debug__" : Str)) = false := by decide) : IsE X G W (.Name x pos) (mC d) := by
  obtain ⟨v, u, hm, rv, hr⟩ := h
  exact is_glob hg hm rv hr hd

/-! ### defs -/
structure Def (K : PySem.W.Frag) (mg : Str → Option Value) (x : Str) (st : Stmt) (ps : List Str) : Prop where
  ex : ∃ (f : Addr) (fd : FuncData), Fun K x x st f fd ∧ mg x = some (.ref f) ∧ (∀ us : List Value, us.length = ps.length → bindArgs fd ⟨us, []⟩ = pure (ps.zip us)) ∧ ∀ us : List Value, us.length = ps.length → bindArgs fd ⟨[], ps.zip us⟩ = pure (ps.zip us)
theorem kw_all {K : PySem.W.Frag} {fd : FuncData} {ps : List Str} (h : ∀ us : List Value, us.length = ps.length → bindArgs fd ⟨[], ps.zip us⟩ = pure (ps.zip us)) : KwTo K fd ps ps := fun s ws _ hl => .of_eq (h ws hl)
structure Has (P : Program) (w : World) (K : PySem.W.Frag) (mg : Str → Option Value) (base : Heap) (k : Nat) (x : Str) (ps : List Str) (m : MF) : Prop where
  ex : ∃ (f : Addr) (fd : FuncData), FnOk P w K mg base (L2.CX P w) k f fd ps (spM K mg ps.length m) ∧ mg x = some (.ref f) ∧ PySem.W.keepIn K (.ref f) = true ∧ Binds K fd ps [] ∧ KwTo K fd ps ps
theorem Def.has {P : Program} {w : World} {K : PySem.W.Frag} {mg : Str → Option Value} {base : Heap} {x : Str} {st : Stmt} {N ps : List Str} {k : Nat} {b : MS} (F : Def K mg x st ps) (S : FnScope N ps (defScope st))
    (hb : ∀ (f : Addr) (cdv : Value) (A : Around) (outer : List PySem.Env) (s : Shared) (H : Hp) (E : XK), Stm (cxOf (L2.CX P w) P w K mg base N x (defScope st) f cdv A outer s H E) (fun cls d _ H => E cls d H) k →
      IsB (cxOf (L2.CX P w) P w K mg base N x (defScope st) f cdv A outer s H E) amb0 (fun cls d _ H => E cls d H) (defBody st) b) : Has P w K mg base (k + 1) x ps (mDef N.length b) := by
  obtain ⟨f, fd, h1, h2, h3, h4⟩ := F.ex
  exact ⟨f, fd, fn_okM h1 S (hb f), h2, h1.kp, .all h3, kw_all h4⟩
theorem fn_no {P : Program} {w : World} {K : PySem.W.Frag} {mg : Str → Option Value} {base : Heap} {CX : CXT} {f : Addr} {fd : FuncData} {N ps : List Str} {x : Str} {st : Stmt} {k : Nat} (F : Fun K x x st f fd) (S : FnScope N ps (defScope st)) :
    FnOk P w K mg base (L2.CX P w) (k + 1) f fd ps (spM K mg ps.length fun _ _ => .no) :=
  F.okX S (fun vs H Q E h => h.1) fun cdv A outer s H vs Q E hr h => by
    obtain ⟨_, ρ, sto, ds, hs, rs, hp⟩ := h
    exact hp.elim
theorem Def.no {P : Program} {w : World} {K : PySem.W.Frag} {mg : Str → Option Value} {base : Heap} {x : Str} {st : Stmt} {N ps : List Str} {k : Nat} (F : Def K mg x st ps) (S : FnScope N ps (defScope st)) : Has P w K mg base (k + 1) x ps fun _ _ => .no := by
  obtain ⟨f, fd, h1, h2, h3, h4⟩ := F.ex
  exact ⟨f, fd, fn_no (CX := L2.CX P w) h1 S, h2, h1.kp, .all h3, kw_all h4⟩
theorem is_callH {mf : MF} {r : MA} {ps : List Str} (F : Has X.prog X.w X.K X.mg X.base j x ps mf) (c : Cal X W k) (hjk : j ≤ k) (hg : Gl X x) (ha : IsA X G W (e :: es) r) (hlen : ∀ env st ds st', r env st = .ok ds st' → ds.length = ps.length)
    (hdb : (x == ("__debug__" : Str)) = false := by decide) (he : starEach (e :: es) X.env = (false, eval e X.env) :: starEach es X.env := by rfl) (hpl : (backTo pos (starEach es X.env)).any (·.1) = false := by rfl) :
    IsE X G W (.Call (.Name x p) (e :: es) [] pos) (mCall mf r) := by
  obtain ⟨f, fd, h1, h2, h3, h4, h5⟩ := F.ex
  exact is_call (c.low hjk) h1 hg h2 h3 h4 ha hdb he hpl hlen
theorem is_callKH {mf : MF} {r : MA} {kws : List Keyword} {ps : List Str} (F : Has X.prog X.w X.K X.mg X.base j x ps mf) (c : Cal X W k) (hjk : j ≤ k) (hg : Gl X x) (ha : IsK X G W kws r) (hlen : ∀ env st ds st', r env st = .ok ds st' → ds.length = ps.length)
    (hall : (backToKw pos (keywordEach kws X.env)).all (·.1.isSome) = true := by rfl) (hks : (backToKw pos (keywordEach kws X.env)).filterMap (·.1) = ps := by rfl) (hdb : (x == ("__debug__" : Str)) = false := by decide)
    (hpl : ((backTo pos (starEach [] X.env)).any (·.1) || (backToKw pos (keywordEach kws X.env)).any (·.1.isNone)) = false := by rfl) : IsE X G W (.Call (.Name x p) [] kws pos) (mCall mf r) := by
  obtain ⟨f, fd, h1, h2, h3, h4, h5⟩ := F.ex
  exact is_callK ps (c.low hjk) h1 hg h2 h3 h5 ha hlen hall hks hdb hpl
/-! ### errors -/
structure Err (P : Program) (w : World) (K : PySem.W.Frag) (mg : Str → Option Value) (base : Heap) (x : Str) (C : Addr) (f1 f2 : Str) : Prop where
  ex : ∃ (fI : Addr) (fd : FuncData), Err2 P w K mg base 1 x C fI fd f1 f2
  xf : XfC K C
  n1 : PySem.W.findIn K (.ref C) f1 = some none
  n2 : PySem.W.findIn K (.ref C) f2 = some none
theorem Err.mg {P : Program} {w : World} {K : PySem.W.Frag} {mg : Str → Option Value} {base : Heap} {C : Addr} {f1 f2 : Str} (h : Err P w K mg base x C f1 f2) : mg x = some (.ref C) := by
  obtain ⟨_, _, h⟩ := h.ex
  exact h.gC
theorem is_raiseH {r : MA} {C : Addr} {f1 f2 : Str} {q q' : Pos} (R : Err X.prog X.w X.K X.mg X.base x C f1 f2) (c : Stm X W k) (hk : 2 ≤ k) (hg : Gl X x) (ha : IsA X G W (e :: es) r)
    (hdb : (x == ("__debug__" : Str)) = false := by decide) (he : starEach (e :: es) X.env = (false, eval e X.env) :: starEach es X.env := by rfl) (hpl : (backTo q (starEach es X.env)).any (·.1) = false := by rfl) :
    IsS X G W (.Raise (some (.Call (.Name x p) (e :: es) [] q)) none q') (kRaise x f1 f2 r) := by
  obtain ⟨fI, fd, h⟩ := R.ex
  exact is_raise (k := 1) ⟨c.toCal.low hk, c.tk, c.po, c.hs, c.hf⟩ h hg ha hdb he hpl
end
end Mi
/-! ## Me -/
set_option Elab.async false
set_option linter.all false
set_option maxRecDepth 100000
set_option maxHeartbeats 2000000
namespace Mi
open PySem PySem.Spec PyProof.Rows L2

/-! ### enumerate(tuple) -/
theorem met_enum {v : Value} {o : Obj} {Hc : Heap → Prop} (B : Begins v o Hc) :
    Meets (Builtin.«enumerate.__new__» ⟨[.type "enumerate", v], []⟩) (fun _ R s => Hc s.heap ∧
      R (.ok (.ret (.ref (s.heap.push o).objs.size))) { s with heap := (s.heap.push o).push { cls := .type "enumerate", data := .fields #[.none, .bool false, .ref s.heap.objs.size, rawInt 0, .none, .none] } }) :=
  .of_wp fun prog w A R s hs => by
    obtain ⟨h0, gs, dr, t0, o0⟩ := s
    obtain ⟨hc, hs⟩ := hs
    have isE := sub_enumerate
    have starts : ∀ {A' : Around} {E : Value → Shared → Prop} {Q : Value → Shared → Prop}, Q (.ref h0.objs.size) ⟨h0.push o, gs, dr, t0, o0⟩ → wpAny (model prog w) A' (pyIter v) Q E ⟨h0, gs, dr, t0, o0⟩ :=
      fun q => B.iter prog w _ _ ⟨h0, gs, dr, t0, o0⟩ _ hc q
    wp_walk using starts
    refine wpAny_stack_any fun _ => wpAny_pure ?_
    split
    · rename_i cc _ _ _ _ _
      cases (cc == Value.type "enumerate") <;> (wp_walk using starts; exact ⟨_, rfl, hs⟩)
    · wp_walk using starts
      exact ⟨_, rfl, hs⟩
theorem call_enum {prog : Program} {w : World} {A : Around} {E : Value → Shared → Prop} {s : Shared} {v : Value} {o : Obj} {Hc : Heap → Prop} {Q : Value → Shared → Prop} (B : Begins v o Hc) (hc : Hc s.heap)
    (k : ∀ h', IsEnum h' (s.heap.objs.size + 1) s.heap.objs.size 0 .none → h'.get? s.heap.objs.size = some o → (∀ b u, s.heap.get? b = some u → h'.get? b = some u) → Q (.ref (s.heap.objs.size + 1)) { s with heap := h' }) :
    wpAny (model prog w) A (call (.type "enumerate") [v]) Q E s := by
  refine callType_new F.called_enumerate (by decide) (F.typeCall_enumerate_1 _) (F.newCall_enumerate_1 _) (fun obj => F.args_object_init_2 obj _) F.entry_enumerate_new (met_enum B) ⟨hc, ?_⟩
  have size1 : (s.heap.push o).objs.size = s.heap.objs.size + 1 := Heap.size_push ..
  show _ ∧ _
  rw [size1]
  have at1 := Heap.get?_push_size (s.heap.push o) (o := { cls := .type "enumerate", data := .fields #[.none, .bool false, .ref s.heap.objs.size, rawInt 0, .none, .none] }) rfl
  rw [size1] at at1
  exact ⟨⟨_, at1, rfl⟩, k _ at1 (Heap.get?_push_of_some _ (Heap.get?_push_size _ B.free)) fun b u q => Heap.get?_push_of_some _ (Heap.get?_push_of_some _ q)⟩
def IteT (K : PySem.W.Frag) (a : Addr) : It where
  go i H := ∃ (xs : List V) (x : V), SqT K H a xs ∧ xs[i]? = some x
  yld i H v H' := ∃ T x, v = .ref T ∧ H T = none ∧ H' = upd H T (.tup [.int (i : Nat), x]) ∧ ∀ xs, SqT K H a xs → xs[i]? = some x
  stop i H := ∃ xs : List V, SqT K H a xs ∧ xs.length ≤ i
theorem turn_en {P : Program} {w : World} {K : PySem.W.Frag} {elts : List Expr} {kk : Nat} {tpos : Pos} (a e it : Addr) :
    Turn P w K (.Tuple elts kk tpos) (IteT K a) [e, it] e (fun i h => (∃ old, IsEnum h e it ((i : Nat) : Int) old) ∧ h.IsTupleIter it a i ∧ e ≠ it ∧ a ≠ it ∧ e ≠ a) where
  mem := by simp
  obj := fun i h st b hb => by
    obtain ⟨⟨old, he⟩, ⟨o, ho, hc, hd⟩, _⟩ := st
    have e' : b = e ∨ b = it := by simpa using hb
    rcases e' with z | z
    · rw [z]; exact ⟨_, he, fun v q => nomatch q⟩
    · rw [z]; exact ⟨o, ho, fun v q => by rw [hd] at q; cases q⟩
  keep := fun i h h' st k => let ⟨⟨old, he⟩, hi, hne⟩ := st; ⟨⟨old, k e (by simp) _ he⟩, hi.at fun o q => k it (by simp) o q, hne⟩
  item := by
    intro X hP hw hK hc i pins s σ H E I hf st hg
    subst hP hw hK
    obtain ⟨⟨old, he⟩, hit, hne, hai, hea⟩ := st
    obtain ⟨xs, x, hq, hx⟩ := hg
    obtain ⟨its, rv, p, hz⟩ := I.tuple hq
    obtain ⟨u, hu, ru⟩ := rv.get hx
    have hel : e < s.heap.objs.size := Heap.lt_size he
    have hil : it < s.heap.objs.size := by obtain ⟨_, q, _⟩ := hit; exact Heap.lt_size q
    have hlt : i < its.toArray.size := by
      have := (List.getElem?_eq_some_iff.mp hu).1
      simpa using this
    have D := Draws.tuple (prog := X.prog) (w := X.w) (A := X.A.in1) (I.ok.hd hc) it a hai its.toArray
    refine wpAny_pyNext_enum_itemD D he ⟨hit, p⟩ hlt hne (by simp [hne, hea]) fun x' h' tk hP ho hst hT hsz hk => ?_
    have hux : x' = u := by
      have e1 : its[i]? = some x' := by simpa using hP
      rw [hu] at e1
      exact (Option.some.inj e1).symm
    subst hux
    refine ⟨_, rfl, wpAny_letOwnedTupleGo_enum (s := { s with heap := h', toks := tk + 1 }) ho fun h'' he' sb => ?_⟩
    have hT2 : h''.get? s.heap.objs.size = some { cls := .type "tuple", data := .seq #[.int i tk, x'] } := (sb.2 _ (Nat.ne_of_gt hel)).trans hT
    have new : ObjOk X.prog X.w (upd H s.heap.objs.size (.tup [.int (i : Nat), x])) h'' s.heap.objs.size (.tup [.int (i : Nat), x]) :=
      ⟨by show 2 ≤ sizeLine; decide, [.int i tk, x'], .cons ⟨_, rfl⟩ (.cons ru .nil), ⟨_, hT2, rfl, _, rfl⟩⟩
    have I1 : Inv X pins σ (upd H s.heap.objs.size (.tup [.int (i : Nat), x])) { s with heap := h'', toks := tk + 1 } :=
      I.turnedNew (ch := [e, it]) (fun b ob hb q => (sb.2 b (fun z => hb (by simp [z]))).trans (hk b ob (fun z => hb (by simp [z])) (fun z => hb (by simp [z])) q)) hf (Nat.le_refl _) new
    refine ⟨.ref s.heap.objs.size, _, I1, rfl, ⟨_, x, rfl, I.hok.fresh (Nat.le_refl _), rfl, fun ys hy => by rw [I.tuple_inj hy hq]; exact hx⟩, ⟨⟨x', ?_⟩, hst.1.at fun o q => (sb.2 it (Ne.symm hne)).trans q, hne, hai, hea⟩, fun b hb => ?_⟩
    · have e1 : ((i + 1 : Nat) : Int) = (i : Int) + 1 := by omega
      rw [e1]; exact he'
    · have hb' : b < s.heap.objs.size := by
        have e' : b = e ∨ b = it := by simpa using hb
        rcases e' with z | z
        · rw [z]; exact hel
        · rw [z]; exact hil
      rw [upd_ne (Nat.ne_of_lt hb')]
      exact (hf b hb).1
  done := by
    intro X hP hw hK hc i pins s σ H E I hf st hg
    subst hP hw hK
    obtain ⟨⟨old, he⟩, hit, hne, hai, hea⟩ := st
    obtain ⟨xs, hq, hx⟩ := hg
    obtain ⟨its, rv, p, hz⟩ := I.tuple hq
    obtain ⟨f0, f1, f2, f3, f4, f5⟩ := hf it (by simp)
    have hl := rv.length
    have D2 : Draws X.prog X.w X.A.in1 it [it, a] i (fun _ _ => False) (fun j h => j = i ∧ h.IsTupleIter it a i ∧ h.IsTuple a its.toArray) :=
      { live := fun _ _ st => let ⟨o, ho, _⟩ := st.2.1; ⟨o, ho⟩
        frame := fun _ _ _ st hk => ⟨st.1, st.2.1.at fun o q => hk it (by simp) o q, st.2.2.at fun o q => hk a (by simp) o q⟩
        item := fun j s Q E hj st hQ => absurd st.1 (Nat.ne_of_lt hj)
        done := fun s Q E st hE => wpAny_nextOf_tuple_end (A := X.A.in1) (I.ok.hd hc) st.2.1 st.2.2 (by simp; omega) hE }
    exact wpAny_pyNext_enum_endD D2 he ⟨rfl, hit, p⟩ fun h' eb => ⟨rfl, I.turned (t' := s.toks) (fun b o hb q => eb b o hb q) f0 f1 f3 f4 f5⟩
  self := fun A i s Q E st h => let ⟨⟨_, he⟩, _⟩ := st; wpAny_pyIter_enum he h
def iEnT (K : PySem.W.Frag) (ta : TA) : TI := fun σ H R => ta σ H fun vs H1 => ∃ a xs, vs = [.ref a] ∧ SqT K H1 a xs ∧ R (IteT K a) H1
theorem pi_en {X : Cx} {e : Expr} {ta : TA} {p pos tpos : Pos} {elts : List Expr} {kk : Nat} (hg : Gl X "enumerate") (hm : X.mg "enumerate" = none) (ha : PA X [e] ta) (hs : starEach [e] X.env = [(false, eval e X.env)] := by rfl) :
    PI X (.Tuple elts kk tpos) (.Call (.Name "enumerate" p) [e] [] pos) (iEnT X.K ta) := by
  refine ⟨fun pins s σ H R I h => ?_⟩
  refine Call_ (ld_blt I hg hm boot_enumerate (PyProof.Rows.callWith_type1 (thn (ha.run pos pins s σ H _ I h) fun us s1 ⟨vs, H1, I1, r1, q1⟩ => ?_) hs rfl))
  obtain ⟨a, xs, ex, hq, q⟩ := q1
  subst ex
  cases r1 with
  | cons r rr =>
    cases rr
    cases r
    obtain ⟨its, rv, p', hz⟩ := I1.tuple hq
    have hal : a < s1.heap.objs.size := by obtain ⟨o, ho, _⟩ := id p'; exact Heap.lt_size ho
    refine call_enum (begins_tuple a its.toArray) p' fun h' he hit hk => wpAny_pyIter_enum he ?_
    have I2 : Inv X pins σ H1 { s1 with heap := h' } := I1.kept (t' := s1.toks) hk
    refine ⟨s1.heap.objs.size + 1, [s1.heap.objs.size + 1, s1.heap.objs.size], _, _, H1, rfl, I2, turn_en a (s1.heap.objs.size + 1) s1.heap.objs.size, ⟨⟨.none, he⟩, ⟨_, hit, rfl, rfl⟩, Nat.succ_ne_self _, Nat.ne_of_lt hal, Nat.ne_of_gt (Nat.lt_succ_of_lt hal)⟩, fun b hb => ?_, q⟩
    have hle : s1.heap.objs.size ≤ b := by
      have e' : b = s1.heap.objs.size + 1 ∨ b = s1.heap.objs.size := by simpa using hb
      rcases e' with z | z
      · rw [z]; exact Nat.le_add_right _ _
      · rw [z]; exact Nat.le_refl _
    exact I1.fpOk hle (I1.hok.fresh hle)
/-! as a meaning -/
def sEnumT (ds : List D) : Src := ⟨fun i _ => some (ds[i]?.map fun d => .tup [.int (i : Nat), d]), fun _ => ds.length⟩
def fEnumA (ds : List D) (st : Store) : Out Src := match ds with
  | [.tup es] => .ok (sEnumT es) st
  | _ => fEnum ds st
def iEnumA (m : MA) : MI := fun env st => (m env st).bind fEnumA
theorem ri_en {K : PySem.W.Frag} {ρ : List Addr} {H : Hp} {ds : List D} {vs : List V} {a : Addr} (h1 : SqT K H a vs) (r : Rels K ρ H ds vs) : RI K ρ H (sEnumT ds) (IteT K a) := by
  intro i ρ2 st H2 e2 k2 s2
  have h2 := k2.sqT h1
  have r2 := r.mono e2 k2
  refine ⟨fun d h => ?_, fun h => ?_⟩
  · have h := Option.some.inj h
    simp only [Option.map_eq_some_iff] at h
    obtain ⟨d0, h3, rfl⟩ := h
    obtain ⟨v, hv, rv⟩ := r2.get h3
    refine ⟨⟨vs, v, h2, hv⟩, fun x H' hy => ?_⟩
    obtain ⟨T, y, rfl, hT, rfl, hx⟩ := hy
    have e := hx vs h2
    rw [hv] at e
    cases e
    have kp : Keep H2 (upd H2 T (.tup [.int (i : Nat), v])) := Keep.new hT
    exact ⟨kp, s2.frame hT, .tup _ [.int (i : Nat), v] T (SqT.of upd_same) (.cons (.int _) (.cons (rv.mono (List.prefix_refl _) kp) .nil))⟩
  · have h := Option.some.inj h
    refine ⟨vs, h2, ?_⟩
    rw [← r2.length]
    cases e : ds[i]? with
    | none => exact List.getElem?_eq_none_iff.mp e
    | some d => rw [e] at h; cases h
section
variable {X : Cx} {G : Amb} {W : WX} {e a b c o tg : Expr} {es : List Expr} {pos p2 pos' p q : Pos} {m ma mb mc : ME} {own : List Nat} {k j : Nat} {x : Str}
theorem is_enumA {mr : MA} {elts : List Expr} {kk : Nat} {tpos : Pos} (hc : X.calm = true) (hg : Gl X "enumerate") (hm : X.mg "enumerate" = none) (h : IsA X G W [a] mr) (hs : starEach [a] X.env = [(false, eval a X.env)] := by rfl) :
    IsI X G W (.Tuple elts kk tpos) (.Call (.Name "enumerate" p) [a] [] pos) (iEnumA mr) := by
  intro ρ env st σ H R r hp
  unfold iEnumA at hp
  have old : ∀ hp' : Post X.K X.mg (RI X.K) (fun c d h => W c d σ h) ρ H (iEnumM mr env st) R, WPI X (.Tuple elts kk tpos) (.Call (.Name "enumerate" p) [a] [] pos) σ H R := fun hp' => is_enum hg hm h hs ρ env st σ H R r hp'
  cases e0 : mr env st with
  | no => rw [e0] at hp; exact hp.elim
  | ex c fs st1 => exact old (by unfold iEnumM; rw [e0]; rw [e0] at hp; exact hp)
  | ok ds st1 =>
    rw [e0] at hp
    simp only [Out.bind_ok] at hp
    unfold fEnumA at hp
    split at hp
    · rename_i es
      refine ⟨_, pi_en hg hm (wpa X [a]) hs, h ρ env st σ H _ r ?_⟩
      rw [e0]
      intro ρ1 xs H1 e1 k1 s1 r1
      obtain ⟨x, rfl, q⟩ := rels1 r1
      cases q with
      | tup _ vs t h1 q1 => exact ⟨t, vs, rfl, h1, hp ρ1 _ H1 e1 k1 s1 (ri_en h1 q1)⟩
    · exact old (by unfold iEnumM; rw [e0]; exact hp)
end
end Mi
/-! ## Mz -/
set_option Elab.async false
set_option linter.all false
set_option maxRecDepth 100000
set_option maxHeartbeats 2000000
namespace Mi
open PySem PySem.Spec PyProof.Rows L2

/-! ### list(zip(a, b)) -/
/-- a zip at N + 4 (its cells at N .. N + 3) that feeds a list at N + 5: before the i-th turn -/
structure ZSt (h : Heap) (N l1 l2 : Addr) (i : Nat) : Prop where
  ti : IsPair h (N + 2) (.ref N) (.ref (N + 1))
  a1 : h.IsListIter N l1 i
  a2 : h.IsListIter (N + 1) l2 i
  out : (IsZip h (N + 4) (N + 2) (N + 3) .none ∧ ∃ x y, IsPair h (N + 3) x y) ∨ ∃ (T : Addr) (f : Bool) (oT : Obj), IsZipHeld h (N + 4) (N + 2) (N + 3) T f ∧ h.get? T = some oT ∧ N + 5 < T
theorem ZSt.keep {h h' : Heap} {N l1 l2 : Addr} {i : Nat} (z : ZSt h N l1 l2 i) (k : ∀ b o, b ≠ N + 5 → h.get? b = some o → h'.get? b = some o) : ZSt h' N l1 l2 i := by
  have n0 : N ≠ N + 5 := Nat.ne_of_lt (Nat.lt_add_of_pos_right (by decide))
  have n1 : N + 1 ≠ N + 5 := by intro e; exact absurd (Nat.add_left_cancel e) (by decide)
  have n2 : N + 2 ≠ N + 5 := by intro e; exact absurd (Nat.add_left_cancel e) (by decide)
  have n3 : N + 3 ≠ N + 5 := by intro e; exact absurd (Nat.add_left_cancel e) (by decide)
  have n4 : N + 4 ≠ N + 5 := by intro e; exact absurd (Nat.add_left_cancel e) (by decide)
  refine ⟨k _ _ n2 z.ti, z.a1.at fun o q => k _ o n0 q, z.a2.at fun o q => k _ o n1 q, ?_⟩
  rcases z.out with ⟨hz, x, y, hT⟩ | ⟨T, f, oT, hz, hT, hl⟩
  · exact .inl ⟨k _ _ n4 hz, x, y, k _ _ n3 hT⟩
  · exact .inr ⟨T, f, oT, k _ _ n4 hz, k _ _ (Nat.ne_of_gt hl) hT, hl⟩
structure ZG (ps : List (Value × Value)) (lo : Addr) (h : Heap) (as : List Addr) : Prop where
  rise : as.Pairwise (· < ·)
  above : ∀ a ∈ as, lo < a
  pairs : ∀ (j : Nat) (a : Addr), as[j]? = some a → ∃ p : Value × Value, ps[j]? = some p ∧ IsPair h a p.1 p.2
theorem ZG.low {ps : List (Value × Value)} {lo : Addr} {h : Heap} {as : List Addr} (g : ZG ps lo h as) {a : Addr} (ha : a ∈ as) : a < h.objs.size := by
  obtain ⟨j, hj⟩ := List.mem_iff_getElem?.mp ha
  obtain ⟨_, _, e⟩ := g.pairs j a hj
  exact Heap.lt_size e
theorem zip_len0 : typeLookup (.type "zip") "__len__" = pure none := by rw [typeLookup_type, builtinLookup_eq_fast]; kernel_rfl
theorem zip_hint0 : typeLookup (.type "zip") "__length_hint__" = pure none := by rw [typeLookup_type, builtinLookup_eq_fast]; kernel_rfl
section
variable {prog : Program} {w : World} {A : Around} {E : Value → Shared → Prop} {s : Shared} {N l1 l2 : Addr} {xs ys : List Value}
theorem zst_next {i : Nat} {x y : Value} {Q : Option Value → Shared → Prop} (D : ZipApart (N + 4) (N + 2) (N + 3) N (N + 1) l1 l2) (z : ZSt s.heap N l1 l2 i) (hS : N + 5 < s.heap.objs.size) (h1 : s.heap.IsList l1 xs.toArray) (h2 : s.heap.IsList l2 ys.toArray)
    (hx : xs[i]? = some x) (hy : ys[i]? = some y)
    (k : ∀ h', ZSt h' N l1 l2 (i + 1) → IsPair h' s.heap.objs.size x y → h'.objs.size = s.heap.objs.size + 1 → (∀ c o, c < N ∨ N + 5 ≤ c → s.heap.get? c = some o → h'.get? c = some o) → Q (some (.ref s.heap.objs.size)) { s with heap := h' }) :
    wpAny (model prog w) A (pyNext (.ref (N + 4))) Q E s := by
  have far : ∀ {c j : Nat}, j < 5 → c < N ∨ N + 5 ≤ c → c ≠ N + j := fun {c j} hj hc e => by
    rcases hc with hc | hc
    · exact absurd hc (by rw [e]; exact Nat.not_lt.mpr (Nat.le_add_right _ _))
    · rw [e] at hc; exact absurd (Nat.le_of_add_le_add_left hc) (Nat.not_le.mpr hj)
  rcases z.out with ⟨hz, a, b, hT⟩ | ⟨T, f, oT, hz, hT, hl⟩
  · refine wpAny_pyNext_zip_item D hz z.ti hT z.a1 z.a2 h1 h2 (by simpa using hx) (by simpa using hy) fun h' g1 g2 g3 g4 g5 g6 g7 => ?_
    exact k h' ⟨g7 _ _ D.TIz D.TITO D.TIi1 D.TIi2 z.ti, g3, g4, .inr ⟨_, false, _, g1, g5, hS⟩⟩ g5 g6 fun c o hc q => g7 c o (far (j := 4) (by decide) hc) (far (j := 3) (by decide) hc) (far (j := 0) (by decide) hc) (far (j := 1) (by decide) hc) q
  · refine wpAny_pyNext_zip_item_held D hz hT z.ti z.a1 z.a2 h1 h2 (by simpa using hx) (by simpa using hy) fun h' g1 g3 g4 g5 g6 g7 => ?_
    have fT : N + 5 ≤ T := Nat.le_of_lt hl
    exact k h' ⟨g7 _ _ D.TIz D.TIi1 D.TIi2 z.ti, g3, g4, .inr ⟨T, true, oT, g1, g7 _ _ (far (j := 4) (by decide) (.inr fT)) (far (j := 0) (by decide) (.inr fT)) (far (j := 1) (by decide) (.inr fT)) hT, hl⟩⟩ g5 g6
      fun c o hc q => g7 c o (far (j := 4) (by decide) hc) (far (j := 0) (by decide) hc) (far (j := 1) (by decide) hc) q
theorem zst_done {i : Nat} {Q : Option Value → Shared → Prop} (hh : A.handled = none) (D : ZipApart (N + 4) (N + 2) (N + 3) N (N + 1) l1 l2) (z : ZSt s.heap N l1 l2 i) (h1 : s.heap.IsList l1 xs.toArray) (h2 : s.heap.IsList l2 ys.toArray) (hx : xs.length ≤ i)
    (k : ∀ h', (∀ c o, c < N ∨ N + 5 ≤ c → s.heap.get? c = some o → h'.get? c = some o) → Q none { s with heap := h' }) : wpAny (model prog w) A (pyNext (.ref (N + 4))) Q E s := by
  have far : ∀ {c j : Nat}, j < 5 → c < N ∨ N + 5 ≤ c → c ≠ N + j := fun {c j} hj hc e => by
    rcases hc with hc | hc
    · exact absurd hc (by rw [e]; exact Nat.not_lt.mpr (Nat.le_add_right _ _))
    · rw [e] at hc; exact absurd (Nat.le_of_add_le_add_left hc) (Nat.not_le.mpr hj)
  have he : xs.toArray[i]? = none ∨ ys.toArray[i]? = none := .inl (by simp; exact hx)
  rcases z.out with ⟨hz, a, b, hT⟩ | ⟨T, f, oT, hz, hT, hl⟩
  · exact wpAny_pyNext_zip_end hh D hz z.ti hT z.a1 z.a2 h1 h2 he fun h' g7 => k h' fun c o hc q => g7 c o (far (j := 4) (by decide) hc) (far (j := 3) (by decide) hc) (far (j := 0) (by decide) hc) (far (j := 1) (by decide) hc) q
  · exact wpAny_pyNext_zip_end_held hh D hz hT z.ti z.a1 z.a2 h1 h2 he fun h' g7 => k h' fun c o hc q => g7 c o (far (j := 4) (by decide) hc) (far (j := 0) (by decide) hc) (far (j := 1) (by decide) hc) q
theorem zl_loop {R : Result → Shared → Prop} {h₁ : Heap} (hh : A.handled = none) (D : ZipApart (N + 4) (N + 2) (N + 3) N (N + 1) l1 l2) (b1 : l1 < N) (b2 : l2 < N) (hl : xs.length = ys.length) (hn : xs.length ≤ sizeLine) (hl1 : h₁.IsList l1 xs.toArray) (hl2 : h₁.IsList l2 ys.toArray) (res : Value)
    (hR : ∀ h' tk acc c as, (∀ b o, b < N → h₁.get? b = some o → h'.get? b = some o) → h'.get? (N + 5) = some { cls := .type "list", dict := none, data := .seq acc c, slots := #[] } → as.length = xs.length → ZG (xs.zip ys) (N + 5) h' as →
      acc.toList = as.map Value.ref → R (.ok (.ret res)) { s with heap := h', toks := tk }) :
    ∀ (k i : Nat) (h : Heap) (tk c : Nat) (acc : Array Value) (as : List Addr), xs.length - i = k → i ≤ xs.length → ZSt h N l1 l2 i → (∀ b o, b < N → h₁.get? b = some o → h.get? b = some o) →
      h.get? (N + 5) = some { cls := .type "list", dict := none, data := .seq acc c, slots := #[] } → acc.toList = as.map Value.ref → as.length = i → ZG (xs.zip ys) (N + 5) h as →
      codeAny (model prog w) A (.builtin "list.extend.loop" ⟨[.ref (N + 5), .ref (N + 4), res], []⟩) R { s with heap := h, toks := tk } := by
  intro k
  induction k with
  | zero =>
    intro i h tk c acc as hk hi z hkeep hS hacc hal hG
    refine codeAny_builtin F.entry_extend_loop ?_
    rw [Around.under_plainId F.plain_extend_loop _]
    show wpAny _ A.in1 (pyNext (.ref (N + 4)) >>= _) _ _ _
    refine wpAny_bind (zst_done (s := { s with heap := h, toks := tk }) (A := A.in1) hh D z (hl1.at fun o q => hkeep _ o b1 q) (hl2.at fun o q => hkeep _ o b2 q) (by omega) fun h' hk' => ?_)
    refine wpAny_pure (hR h' tk acc c as (fun b o hb q => hk' b o (.inl hb) (hkeep b o hb q)) (hk' _ _ (.inr (Nat.le_refl _)) hS) (by omega) ⟨hG.rise, hG.above, fun j a hj => ?_⟩ hacc)
    obtain ⟨p, e1, e2⟩ := hG.pairs j a hj
    exact ⟨p, e1, hk' a _ (.inr (Nat.le_of_lt (hG.above a (List.mem_of_getElem? hj)))) e2⟩
  | succ k ih =>
    intro i h tk c acc as hk hi z hkeep hS hacc hal hG
    have hlt : i < xs.length := by omega
    have hlt2 : i < ys.length := by omega
    have hsz : acc.size = i := by rw [← Array.length_toList, hacc, List.length_map, hal]
    have hIs : N + 5 < h.objs.size := Heap.lt_size hS
    refine codeAny_builtin F.entry_extend_loop ?_
    rw [Around.under_plainId F.plain_extend_loop _]
    show wpAny _ A.in1 (pyNext (.ref (N + 4)) >>= _) _ _ _
    refine wpAny_bind (zst_next (s := { s with heap := h, toks := tk }) (x := xs[i]) (y := ys[i]) D z hIs (hl1.at fun o q => hkeep _ o b1 q) (hl2.at fun o q => hkeep _ o b2 q) (List.getElem?_eq_getElem hlt) (List.getElem?_eq_getElem hlt2) fun h' z' ht hz hkp => ?_)
    dsimp only at ht hz hkp ⊢
    have hS' := hkp _ _ (.inr (Nat.le_refl _)) hS
    have up : ∀ b o, b ≠ N + 5 → h'.get? b = some o → (h'.update (N + 5) (Obj.mapSeq (·.push (Value.ref h.objs.size)))).get? b = some o := fun b o hb e => (Heap.get?_update_other _ _ (Ne.symm hb)).trans e
    show wpAny _ A.in1 (updateSeq (N + 5) (·.push (Value.ref h.objs.size)) >>= _) _ _ _
    refine wpAny_bind ?_
    refine wpAny_updateSeq hS' rfl (wpAny_pure ⟨plainId_quiet F.plain_extend_loop _, ih (i + 1) _ tk _ (acc.push (Value.ref h.objs.size)) (as ++ [h.objs.size]) (by omega) hlt (z'.keep up)
      (fun b o hb e => up b o (Nat.ne_of_lt (Nat.lt_add_right 5 hb)) (hkp b o (.inl hb) (hkeep b o hb e))) (Heap.get?_update_self _ hS' rfl) (by rw [Array.toList_push, hacc, List.map_append]; rfl) (by rw [List.length_append, hal]; rfl) ⟨?_, ?_, ?_⟩⟩) (by rw [hsz]; omega) (by show (acc.push (Value.ref h.objs.size)).size ≤ sizeLine + 1; rw [Array.size_push, hsz]; omega)
    · refine List.pairwise_append.mpr ⟨hG.rise, List.pairwise_singleton _ _, fun a ha b hb => ?_⟩
      rw [List.mem_singleton.mp hb]
      exact hG.low ha
    · intro a ha
      rcases List.mem_append.mp ha with ha | ha
      · exact hG.above a ha
      · rw [List.mem_singleton.mp ha]; exact hIs
    · intro j b hj
      rcases Nat.lt_trichotomy j as.length with q | q | q
      · rw [List.getElem?_append_left q] at hj
        obtain ⟨p, e1, e2⟩ := hG.pairs j b hj
        have hb := hG.above b (List.mem_of_getElem? hj)
        exact ⟨p, e1, up b _ (Nat.ne_of_gt hb) (hkp b _ (.inr (Nat.le_of_lt hb)) e2)⟩
      · subst q
        have hb : h.objs.size = b := by simpa using hj
        subst hb
        refine ⟨(xs[i], ys[i]), ?_, up _ _ (Nat.ne_of_gt hIs) ht⟩
        rw [hal, List.getElem?_eq_getElem (by rw [List.length_zip]; omega), List.getElem_zip]
      · have hnone : (as ++ [h.objs.size])[j]? = none := List.getElem?_eq_none (by rw [List.length_append, List.length_singleton]; omega)
        rw [hnone] at hj; cases hj
theorem zip_hint {r : Addr} (hT : s.TypeIs (.ref r) "zip") {Q : Bool → Shared → Prop} (h : ∀ b, Q b s) : wpAny (model prog w) A (Builtin.List.listLengthHint (.ref r)) Q E s := by
  unfold Builtin.List.listLengthHint
  refine wpAny_bind (wpAny_specialOf hT zip_len0 ?_)
  show wpAny _ A (specialOf (Value.ref r) (Str.ofString "__length_hint__") >>= _) _ _ _
  refine wpAny_bind (wpAny_specialOf hT zip_hint0 ?_)
  exact wpAny_pure (h _)
end
end Mi
/-! ## Mz2 -/
set_option Elab.async false
set_option linter.all false
set_option maxRecDepth 100000
set_option maxHeartbeats 2000000
namespace Mi
open PySem PySem.Spec PyProof.Rows L2
section
variable {prog : Program} {w : World} {A : Around} {E : Value → Shared → Prop} {s : Shared} {N l1 l2 : Addr} {xs ys : List Value}
/-- what stands behind -/
def ZEnd (h₁ : Heap) (N : Addr) (xs ys : List Value) (h' : Heap) (acc : Array Value) (c : Nat) (as : List Addr) : Prop :=
  (∀ b o, b < N → h₁.get? b = some o → h'.get? b = some o) ∧ h'.get? (N + 5) = some { cls := .type "list", dict := none, data := .seq acc c, slots := #[] } ∧ as.length = xs.length ∧ ZG (xs.zip ys) (N + 5) h' as ∧ acc.toList = as.map Value.ref
theorem zl_extend {R : Result → Shared → Prop} {h₁ : Heap} (hh : A.handled = none) (D : ZipApart (N + 4) (N + 2) (N + 3) N (N + 1) l1 l2) (b1 : l1 < N) (b2 : l2 < N) (hl : xs.length = ys.length) (hn : xs.length ≤ sizeLine) (hl1 : h₁.IsList l1 xs.toArray) (hl2 : h₁.IsList l2 ys.toArray) (res : Value)
    (z : ZSt s.heap N l1 l2 0) (hz : IsZip s.heap (N + 4) (N + 2) (N + 3) .none) (hkeep : ∀ b o, b < N → h₁.get? b = some o → s.heap.get? b = some o) (c₀ : Nat) (hS : s.heap.get? (N + 5) = some { cls := .type "list", data := .seq #[] c₀ })
    (hR : ∀ h' tk acc c as, ZEnd h₁ N xs ys h' acc c as → R (.ok (.ret res)) { s with heap := h', toks := tk }) :
    wpAny (model prog w) A.in1 (Builtin.List.listExtendWith (.ref (N + 5)) (.ref (N + 4)) res)
      (fun fin s' => match fin with | .done f => R (.ok f) s' | .again c' => c'.quiet = true ∧ codeAny (model prog w) A c' R s') (fun e s' => R (.error e) s') s := by
  have key : ∀ (h : Heap) (c₁ tk : Nat), (∀ b o, b ≠ N + 5 → s.heap.get? b = some o → h.get? b = some o) → h.get? (N + 5) = some { cls := .type "list", data := .seq #[] c₁ } →
      codeAny (model prog w) A (.builtin "list.extend.loop" ⟨[.ref (N + 5), .ref (N + 4), res], []⟩) R { s with heap := h, toks := tk } := fun h c₁ tk hk hS₁ =>
    zl_loop hh D b1 b2 hl hn hl1 hl2 res (fun h' tk' acc c as g1 g2 g3 g4 g5 => hR h' tk' acc c as ⟨g1, g2, g3, g4, g5⟩) xs.length 0 h tk c₁ #[] [] (Nat.sub_zero _) (Nat.zero_le _) (z.keep hk)
      (fun b o hb q => hk b o (Nat.ne_of_lt (Nat.lt_add_right 5 hb)) (hkeep b o hb q)) hS₁ rfl rfl ⟨List.Pairwise.nil, (fun _ ha => nomatch ha), (fun j a hj => by simp at hj)⟩
  have hT : ∀ h : Heap, IsZip h (N + 4) (N + 2) (N + 3) .none → (Shared.TypeIs { s with heap := h } (.ref (N + 4)) "zip") := fun h q => ⟨_, q, rfl⟩
  unfold Builtin.List.listExtendWith
  refine wpAny_bind (wpAny_typeOf (T := "zip") (hT _ hz) ?_)
  have n54 : ¬ (N + 5 = N + 4) := fun e => absurd (Nat.add_left_cancel e) (by decide)
  have q1 : Builtin.List.listSameRef (.ref (N + 5)) (.ref (N + 4)) = false := by simp [Builtin.List.listSameRef]
  have q2 : (Value.type "zip" == Value.type "list") = false := by decide
  have q3 : (Value.type "zip" == Value.type "tuple") = false := by decide
  simp only [q1, q2, q3, Bool.or_false, Bool.false_eq_true, if_false]
  refine wpAny_bind (wpAny_pyIter_zip hz ?_)
  refine wpAny_bind (wpAny_holding (zip_hint (hT _ hz) fun b => ?_))
  refine wpAny_ite_split (fun _ => ?_) (fun _ => wpAny_pure ⟨plainId_quiet F.plain_extend_loop _, key _ c₀ _ (fun b o _ e => e) hS⟩)
  refine wpAny_bind (wpAny_rule ?_)
  refine wpAny_bind ?_
  show wpAny _ _ (updateSeq (N + 5) (·.push .none) >>= fun _ => updateSeq (N + 5) (·.pop)) _ _ _
  refine wpAny_bind (wpAny_updateSeq hS rfl ?_)
  have hS₂ := Heap.get?_update_self (Obj.mapSeq (·.push Value.none)) hS rfl
  refine wpAny_updateSeq (hz := by seq_fits) hS₂ rfl ?_
  have hS₃ := Heap.get?_update_self (Obj.mapSeq (·.pop)) hS₂ rfl
  refine wpAny_pure ⟨plainId_quiet F.plain_extend_loop _, key _ _ _ (fun b o hb e => ?_) hS₃⟩
  exact (Heap.get?_update_other _ _ (Ne.symm hb)).trans ((Heap.get?_update_other _ _ (Ne.symm hb)).trans e)
theorem zl_init {R : Result → Shared → Prop} {h₁ : Heap} (hh : A.handled = none) (D : ZipApart (N + 4) (N + 2) (N + 3) N (N + 1) l1 l2) (b1 : l1 < N) (b2 : l2 < N) (hl : xs.length = ys.length) (hn : xs.length ≤ sizeLine) (hl1 : h₁.IsList l1 xs.toArray) (hl2 : h₁.IsList l2 ys.toArray)
    (z : ZSt s.heap N l1 l2 0) (hz : IsZip s.heap (N + 4) (N + 2) (N + 3) .none) (hkeep : ∀ b o, b < N → h₁.get? b = some o → s.heap.get? b = some o) (hS : s.heap.get? (N + 5) = some { cls := .type "list", data := .seq #[] })
    (hR : ∀ h' tk acc c as, ZEnd h₁ N xs ys h' acc c as → R (.ok (.ret .none)) { s with heap := h', toks := tk }) :
    wpAny (model prog w) A.in1 (Builtin.«list.__init__» ⟨[.ref (N + 5), .ref (N + 4)], []⟩)
      (fun fin s' => match fin with | .done f => R (.ok f) s' | .again c' => c'.quiet = true ∧ codeAny (model prog w) A c' R s') (fun e s' => R (.error e) s') s := by
  show wpAny _ _ (do let old ← Builtin.List.listItems (.ref (N + 5)); Builtin.List.listUpdate (.ref (N + 5)) (fun _ => #[]); letGo old.toList.reverse; Builtin.List.listExtendWith (.ref (N + 5)) (.ref (N + 4)) .none) _ _ s
  refine wpAny_bind ?_
  unfold Builtin.List.listItems
  refine wpAny_bind (wpAny_seqItems hS rfl (wpAny_pure ?_))
  show wpAny _ _ (updateSeq (N + 5) (fun _ => #[]) >>= fun _ => letGo (#[] : Array Value).toList.reverse >>= fun _ => Builtin.List.listExtendWith (.ref (N + 5)) (.ref (N + 4)) .none) _ _ s
  refine wpAny_bind (wpAny_updateSeq hS rfl ?_)
  have hS₂ := Heap.get?_update_self (Obj.mapSeq (fun _ => (#[] : Array Value))) hS rfl
  have oth : ∀ b o, b ≠ N + 5 → s.heap.get? b = some o → (s.heap.update (N + 5) (Obj.mapSeq (fun _ => (#[] : Array Value)))).get? b = some o :=
    fun b o hb e => (Heap.get?_update_other _ _ (Ne.symm hb)).trans e
  refine wpAny_bind (wpAny_letGo ?_)
  have n54 : N + 4 ≠ N + 5 := fun e => absurd (Nat.add_left_cancel e) (by decide)
  exact zl_extend hh D b1 b2 hl hn hl1 hl2 .none (z.keep oth) (oth _ _ n54 hz) (fun b o hb q => oth b o (Nat.ne_of_lt (Nat.lt_add_right 5 hb)) (hkeep b o hb q)) _ hS₂ hR
theorem zl_call {Q : Value → Shared → Prop} {h₁ : Heap} (hN : s.heap.objs.size = N + 5) (hh : A.handled = none) (D : ZipApart (N + 4) (N + 2) (N + 3) N (N + 1) l1 l2) (b1 : l1 < N) (b2 : l2 < N) (hl : xs.length = ys.length) (hn : xs.length ≤ sizeLine) (hl1 : h₁.IsList l1 xs.toArray) (hl2 : h₁.IsList l2 ys.toArray)
    (z : ZSt s.heap N l1 l2 0) (hz : IsZip s.heap (N + 4) (N + 2) (N + 3) .none) (hkeep : ∀ b o, b < N → h₁.get? b = some o → s.heap.get? b = some o)
    (hQ : ∀ h' tk acc c as, ZEnd h₁ N xs ys h' acc c as → Q (.ref (N + 5)) { s with heap := h', toks := tk }) :
    wpAny (model prog w) A (call (.type "list") [.ref (N + 4)]) Q E s := by
  refine callType_codes (Q₁ := fun obj s₁ => obj = .ref (N + 5) ∧ s₁ = { s with heap := s.heap.push { cls := .type "list", data := .seq #[] } }) F.called_list (F.typeCall_list_1 _) F.entry_list_init
    (code_list_new _ ⟨by rw [← hN], rfl⟩) fun obj s₁ h₁' => ?_
  obtain ⟨rfl, rfl⟩ := h₁'
  have hS : (s.heap.push { cls := .type "list", data := .seq #[] }).get? (N + 5) = some { cls := .type "list", data := .seq #[] } := by rw [← hN]; exact Heap.get?_push_size _ rfl
  have up : ∀ b o, s.heap.get? b = some o → (s.heap.push { cls := .type "list", data := .seq #[] }).get? b = some o := fun b o q => Heap.get?_push_of_some _ q
  refine ⟨⟨_, hS, rfl⟩, F.args_list_init_2 _ _, zl_init (A := A.in1) hh D b1 b2 hl hn hl1 hl2 (z.keep fun b o _ q => up b o q) (up _ _ hz) (fun b o hb q => up b o (hkeep b o hb q)) hS fun h' tk acc c as q => ?_⟩
  exact ⟨rfl, hQ h' tk acc c as q⟩
end
/-! the new places told -/
def putZ : Hp → List Addr → List (V × V) → Hp
  | H, a :: as, p :: ps => putZ (upd H a (.tup [p.1, p.2])) as ps
  | H, _, _ => H
theorem putZ_off {b : Addr} : ∀ (as : List Addr) (ps : List (V × V)) (H : Hp), b ∉ as → putZ H as ps b = H b
  | [], _, _, _ => rfl
  | _ :: _, [], _, _ => rfl
  | a :: as, p :: ps, H, h => by
    show putZ (upd H a (.tup [p.1, p.2])) as ps b = H b
    rw [putZ_off as ps _ fun q => h (List.mem_cons_of_mem _ q), upd_ne fun q => h (by rw [q]; exact List.mem_cons_self)]
theorem putZ_at : ∀ (as : List Addr) (ps : List (V × V)) (H : Hp), as.length = ps.length → as.Nodup → ∀ (j : Nat) (a : Addr) (p : V × V), as[j]? = some a → ps[j]? = some p → putZ H as ps a = some (.tup [p.1, p.2])
  | [], _, _, _, _, j, a, p, h, _ => by simp at h
  | _ :: _, [], _, h, _, _, _, _, _, _ => by cases h
  | b :: as, q :: ps, H, h, hn, 0, a, p, ha, hp => by
    cases ha; cases hp
    show putZ (upd H b (.tup [q.1, q.2])) as ps b = _
    rw [putZ_off as ps _ (List.nodup_cons.mp hn).1, upd_same]
  | b :: as, q :: ps, H, h, hn, j + 1, a, p, ha, hp => putZ_at as ps _ (Nat.succ.inj h) (List.nodup_cons.mp hn).2 j a p ha hp
theorem vals_ref : ∀ as : List Addr, Vals (as.map V.ref) (as.map Value.ref)
  | [] => .nil
  | _ :: as => .cons rfl (vals_ref as)
section
variable {X : Cx} {pins : List (Addr × Obj)} {σ : L2.St} {H : Hp} {s : Shared}
theorem laid_zip {h' : Heap} {tk c : Nat} {xs ys : List V} {us vs : List Value} {acc : Array Value} {as : List Addr} (I : Inv X pins σ H s) (hz : xs.length ≤ sizeLine) (rx : Vals xs us) (ry : Vals ys vs) (hxy : xs.length = ys.length) {N : Addr} (hN : N = s.heap.objs.size) (g : ZEnd s.heap N us vs h' acc c as) :
    ∃ H' : Hp, (∀ b o, H b = some o → H' b = some o) ∧ H (N + 5) = none ∧ as.length = xs.length ∧ H' (N + 5) = some (.lst (as.map V.ref)) ∧ (∀ (j : Nat) (a : Addr) (p : V × V), as[j]? = some a → (xs.zip ys)[j]? = some p → H' a = some (.tup [p.1, p.2])) ∧
      Inv X pins σ H' { s with heap := h', toks := tk } := by
  subst hN
  obtain ⟨hk, hS, hl, hG, hacc⟩ := g
  generalize hNs : s.heap.objs.size = N at *
  have lx := rx.length
  have ly := ry.length
  have hSn : N + 5 ∉ as := fun q => Nat.lt_irrefl _ (hG.above _ q)
  have nd : as.Nodup := List.Pairwise.imp (fun {a b} (h : a < b) => Nat.ne_of_lt h) hG.rise
  have le5 : N ≤ N + 5 := Nat.le_add_right _ _
  have new : ∀ t ∈ as, H t = none := fun t ht => I.hok.fresh (by rw [hNs]; exact Nat.le_trans le5 (Nat.le_of_lt (hG.above t ht)))
  have newS : H (N + 5) = none := I.hok.fresh (by rw [hNs]; exact le5)
  have lp : as.length = (xs.zip ys).length := by rw [List.length_zip]; omega
  have atP := putZ_at as (xs.zip ys) (upd H (N + 5) (.lst (as.map V.ref))) lp nd
  have off : ∀ b, b ∉ as → b ≠ N + 5 → putZ (upd H (N + 5) (.lst (as.map V.ref))) as (xs.zip ys) b = H b := fun b h1 h2 => by rw [putZ_off as _ _ h1, upd_ne h2]
  have low : ∀ b o, s.heap.get? b = some o → b < N := fun b o e => by rw [← hNs]; exact Heap.lt_size e
  have kp : ∀ b u, H b = some u → putZ (upd H (N + 5) (.lst (as.map V.ref))) as (xs.zip ys) b = some u := fun b u e => by
    rw [off b (fun z => by rw [new b z] at e; cases e) (fun z => by rw [z, newS] at e; cases e)]
    exact e
  have eS : putZ (upd H (N + 5) (.lst (as.map V.ref))) as (xs.zip ys) (N + 5) = some (.lst (as.map V.ref)) := by rw [putZ_off as _ _ hSn, upd_same]
  refine ⟨putZ (upd H (N + 5) (.lst (as.map V.ref))) as (xs.zip ys), kp, newS, by omega, eS, atP, ?_⟩
  have hk2 : ∀ b o, s.heap.get? b = some o → h'.get? b = some o := fun b o q => hk b o (low b o q) q
  refine I.call' (ch := []) rfl ⟨fun b o q _ _ _ => hk2 b o q, fun b o q _ _ _ => ⟨o.slots, hk2 b o q⟩, fun b o q n _ => ?_, fun b o q _ => ⟨o, hk2 b o q⟩, fun b xs q => kp b _ q, fun b o u q => kp b _ q, fun b ps q => ⟨#[], by rw [kp b _ q]; simp⟩⟩ (fun b u q => ?_) I.bare fun b z => by simp at z
  · have hb := low b o q
    rw [off b (fun z => absurd (Nat.lt_trans hb (Nat.lt_of_le_of_lt le5 (hG.above b z))) (Nat.lt_irrefl _)) (Nat.ne_of_lt (Nat.lt_add_right 5 hb))]
    exact n
  · by_cases hb : b ∈ as
    · obtain ⟨j, hj⟩ := List.mem_iff_getElem?.mp hb
      have hjl : j < xs.length := by have := (List.getElem?_eq_some_iff.mp hj).1; omega
      have hjl2 : j < ys.length := by omega
      have ep : (xs.zip ys)[j]? = some (xs[j], ys[j]) := by
        rw [List.getElem?_eq_getElem (by rw [List.length_zip]; omega), List.getElem_zip]
      have e3 := atP j b _ hj ep
      rw [e3] at q
      cases q
      obtain ⟨p, f1, f2⟩ := hG.pairs j b hj
      obtain ⟨u1, g1, g2⟩ := rx.get (List.getElem?_eq_getElem hjl)
      obtain ⟨u2, g3, g4⟩ := ry.get (List.getElem?_eq_getElem hjl2)
      have epv : p = (u1, u2) := by
        have hju : j < us.length := (List.getElem?_eq_some_iff.mp g1).1
        have hjv : j < vs.length := (List.getElem?_eq_some_iff.mp g3).1
        rw [List.getElem?_eq_getElem (by rw [List.length_zip]; omega), List.getElem_zip] at f1
        have w1 := (List.getElem?_eq_some_iff.mp g1).2
        have w2 := (List.getElem?_eq_some_iff.mp g3).2
        rw [w1, w2] at f1
        exact (Option.some.inj f1).symm
      subst epv
      exact ⟨by show 2 ≤ sizeLine; decide, [u1, u2], .cons g2 (.cons g4 .nil), ⟨_, f2, rfl, _, rfl⟩⟩
    · by_cases hb2 : b = N + 5
      · rw [hb2] at q ⊢
        rw [eS] at q
        cases q
        refine ⟨by rw [List.length_map]; omega, acc.toList, c, by rw [hacc]; exact vals_ref as, ?_⟩
        rw [Array.toArray_toList]
        exact hS
      · rw [off b hb hb2] at q
        exact (I.hok b u q).stay (fun d v _ y => hk2 d v y) (fun d y => kp d _ y) fun d xs y => kp d _ y
end
end Mi
/-! ## Mi9 -/
set_option Elab.async false
set_option linter.all false
set_option maxRecDepth 100000
set_option maxHeartbeats 2000000
namespace Mi
open PySem PySem.Spec PyProof.Rows L2
/-! ### list(zip(a, b)), as a meaning -/
/-- a new list in a heap that has grown -/
theorem RelS.grow {K : PySem.W.Frag} {ρ : List Addr} {st : Store} {H H' : Hp} {p : Addr} {ds : List D} {vs : List V} (r : RelS K ρ st H) (k : ∀ b o, H b = some o → H' b = some o) (hp : H p = .none) (h : H' p = some (.lst vs)) (q : Rels K (ρ ++ [p]) H' ds vs) :
    RelS K (ρ ++ [p]) (st ++ [.lst ds]) H' := by
  have pre : ρ <+: ρ ++ [p] := List.prefix_append _ _
  refine ⟨by simp [r.len], ?_, fun l ob h0 => ?_⟩
  · rw [List.nodup_append]
    refine ⟨r.nd, by simp, fun a ha b hb e => ?_⟩
    have hb' : b = p := by simpa using hb
    subst hb'
    subst e
    obtain ⟨l, hl, e⟩ := List.mem_iff_getElem.mp ha
    obtain ⟨o, _, h2⟩ := r.has (l := l) (a := a) (by simp [hl, e])
    obtain ⟨u, hu⟩ := h2.some
    rw [hp] at hu; cases hu
  · by_cases hl : l < st.length
    · rw [List.getElem?_append_left hl] at h0
      obtain ⟨a, h1, h2⟩ := r.ob l ob h0
      obtain ⟨u, hu⟩ := h2.some
      exact ⟨a, pre_get pre h1, h2.mono pre (fun a o e _ => k a o e) ((k a u hu).trans hu.symm)⟩
    · rw [List.getElem?_append_right (Nat.le_of_not_lt hl)] at h0
      have e0 : l - st.length = 0 := by
        cases h9 : l - st.length with
        | zero => rfl
        | succ n => rw [h9] at h0; simp at h0
      rw [e0] at h0
      have e1 : l = st.length := by omega
      simp at h0
      subst h0
      refine ⟨p, ?_, vs, h, q⟩
      rw [e1, ← r.len]
      simp
theorem rels_pairs {K : PySem.W.Frag} {ρ : List Addr} {H : Hp} : ∀ {xs ys : List D} {vs us : List V} (as : List Addr), Rels K ρ H xs vs → Rels K ρ H ys us → as.length = vs.length → xs.length = ys.length →
    (∀ (j : Nat) (a : Addr) (p : V × V), as[j]? = some a → (vs.zip us)[j]? = some p → H a = some (.tup [p.1, p.2])) → Rels K ρ H ((xs.zip ys).map fun p => D.tup [p.1, p.2]) (as.map V.ref)
  | _, _, _, _, [], .nil, _, _, _, _ => .nil
  | _, _, _, _, _ :: _, .nil, _, h, _, _ => by cases h
  | _, _, _, _, [], .cons _ _, _, h, _, _ => by cases h
  | _, _, _, _, a :: as, .cons _ _, .nil, _, h, _ => by cases h
  | _, _, _, _, a :: as, .cons (v := v) r1 t1, .cons (v := u) r2 t2, h, h2, k =>
    .cons (.tup _ [v, u] a (SqT.of (k 0 a (v, u) rfl rfl)) (.cons r1 (.cons r2 .nil))) (rels_pairs as t1 t2 (Nat.succ.inj h) (Nat.succ.inj h2) fun j b p hb hp => k (j + 1) b p hb hp)
section
variable {X : Cx} {G : Amb} {W : WX} {e a b c o tg : Expr} {es : List Expr} {pos p2 pos' p q : Pos} {m ma mb mc : ME} {own : List Nat} {k j : Nat} {x : Str}
def rLZ (K : PySem.W.Frag) : List V → Hp → VK → Prop := fun vs H Q => ∃ (l m : Addr) (xs ys : List V), vs = [.ref l, .ref m] ∧ SqL K H l xs ∧ SqL K H m ys ∧ xs.length = ys.length ∧ xs.length ≤ 1000000 ∧
  ∀ (H' : Hp) (p : Addr) (ts : List Addr), (∀ b o, H b = some o → H' b = some o) → H p = none → ts.length = xs.length → H' p = some (.lst (ts.map V.ref)) →
    (∀ (j : Nat) (a : Addr) (p : V × V), ts[j]? = some a → (xs.zip ys)[j]? = some p → H' a = some (.tup [p.1, p.2])) → Q (.ref p) H'
theorem pe_lz {ta : TA} (hc : X.calm = true) (hl : Gl X "list") (hz : Gl X "zip") (hml : X.mg "list" = none) (hmz : X.mg "zip" = none) (ha : PA X [a, b] ta)
    (hs : starEach [.Call (.Name "zip" p2) [a, b] [] q] X.env = (false, eval (.Call (.Name "zip" p2) [a, b] [] q) X.env) :: starEach [] X.env := by rfl)
    (hs2 : starEach [a, b] X.env = (false, eval a X.env) :: starEach [b] X.env := by rfl) (hpl : (backTo q (starEach [b] X.env)).any (·.1) = false := by rfl) :
    PE X (.Call (.Name "list" p) [.Call (.Name "zip" p2) [a, b] [] q] [] pos) (fun σ H Q => ta σ H fun vs H1 => rLZ X.K vs H1 Q) := by
  refine ⟨fun pins s σ H Q I hq => ?_⟩
  refine wpAny_Call_Name_kw (ld_blt I hl hml PyProof.Rows.boot_list ?_)
  refine PyProof.Rows.callWith_type1 ?_ hs rfl
  rw [hs]
  show wpAny _ _ (spliced ((false, eval (.Call (.Name "zip" p2) [a, b] [] q) X.env) :: backTo pos (starEach [] X.env))) _ _ s
  refine Calls.spliced_cons ?_
  refine Call_ (ld_blt I hz hmz PyProof.Rows.boot_zip (PyProof.Rows.callWith_type1 (thn (ha.run q pins s σ H _ I hq) fun us s1 ⟨vs, H1, I1, r1, q1⟩ => ?_) hs2 hpl))
  obtain ⟨l, m, xs, ys, ex, hqx, hqy, hxy, hn, q1⟩ := q1
  subst ex
  cases r1 with
  | cons r rr =>
    cases rr with
    | cons r' rr =>
      cases rr
      cases r
      cases r'
      obtain ⟨its, rv, p1, _⟩ := I1.list hqx
      obtain ⟨its2, rv2, p2', _⟩ := I1.list hqy
      refine call_zip_2 p1.isList p2'.isList fun h' g1 g2 g3 g4 g5 g6 g7 => ?_
      refine Calls.spliced_nil ?_
      have l1 := rv.length
      have l2 := rv2.length
      refine zl_call (s := { s1 with heap := h' }) (N := s1.heap.objs.size) (h₁ := s1.heap) (xs := its) (ys := its2) g6 (I1.ok.hd hc) (PySem.W.ktu_apart s1.heap.objs.size l m p1.lt p2'.lt) p1.lt p2'.lt (by omega) (Nat.le_trans (by omega) (line_ok hn)) p1.isList p2'.isList
        ⟨g2, g4, g5, .inl ⟨g1, _, _, g3⟩⟩ g1 (fun b o _ z => g7 b o z) fun h2 tk acc c as z => ?_
      obtain ⟨H', k1, k2, k3, k4, k5, J⟩ := laid_zip (tk := tk) I1 (line_ok hn) rv rv2 hxy rfl z
      exact ⟨.ref _, H', J, rfl, q1 H' _ as k1 k2 k3 k4 k5⟩
/-- list(zip(a, b)), of two lists of one length -/
def fListZip (ds : List D) (st : Store) : Out D := match ds with
  | [.ref l, .ref m] => (match itemsAt st l, itemsAt st m with
    | some xs, some ys => if xs.length = ys.length ∧ xs.length ≤ 1000000 then .ok (.ref st.length) (st ++ [.lst ((xs.zip ys).map fun p => .tup [p.1, p.2])]) else .no
    | _, _ => .no)
  | _ => .no
theorem is_listZip {mr : MA} (hc : X.calm = true) (hl : Gl X "list") (hz : Gl X "zip") (hml : X.mg "list" = none) (hmz : X.mg "zip" = none) (h : IsA X G W [a, b] mr)
    (hs : starEach [.Call (.Name "zip" p2) [a, b] [] q] X.env = (false, eval (.Call (.Name "zip" p2) [a, b] [] q) X.env) :: starEach [] X.env := by rfl)
    (hs2 : starEach [a, b] X.env = (false, eval a X.env) :: starEach [b] X.env := by rfl) (hpl : (backTo q (starEach [b] X.env)).any (·.1) = false := by rfl) :
    IsE X G W (.Call (.Name "list" p) [.Call (.Name "zip" p2) [a, b] [] q] [] pos) (mFn fListZip mr) := by
  intro ρ env st σ H Q rl hp
  refine ⟨_, pe_lz hc hl hz hml hmz (wpa X [a, b]) hs hs2 hpl, h ρ env st σ H _ rl (Post.bind hp fun ρ1 ds st1 xs H1 e1 k1 s1 r1 hp1 => ?_)⟩
  unfold fListZip at hp1
  split at hp1
  · obtain ⟨u, v, rfl, q1, q2⟩ := rels2 r1
    rename_i l m
    cases q1 with
    | ref _ A1 hA1 =>
      cases q2 with
      | ref _ A2 hA2 =>
        split at hp1
        · rename_i xs ys ex ey
          split at hp1
          · rename_i hlen
            obtain ⟨vs, sx, rx⟩ := s1.read hA1 ex
            obtain ⟨us, sy, ry⟩ := s1.read hA2 ey
            have lx := rx.length
            have ly := ry.length
            refine ⟨A1, A2, vs, us, rfl, sx, sy, by omega, by omega, fun H' pn ts g1 g2 g3 g4 g5 => ?_⟩
            have kp : Keep H1 H' := fun a o e _ => g1 a o e
            have pre : ρ1 <+: ρ1 ++ [pn] := List.prefix_append _ _
            have rp := rels_pairs (K := X.K) (ρ := ρ1 ++ [pn]) (H := H') ts (rx.mono pre kp) (ry.mono pre kp) g3 hlen.1 g5
            exact hp1 (ρ1 ++ [pn]) (.ref pn) H' pre kp (s1.grow g1 g2 g4 rp) (.ref st1.length pn (by rw [← s1.len]; simp))
          · exact hp1.elim
        · exact hp1.elim
  · exact hp1.elim
end
end Mi
/-! ## Mi10 -/
set_option Elab.async false
set_option linter.all false
set_option maxRecDepth 100000
set_option maxHeartbeats 2000000
namespace Mi
open PySem L2

/-! ### the end: the law's def -/
def spLaw (K : PySem.W.Frag) : Sp := fun vs H Q _ => ∃ (a : Addr) (ns : List Int), vs = [.ref a] ∧ Only H ∧ SqL K H a (ns.map V.int) ∧ ns.length ≤ 63 ∧ ∀ H', Q (.bl true) H'
theorem rels_ints {K : PySem.W.Frag} {ρ : List Addr} {H : Hp} : ∀ ns : List Int, Rels K ρ H (ns.map D.int) (ns.map V.int)
  | [] => .nil
  | n :: r => .cons (.int n) (rels_ints r)
theorem sqF_of {K : PySem.W.Frag} {H : Hp} {a : Addr} {xs : List V} (hO : Only H) (h : SqL K H a xs) : SqF K H a xs := by
  rcases h with (h | h) | h
  · rcases hO a with e | ⟨o, ys, e⟩
    · rw [e] at h; cases h
    · rw [e] at h; cases h
  · exact .inl h
  · exact .inr h
theorem relS0 {K : PySem.W.Frag} {H : Hp} : RelS K [] [] H := ⟨rfl, List.nodup_nil, fun l o h => by simp at h⟩
theorem law_end {P : Program} {w : World} {K : PySem.W.Frag} {mg : Str → Option Value} {base : Heap} {k : Nat} {f : Addr} {fd : FuncData} {x : Str} {m : MF} (h : FnOk P w K mg base (L2.CX P w) k f fd [x] (spM K mg 1 m))
    (hm : ∀ ns : List Int, ns.length ≤ 63 → ∃ st, m [.fl (ns.map D.int)] [] = .ok (.bl true) st) : FnOk P w K mg base (L2.CX P w) k f fd [x] (spLaw K) := h.imp fun vs H Q E ⟨a, ns, e, hO, hS, hl, q⟩ => by
  subst e
  refine ⟨rfl, [], [], [.fl (ns.map .int)], relS0, .cons (.fl _ _ a (sqF_of hO hS) (rels_ints ns)) .nil, ?_⟩
  obtain ⟨st, e⟩ := hm ns hl
  rw [e]
  intro ρ' x H' _ _ _ r
  cases r
  exact q H'
theorem cx_no {P : Program} {w : World} {H : Hp} {s : Shared} {e : Value} {s' : Shared} (c : L2.CX P w [] H s (fun _ _ _ => False) e s') : False := by
  obtain ⟨_, _, _, _, _, _, _, _, _, _, _, _, z⟩ := c
  exact z
theorem walkM {l : PySem.W.OpenLaw} {q : Program} {loose : List Str} {XP : (Str → Option Value) → Heap → Prop} {YP : World → Heap → Prop} {d : DefRec} {K : Params → PySem.W.Frag} {x : Str} (k : Nat) (hn : l.most = some 63) (hdf : d.params.defaults = [])
    (hr : Room k callerA) (hY : ∀ (w : World) (h : Heap), YP w h → (K w.params).In h)
    (F : ∀ (w : World) (mg : Str → Option Value) (fa : Addr) (h : Heap), (K w.params).In h → h.Ns mainGlobals mg → mg d.name = some (.ref fa) →
      ∃ fd : FuncData, (∀ (s : Shared) (u : Value), BindsTo s fd ⟨[u], []⟩ [(x, u)]) ∧
        ∀ base : Heap, (K w.params).In base → base.Ns mainGlobals mg → FnOk l.prog w (K w.params) mg base (L2.CX l.prog w) k fa fd [x] (spLaw (K w.params))) :
    PySem.W.WalkO q loose XP YP l.row.toRowW d [] (fun f vs => PySem.call f vs) :=
  L2.walk_of (n := 63) (k := k) (x := x) (CX := fun w => L2.CX l.prog w) (sp := fun w => spLaw (K w.params)) hn (by decide) hdf hr hY F (fun _ _ a ns hl hO hS => ⟨a, ns, rfl, hO, hS, hl, fun _ => rfl⟩) fun _ _ _ _ _ z => cx_no z

/-! ### what the top has written -/
section
variable {K : PySem.W.Frag} {h : Heap} {mg : Str → Option Value}
theorem def_mk {x : Str} {st : Stmt} {ps : List Str} {f : Addr} {od an : Option Addr} {sl : Array (Option Value)} {oc kV dc pm cd ct : Value} (X : K.In h) (G : h.Ns mainGlobals mg) (a : PySem.W.nsIn K mainGlobals x = some (some (.ref f)))
    (l : K.lookup f = some ⟨oc, od, .func (PySem.W.fnOf x x (defArgs st) (defBody st) (defScope st) .none kV dc pm an cd ct), sl⟩) (c : PySem.W.codeIn K cd x = true) (k : PySem.W.keepIn K (.ref f) = true)
    (hb : ∀ us : List Value, us.length = ps.length → bindArgs (PySem.W.fnOf x x (defArgs st) (defBody st) (defScope st) .none kV dc pm an cd ct) ⟨us, []⟩ = pure (ps.zip us))
    (hk : ∀ us : List Value, us.length = ps.length → bindArgs (PySem.W.fnOf x x (defArgs st) (defBody st) (defScope st) .none kV dc pm an cd ct) ⟨[], ps.zip us⟩ = pure (ps.zip us)) : Def K mg x st ps :=
  ⟨f, _, fun_mk (st := st) l c k, PySem.W.mg_of X G a, hb, hk⟩
theorem kst_str {x : Str} {y : Str} {t : Tok} (X : K.In h) (G : h.Ns mainGlobals mg) (a : PySem.W.nsIn K mainGlobals x = some (some (.str y t))) : Kst K mg x (.str y) :=
  ⟨.str y, .str y t, PySem.W.mg_of X G a, ⟨t, rfl⟩, fun _ _ => .str y⟩
theorem kst_int {x : Str} {i : Int} {t : Tok} (X : K.In h) (G : h.Ns mainGlobals mg) (a : PySem.W.nsIn K mainGlobals x = some (some (.int i t))) : Kst K mg x (.int i) :=
  ⟨.int i, .int i t, PySem.W.mg_of X G a, ⟨t, rfl⟩, fun _ _ => .int i⟩
theorem kst_tup {x : Str} {p : Addr} {od : Option Addr} {its : Array Value} {n : Nat} {sl : Array (Option Value)} {ds : List D} {vs : List V} (X : K.In h) (G : h.Ns mainGlobals mg) (a : PySem.W.nsIn K mainGlobals x = some (some (.ref p)))
    (l : K.lookup p = some ⟨.type "tuple", od, .seq its n, sl⟩) (hz : its.size ≤ sizeLine) (hv : Vals vs its.toList) (hr : ∀ ρ H, Rels K ρ H ds vs) : Kst K mg x (.tup ds) :=
  ⟨.ref p, .ref p, PySem.W.mg_of X G a, rfl, fun ρ H => .tup ds vs p (.inr ⟨_, its, n, l, rfl, rfl, hz, hv⟩) (hr ρ H)⟩
theorem err_mk {P : Program} {w : World} {x qual : Str} {C fI N : Addr} {st : Stmt} {f1 f2 : Str} {nm q : Str} {bs bm : List Value} {sn : List Str} {sub : List Value} {ab : Bool} {col : Option Bool} {dd : Option Addr} {m0 m1 m2 m3 m5 : Option Value} {od an : Option Addr} {sl : Array (Option Value)} {oc kV dc pm cd ct : Value}
    (X : K.In h) (G : h.Ns mainGlobals mg) (a : PySem.W.nsIn K mainGlobals x = some (some (.ref C)))
    (xL : K.lookup C = some (excClassObj nm q C N bs bm true sn sub ab col dd m0 m1 m2 m3 m5 "ValueError.__new__")) (vC : PySem.HandSPX.refsVE bm = true)
    (sa : PySem.W.findIn K (.ref C) "__setattr__" = some (some (.builtin "object.__setattr__"))) (ga : PySem.W.findIn K (.ref C) "__getattribute__" = some (some (.builtin "BaseException.__getattribute__"))) (gg : PySem.W.findIn K (.ref C) "__getattr__" = some none)
    (n1 : PySem.W.findIn K (.ref C) f1 = some none) (n2 : PySem.W.findIn K (.ref C) f2 = some none)
    (iC : PySem.W.findIn K (.ref C) "__init__" = some (some (.ref fI))) (tI : PySem.W.typeIn K (.ref fI) = some (.type "function"))
    (kC : PySem.W.keepIn K (.ref C) = true) (eC : PySem.W.subIn K (.ref C) (.type "BaseException") = some true) (tC : PySem.W.typeIn K (.ref C) = some (.type "type")) (hC : PySem.W.hasDictIn K C = true)
    (l : K.lookup fI = some ⟨oc, od, .func (PySem.W.fnOf "__init__" qual (defArgs st) (defBody st) (defScope st) .none kV dc pm an cd ct), sl⟩) (c : PySem.W.codeIn K cd qual = true) (k : PySem.W.keepIn K (.ref fI) = true)
    (S : FnScope ["self", f1, f2] ["self", f1, f2] (defScope st))
    (hbd : ∀ us : List Value, us.length = (["self", f1, f2] : List Str).length → bindArgs (PySem.W.fnOf "__init__" qual (defArgs st) (defBody st) (defScope st) .none kV dc pm an cd ct) ⟨us, []⟩ = pure ((["self", f1, f2] : List Str).zip us))
    (hb : ∀ X : Cx, X.K = K → X.N = (["self", f1, f2] : List Str) → X.env.scope = defScope st → PSs X (defBody st) (tSeq (tOst K f1 (tVar 0) (tVar 1)) (tOst K f2 (tVar 0) (tVar 2)))) (base : Heap) :
    Err P w K mg base x C f1 f2 :=
  have OC : OexC K C := ⟨⟨nm, q, N, bs, bm, sn, sub, ab, col, dd, m0, m1, m2, m3, m5, xL, vC⟩, sa, eC, tC, kC⟩
  ⟨⟨fI, _, OC, iC, tI, init2 (fun_mk (st := st) l c k) S OC n1 n2 hb, .all hbd, PySem.W.mg_of X G a⟩, ⟨ga, gg, eC, hC⟩, n1, n2⟩
end
end Mi
/-! ## K65m -/
set_option Elab.async false
set_option linter.all false
set_option maxRecDepth 100000
set_option maxHeartbeats 0
namespace K65
open PySem L2 Mi
/-! ### constants and mirrors of the defs -/
def fuel : Nat := 1000000
abbrev errs : List Str := ["NotUsable", "InvalidText"]
@[simp] abbrev d_A_LETTERS : D := .str "abcdefghijklmnopqrstuvwxyz"
@[simp] abbrev d_A_OTHERS : D := .str "0123456789-"
@[simp] abbrev d_MOST_FIGURES : D := .int 60
@[simp] abbrev d_PUT_SORTS : D := .tup [.str "number", .str "number", .str "number", .str "number", .str "number"]
/-- the slots of a_begins: 0 sign -/
abbrev N_a_begins : List Str := ["sign"]
def b_a_begins : MS := (kRet (mBin fInS (mVar 0) (mC d_A_LETTERS)))
def m_a_begins : MF := mDef 1 b_a_begins
/-- the slots of a_goes_on: 0 sign -/
abbrev N_a_goes_on : List Str := ["sign"]
def b_a_goes_on : MS := (kRet (mOrV (mBin fInS (mVar 0) (mC d_A_LETTERS)) (mBin fInS (mVar 0) (mC d_A_OTHERS))))
def m_a_goes_on : MF := mDef 1 b_a_goes_on
/-- the slots of _a_word_at: 0 text, 1 at, 2 holes, 3 first, 4 end -/
abbrev N_a_word_at : List Str := ["text", "at", "holes", "first", "end"]
def b_a_word_at : MS := (kSeq (kIf (mB (mBin fEq (mVar 1) (mFn fLen (mCons (mVar 0) mNil)))) (kRaise "InvalidText" "line" "at" (mCons (mC (.int 0)) (mCons (mVar 1) mNil))) kSkip)
  (kSeq (kSet 3 (mBin fIx (mVar 0) (mVar 1)))
  (kSeq (kIf (mOrT (mB (mBin fEq (mVar 3) (mC (.str ".")))) (mAndT (mTru (mVar 2)) (mB (mBin fEq (mVar 3) (mC (.str "?")))))) (kRet (mVar 3)) kSkip)
  (kSeq (kIf (mNotT (mTru (mCall m_a_begins (mCons (mVar 3) mNil)))) (kRaise "InvalidText" "line" "at" (mCons (mC (.int 0)) (mCons (mVar 1) mNil))) kSkip)
  (kSeq (kSet 4 (mBin fAdd (mVar 1) (mC (.int 1))))
  (kSeq (kWhile fuel (mAndT (mB (mBin fLt (mVar 4) (mFn fLen (mCons (mVar 0) mNil)))) (mAndT (mB (mBin fLt (mVar 4) (mBin fAdd (mVar 1) (mC (.int 16))))) (mTru (mCall m_a_goes_on (mCons (mBin fIx (mVar 0) (mVar 4)) mNil))))) (kSet 4 (mBin fAdd (mVar 4) (mC (.int 1)))))
  (kRet (mSl (mVar 0) (mOS (mVar 1)) (mOS (mVar 4))))))))))
def m_a_word_at : MF := mDef 5 b_a_word_at
/-- the slots of _a_close: 0 text, 1 at, 2 above -/
abbrev N_a_close : List Str := ["text", "at", "above"]
def b_a_close : MS := (kSeq (kWhile fuel (mAndT (mTru (mVar 2)) (mB (mBin fEq (mSl (mVar 0) (mOS (mVar 1)) (mOS (mBin fAdd (mVar 1) (mC (.int 1))))) (mC (.str ")"))))) (kSeq (kExpr (mM0 fPop (mRecv "list" (mVar 2))))
  (kSet 1 (mBin fAdd (mVar 1) (mC (.int 1))))))
  (kRet (mVar 1)))
def m_a_close : MF := mDef 3 b_a_close
/-- the slots of _a_read: 0 text, 1 holes, 2 words, 3 counts, 4 above, 5 at, 6 ended, 7 word -/
abbrev N_a_read : List Str := ["text", "holes", "words", "counts", "above", "at", "ended", "word"]
def b_a_read : MS := (kSeq (kIf (mNotT (mTru (mFn fIsi (mCons (mVar 0) (mCons (mC (.ty "str")) mNil))))) (kRaise "NotUsable" "word" "at" (mCons (mC (.str "text")) (mCons (mNeg (mC (.int 1))) mNil))) kSkip)
  (kSeq (kPar3 2 3 4 (mCons (mLst mNil) (mCons (mLst mNil) (mCons (mLst mNil) mNil))))
  (kSeq (kAsg (gTupM (gsCons (gN 5) (gsCons (gN 6) gsNil))) (mTup (mCons (mC (.int 0)) (mCons (mC (.bl false)) mNil))))
  (kSeq (kWhile fuel (mNotT (mTru (mVar 6))) (kSeq (kSet 7 (mCall m_a_word_at (mCons (mVar 0) (mCons (mVar 5) (mCons (mVar 1) mNil)))))
  (kSeq (kSet 5 (mBin fAdd (mVar 5) (mFn fLen (mCons (mVar 7) mNil))))
  (kSeq (kIf (mTru (mVar 4)) (kSetIx (mVar 3) (mBin fIx (mVar 4) (mNeg (mC (.int 1)))) (mBin fAdd (mBin fIx (mVar 3) (mBin fIx (mVar 4) (mNeg (mC (.int 1))))) (mC (.int 1)))) kSkip)
  (kSeq (kExpr (mM fAppend (mRecv "list" (mVar 2)) (mCons (mVar 7) mNil)))
  (kSeq (kExpr (mM fAppend (mRecv "list" (mVar 3)) (mCons (mC (.int 0)) mNil)))
  (kIf (mAndT (mB (mBin fEq (mSl (mVar 0) (mOS (mVar 5)) (mOS (mBin fAdd (mVar 5) (mC (.int 1))))) (mC (.str "(")))) (mAndT (mB (mBin fNe (mVar 7) (mC (.str ".")))) (mB (mBin fNe (mVar 7) (mC (.str "?")))))) (kSeq (kExpr (mM fAppend (mRecv "list" (mVar 4)) (mCons (mBin fSub (mFn fLen (mCons (mVar 2) mNil)) (mC (.int 1))) mNil)))
  (kSet 5 (mBin fAdd (mVar 5) (mC (.int 1))))) (kSeq (kSet 5 (mCall m_a_close (mCons (mVar 0) (mCons (mVar 5) (mCons (mVar 4) mNil)))))
  (kSeq (kSet 6 (mNotV (mVar 4)))
  (kIf (mNotT (mTru (mVar 6))) (kSeq (kIf (mOrT (mB (mBin fNe (mSl (mVar 0) (mOS (mVar 5)) (mOS (mBin fAdd (mVar 5) (mC (.int 1))))) (mC (.str ",")))) (mB (mBin fEq (mBin fIx (mVar 3) (mBin fIx (mVar 4) (mNeg (mC (.int 1))))) (mC (.int 4))))) (kRaise "InvalidText" "line" "at" (mCons (mC (.int 0)) (mCons (mVar 5) mNil))) kSkip)
  (kSet 5 (mBin fAdd (mVar 5) (mC (.int 1))))) kSkip))))))))))
  (kSeq (kIf (mB (mBin fLt (mVar 5) (mFn fLen (mCons (mVar 0) mNil)))) (kRaise "InvalidText" "line" "at" (mCons (mC (.int 0)) (mCons (mVar 5) mNil))) kSkip)
  (kRet (mFn fTuple (mCons (mFn fListZip (mCons (mVar 2) (mCons (mVar 3) mNil))) mNil))))))))
def m_a_read : MF := mDef 8 b_a_read
/-- the slots of read_tree: 0 text -/
abbrev N_read_tree : List Str := ["text"]
def b_read_tree : MS := (kRet (mCall m_a_read (mCons (mVar 0) (mCons (mC (.bl false)) mNil))))
def m_read_tree : MF := mDef 1 b_read_tree
/-- the slots of lines_of: 0 text -/
abbrev N_lines_of : List Str := ["text"]
def b_lines_of : MS := (kSeq (kIf (mB (mBin fEq (mVar 0) (mC (.str "")))) (kRet (mLst mNil)) kSkip)
  (kRet (mM fSplit (mRecv "str" (mVar 0)) (mCons (mC (.str "\n")) mNil))))
def m_lines_of : MF := mDef 1 b_lines_of
/-- the slots of number_in: 0 field -/
abbrev N_number_in : List Str := ["field"]
def b_number_in : MS := (kSeq (kIf (mOrT (mNotT (mTru (mM0 fIsdigit (mRecv "str" (mVar 0))))) (mB (mBin fGt (mFn fLen (mCons (mVar 0) mNil)) (mC d_MOST_FIGURES)))) (kRet (mC .non)) kSkip)
  (kSeq (kIf (mAndT (mB (mBin fEq (mBin fIx (mVar 0) (mC (.int 0))) (mC (.str "0")))) (mB (mBin fNe (mVar 0) (mC (.str "0"))))) (kRet (mC .non)) kSkip)
  (kRet (mFn fInt (mCons (mVar 0) mNil)))))
def m_number_in : MF := mDef 1 b_number_in
/-- the slots of tree_in: 0 field -/
abbrev N_tree_in : List Str := ["field"]
def b_tree_in : MS := (kTry errs [("InvalidText", none, fun fs => (kRet (mC .non)))] (kRet (mCall m_read_tree (mCons (mVar 0) mNil))))
def m_tree_in : MF := mDef 1 b_tree_in
/-- the slots of entries_in: 0 fields, 1 sorts, 2 line, 3 entries, 4 k, 5 sort, 6 at, 7 entry -/
abbrev N_entries_in : List Str := ["fields", "sorts", "line", "entries", "k", "sort", "at", "entry"]
def b_entries_in : MS := (kSeq (kSet 3 (mLst mNil))
  (kSeq (kFor (iEnumA (mCons (mVar 1) mNil)) (gTupM (gsCons (gN 4) (gsCons (gN 5) gsNil))) (kSeq (kSet 6 (mBin fAdd (mVar 4) (mC (.int 1))))
  (kSeq (kIf (mB (mBin fEq (mVar 6) (mFn fLen (mCons (mVar 0) mNil)))) (kRaise "InvalidText" "line" "at" (mCons (mVar 2) (mCons (mVar 6) mNil))) kSkip)
  (kSeq (kSet 7 (mIfE (mB (mBin fEq (mVar 5) (mC (.str "tree")))) (mCall m_tree_in (mCons (mBin fIx (mVar 0) (mVar 6)) mNil)) (mCall m_number_in (mCons (mBin fIx (mVar 0) (mVar 6)) mNil))))
  (kSeq (kIf (mB (mBin fIsN (mVar 7) (mC .non))) (kRaise "InvalidText" "line" "at" (mCons (mVar 2) (mCons (mVar 6) mNil))) kSkip)
  (kExpr (mM fAppend (mRecv "list" (mVar 3)) (mCons (mVar 7) mNil))))))))
  (kSeq (kIf (mB (mBin fGt (mFn fLen (mCons (mVar 0) mNil)) (mBin fAdd (mFn fLen (mCons (mVar 1) mNil)) (mC (.int 1))))) (kRaise "InvalidText" "line" "at" (mCons (mVar 2) (mCons (mBin fAdd (mFn fLen (mCons (mVar 1) mNil)) (mC (.int 1))) mNil))) kSkip)
  (kRet (mFn fTuple (mCons (mVar 3) mNil))))))
def m_entries_in : MF := mDef 8 b_entries_in
/-- the slots of _chain_entry: 0 fields, 1 line -/
abbrev N_chain_entry : List Str := ["fields", "line"]
def b_chain_entry : MS := (kSeq (kIf (mB (mBin fEq (mBin fIx (mVar 0) (mC (.int 0))) (mC (.str "given")))) (kRet (mBin fAdd (mTup (mCons (mC (.str "given")) mNil)) (mCall m_entries_in (mCons (mVar 0) (mCons (mTup (mCons (mC (.str "tree")) mNil)) (mCons (mVar 1) mNil)))))) kSkip)
  (kSeq (kIf (mB (mBin fEq (mBin fIx (mVar 0) (mC (.int 0))) (mC (.str "put")))) (kRet (mBin fAdd (mTup (mCons (mC (.str "put")) mNil)) (mCall m_entries_in (mCons (mVar 0) (mCons (mC d_PUT_SORTS) (mCons (mVar 1) mNil)))))) kSkip)
  (kRaise "InvalidText" "line" "at" (mCons (mVar 1) (mCons (mC (.int 0)) mNil)))))
def m_chain_entry : MF := mDef 2 b_chain_entry
/-- the slots of read_chain: 0 text, 1 chain, 2 line, 3 row -/
abbrev N_read_chain : List Str := ["text", "chain", "line", "row"]
def b_read_chain : MS := (kSeq (kIf (mNotT (mTru (mFn fIsi (mCons (mVar 0) (mCons (mC (.ty "str")) mNil))))) (kRaise "NotUsable" "word" "at" (mCons (mC (.str "text")) (mCons (mNeg (mC (.int 1))) mNil))) kSkip)
  (kSeq (kSet 1 (mLst mNil))
  (kSeq (kFor (iEnumA (mCons (mCall m_lines_of (mCons (mVar 0) mNil)) mNil)) (gTupM (gsCons (gN 2) (gsCons (gN 3) gsNil))) (kExpr (mM fAppend (mRecv "list" (mVar 1)) (mCons (mCall m_chain_entry (mCons (mM fSplit (mRecv "str" (mVar 3)) (mCons (mC (.str " ")) mNil)) (mCons (mVar 2) mNil))) mNil))))
  (kRet (mFn fTuple (mCons (mVar 1) mNil))))))
def m_read_chain : MF := mDef 4 b_read_chain
/-- the slots of _join_entry: 0 fields, 1 line, 2 word, 3 part, 4 tree, 5 other -/
abbrev N_join_entry : List Str := ["fields", "line", "word", "part", "tree", "other"]
def b_join_entry : MS := (kSeq (kSet 2 (mBin fIx (mVar 0) (mC (.int 0))))
  (kSeq (kIf (mB (mBin fEq (mVar 2) (mC (.str "down")))) (kSeq (kAsg (gTupM (gsCons (gN 3) (gsCons (gN 4) (gsCons (gN 5) gsNil)))) (mCall m_entries_in (mCons (mVar 0) (mCons (mTup (mCons (mC (.str "number")) (mCons (mC (.str "tree")) (mCons (mC (.str "tree")) mNil)))) (mCons (mVar 1) mNil)))))
  (kRet (mTup (mCons (mVar 2) (mCons (mVar 4) (mCons (mVar 5) (mCons (mVar 3) mNil))))))) kSkip)
  (kSeq (kIf (mOrT (mB (mBin fEq (mVar 2) (mC (.str "root")))) (mB (mBin fEq (mVar 2) (mC (.str "up"))))) (kSeq (kAsg (gTupM (gsCons (gN 4) (gsCons (gN 5) gsNil))) (mCall m_entries_in (mCons (mVar 0) (mCons (mTup (mCons (mC (.str "tree")) (mCons (mC (.str "tree")) mNil))) (mCons (mVar 1) mNil)))))
  (kRet (mTup (mCons (mVar 2) (mCons (mVar 4) (mCons (mVar 5) (mCons (mC (.int 0)) mNil))))))) kSkip)
  (kRaise "InvalidText" "line" "at" (mCons (mVar 1) (mCons (mC (.int 0)) mNil))))))
def m_join_entry : MF := mDef 6 b_join_entry
/-- the slots of read_joins: 0 text, 1 joins, 2 line, 3 row -/
abbrev N_read_joins : List Str := ["text", "joins", "line", "row"]
def b_read_joins : MS := (kSeq (kIf (mNotT (mTru (mFn fIsi (mCons (mVar 0) (mCons (mC (.ty "str")) mNil))))) (kRaise "NotUsable" "word" "at" (mCons (mC (.str "text")) (mCons (mNeg (mC (.int 1))) mNil))) kSkip)
  (kSeq (kSet 1 (mLst mNil))
  (kSeq (kFor (iEnumA (mCons (mCall m_lines_of (mCons (mVar 0) mNil)) mNil)) (gTupM (gsCons (gN 2) (gsCons (gN 3) gsNil))) (kExpr (mM fAppend (mRecv "list" (mVar 1)) (mCons (mCall m_join_entry (mCons (mM fSplit (mRecv "str" (mVar 3)) (mCons (mC (.str " ")) mNil)) (mCons (mVar 2) mNil))) mNil))))
  (kRet (mFn fTuple (mCons (mVar 1) mNil))))))
def m_read_joins : MF := mDef 4 b_read_joins
/-- the slots of shown: 0 tree, 1 texts, 2 word, 3 many, 4 parts, 5 _, 6 inner -/
abbrev N_shown : List Str := ["tree", "texts", "word", "many", "parts", "_", "inner"]
def b_shown : MS := (kSeq (kSet 1 (mLst mNil))
  (kSeq (kFor (iRevM (mVar 0)) (gTupM (gsCons (gN 2) (gsCons (gN 3) gsNil))) (kSeq (kSet 4 (mLst mNil))
  (kSeq (kFor (iRng1 (mCons (mVar 3) mNil)) (gN 5) (kExpr (mM fAppend (mRecv "list" (mVar 4)) (mCons (mM0 fPop (mRecv "list" (mVar 1))) mNil))))
  (kSeq (kSet 6 (mM fJoin (mRecv "str" (mC (.str ","))) (mCons (mVar 4) mNil)))
  (kExpr (mM fAppend (mRecv "list" (mVar 1)) (mCons (mIfE (mB (mBin fGt (mVar 3) (mC (.int 0)))) (mJoined [(mFmt (mVar 2)), (mC (.str "(")), (mFmt (mVar 6)), (mC (.str ")"))]) (mVar 2)) mNil)))))))
  (kRet (mBin fIx (mVar 1) (mC (.int 0))))))
def m_shown : MF := mDef 7 b_shown
/-- the slots of _chain_line: 0 entry, 1 field -/
abbrev N_chain_line : List Str := ["entry", "field"]
def b_chain_line : MS := (kSeq (kIf (mB (mBin fEq (mBin fIx (mVar 0) (mC (.int 0))) (mC (.str "given")))) (kRet (mBin fAdd (mC (.str "given ")) (mCall m_shown (mCons (mBin fIx (mVar 0) (mC (.int 1))) mNil)))) kSkip)
  (kRet (mM fJoin (mRecv "str" (mC (.str " "))) (mCons (mLc (iVal (mVar 0)) [1] (gN 1) mYes (mFn fStr (mCons (mVar 1) mNil))) mNil))))
def m_chain_line : MF := mDef 2 b_chain_line
/-- the slots of chain_text: 0 chain, 1 entry -/
abbrev N_chain_text : List Str := ["chain", "entry"]
def b_chain_text : MS := (kRet (mM fJoin (mRecv "str" (mC (.str "\n"))) (mCons (mLc (iVal (mVar 0)) [1] (gN 1) mYes (mCall m_chain_line (mCons (mVar 1) mNil))) mNil)))
def m_chain_text : MF := mDef 2 b_chain_text
/-- the slots of _join_line: 0 join, 1 word, 2 tree, 3 other, 4 part, 5 fields -/
abbrev N_join_line : List Str := ["join", "word", "tree", "other", "part", "fields"]
def b_join_line : MS := (kSeq (kAsg (gTupM (gsCons (gN 1) (gsCons (gN 2) (gsCons (gN 3) (gsCons (gN 4) gsNil))))) (mVar 0))
  (kSeq (kSet 5 (mLst (mCons (mVar 1) mNil)))
  (kSeq (kIf (mB (mBin fEq (mVar 1) (mC (.str "down")))) (kExpr (mM fAppend (mRecv "list" (mVar 5)) (mCons (mFn fStr (mCons (mVar 4) mNil)) mNil))) kSkip)
  (kSeq (kExpr (mM fAppend (mRecv "list" (mVar 5)) (mCons (mCall m_shown (mCons (mVar 2) mNil)) mNil)))
  (kSeq (kExpr (mM fAppend (mRecv "list" (mVar 5)) (mCons (mCall m_shown (mCons (mVar 3) mNil)) mNil)))
  (kRet (mM fJoin (mRecv "str" (mC (.str " "))) (mCons (mVar 5) mNil))))))))
def m_join_line : MF := mDef 6 b_join_line
/-- the slots of joins_text: 0 joins, 1 join -/
abbrev N_joins_text : List Str := ["joins", "join"]
def b_joins_text : MS := (kRet (mM fJoin (mRecv "str" (mC (.str "\n"))) (mCons (mLc (iVal (mVar 0)) [1] (gN 1) mYes (mCall m_join_line (mCons (mVar 1) mNil))) mNil)))
def m_joins_text : MF := mDef 2 b_joins_text
/-- the slots of _law_tape: 0 _law_script -/
abbrev N_law_tape : List Str := ["_law_script"]
def b_law_tape : MS := (kRet (mLst (mCons (mC (.int 0)) (mCons (mC (.int 0)) (mCons (mC (.int 40487)) (mCons (mFn fList (mCons (mVar 0) mNil)) mNil))))))
def m_law_tape : MF := mDef 1 b_law_tape
/-- the slots of _law_draw: 0 _law_tape_here, 1 _law_many, 2 _law_cell, 3 _law_value -/
abbrev N_law_draw : List Str := ["_law_tape_here", "_law_many", "_law_cell", "_law_value"]
def b_law_draw : MS := (kSeq (kIf (mAndT (mB (mBin fLt (mBin fIx (mVar 0) (mC (.int 0))) (mC (.int 1)))) (mB (mBin fLt (mBin fIx (mVar 0) (mC (.int 1))) (mFn fLen (mCons (mBin fIx (mVar 0) (mC (.int 3))) mNil))))) (kSeq (kSet 2 (mBin fMulA (mC (.int 2)) (mBin fIx (mBin fIx (mVar 0) (mC (.int 3))) (mBin fIx (mVar 0) (mC (.int 1))))))
  (kSeq (kSetIx (mVar 0) (mC (.int 1)) (mBin fAdd (mBin fIx (mVar 0) (mC (.int 1))) (mC (.int 1))))
  (kSeq (kIf (mB (mBin fLt (mVar 2) (mC (.int 0)))) (kSet 2 (mBin fSub (mBin fSub (mC (.int 0)) (mVar 2)) (mC (.int 1)))) kSkip)
  (kSeq (kIf (mB (mBin fGe (mVar 2) (mC (.int 1000000000000000000)))) (kSetIx (mVar 0) (mC (.int 0)) (mVar 2)) kSkip)
  (kSetIx (mVar 0) (mC (.int 2)) (mBin fMod (mFn fInt (mCons (mBin fAdd (mBin fMulA (mBin fIx (mVar 0) (mC (.int 2))) (mC (.int 40014))) (mVar 2)) mNil)) (mC (.int 2147483563)))))))) kSkip)
  (kSeq (kIf (mB (mBin fGt (mBin fIx (mVar 0) (mC (.int 0))) (mC (.int 0)))) (kSeq (kSet 3 (mBin fMod (mFn fInt (mCons (mBin fIx (mVar 0) (mC (.int 0))) mNil)) (mVar 1)))
  (kSeq (kSetIx (mVar 0) (mC (.int 0)) (mBin fDiv (mBin fIx (mVar 0) (mC (.int 0))) (mVar 1)))
  (kRet (mVar 3)))) kSkip)
  (kSeq (kSetIx (mVar 0) (mC (.int 2)) (mBin fMod (mFn fInt (mCons (mBin fAdd (mBin fMulA (mBin fIx (mVar 0) (mC (.int 2))) (mC (.int 7919))) (mC (.int 8191))) mNil)) (mC (.int 2147483579))))
  (kRet (mBin fMod (mFn fInt (mCons (mBin fDiv (mBin fIx (mVar 0) (mC (.int 2))) (mC (.int 83))) mNil)) (mVar 1))))))
def m_law_draw : MF := mDef 4 b_law_draw
/-- the slots of _law_words: 0 _law_tape_here, 1 _law_mode, 2 _law_letters, 3 _law_first, 4 _law_turn, 5 _law_words_here, 6 _law_k, 7 _law_stem, 8 _law_place, 9 _law_size -/
abbrev N_law_words : List Str := ["_law_tape_here", "_law_mode", "_law_letters", "_law_first", "_law_turn", "_law_words_here", "_law_k", "_law_stem", "_law_place", "_law_size"]
def b_law_words : MS := (kSeq (kSet 1 (mCall m_law_draw (mCons (mVar 0) (mCons (mC (.int 4)) mNil))))
  (kSeq (kSet 2 (mC (.str "abcdefghijklmnopqrstuvwxyz")))
  (kSeq (kSet 3 (mCall m_law_draw (mCons (mVar 0) (mCons (mC (.int 26)) mNil))))
  (kSeq (kSet 4 (mCall m_law_draw (mCons (mVar 0) (mCons (mC (.int 5)) mNil))))
  (kSeq (kSet 5 (mLst mNil))
  (kSeq (kIf (mB (mBin fEq (mVar 1) (mC (.int 0)))) (kSet 5 (mLc (iRng1 (mCons (mC (.int 5)) mNil)) [6] (gN 6) mYes (mBin fIx (mVar 2) (mBin fMod (mBin fAdd (mVar 3) (mBin fMulA (mC (.int 7)) (mVar 6))) (mC (.int 26)))))) kSkip)
  (kSeq (kIf (mB (mBin fEq (mVar 1) (mC (.int 1)))) (kSeq (kSet 7 (mBin fIx (mVar 2) (mVar 3)))
  (kSeq (kFor (iRng1 (mCons (mCall m_law_draw (mCons (mVar 0) (mCons (mC (.int 15)) mNil))) mNil)) (gN 6) (kSet 7 (mBin fAdd (mVar 7) (mBin fIx (mBin fAdd (mVar 2) (mC (.str "0123456789-"))) (mCall m_law_draw (mCons (mVar 0) (mCons (mC (.int 37)) mNil)))))))
  (kSeq (kSet 8 (mBin fAdd (mC (.int 1)) (mCall m_law_draw (mCons (mVar 0) (mCons (mFn fLen (mCons (mVar 7) mNil)) mNil)))))
  (kSet 5 (mLc (iRng1 (mCons (mC (.int 5)) mNil)) [6] (gN 6) mYes (mBin fAdd (mBin fAdd (mSl (mVar 7) mON (mOS (mVar 8))) (mBin fIx (mC (.str "b-0za")) (mVar 6))) (mSl (mVar 7) (mOS (mVar 8)) mON))))))) kSkip)
  (kSeq (kIf (mB (mBin fEq (mVar 1) (mC (.int 2)))) (kSeq (kSet 9 (mBin fAdd (mC (.int 1)) (mCall m_law_draw (mCons (mVar 0) (mCons (mC (.int 3)) mNil)))))
  (kSet 5 (mLc (iRng1 (mCons (mC (.int 5)) mNil)) [6] (gN 6) mYes (mBin fAdd (mBin fIx (mVar 2) (mVar 3)) (mSl (mBin fAdd (mC (.str "0-")) (mSl (mVar 2) mON (mOS (mC (.int 10))))) mON (mOS (mBin fMulA (mVar 9) (mVar 6)))))))) kSkip)
  (kSeq (kIf (mB (mBin fEq (mVar 1) (mC (.int 3)))) (kSet 5 (mLc (iRng1 (mCons (mC (.int 5)) mNil)) [6] (gN 6) mYes (mBin fAdd (mBin fIx (mVar 2) (mBin fMod (mBin fAdd (mVar 3) (mBin fDiv (mVar 6) (mC (.int 2)))) (mC (.int 26)))) (mFn fStr (mCons (mVar 6) mNil))))) kSkip)
  (kRet (mBin fAdd (mSl (mVar 5) (mOS (mVar 4)) mON) (mSl (mVar 5) mON (mOS (mVar 4))))))))))))))
def m_law_words : MF := mDef 10 b_law_words
/-- the slots of _law_same: 0 _law_told_here, 1 _law_due_here, 2 _law_k -/
abbrev N_law_same : List Str := ["_law_told_here", "_law_due_here", "_law_k"]
def b_law_same (mself : MF) : MS := (kSeq (kIf (mB (mBin fIsN (mVar 1) (mC .non))) (kRet (mBin fIsN (mVar 0) (mC .non))) kSkip)
  (kSeq (kIf (mOrT (mB (mBin fIsB (mVar 1) (mC (.bl true)))) (mB (mBin fIsB (mVar 1) (mC (.bl false))))) (kRet (mAndV (mFn fIsi (mCons (mVar 0) (mCons (mC (.ty "bool")) mNil))) (mBin fEq (mVar 0) (mVar 1)))) kSkip)
  (kSeq (kIf (mTru (mFn fIsi (mCons (mVar 1) (mCons (mC (.ty "int")) mNil)))) (kRet (mAndV (mFn fIsi (mCons (mVar 0) (mCons (mC (.ty "int")) mNil))) (mAndV (mNotV (mFn fIsi (mCons (mVar 0) (mCons (mC (.ty "bool")) mNil)))) (mBin fEq (mVar 0) (mVar 1))))) kSkip)
  (kSeq (kIf (mTru (mFn fIsi (mCons (mVar 1) (mCons (mC (.ty "str")) mNil)))) (kRet (mAndV (mFn fIsi (mCons (mVar 0) (mCons (mC (.ty "str")) mNil))) (mBin fEq (mVar 0) (mVar 1)))) kSkip)
  (kSeq (kIf (mTru (mFn fIsi (mCons (mVar 1) (mCons (mC (.ty "tuple")) mNil)))) (kSeq (kIf (mOrT (mNotT (mTru (mFn fIsi (mCons (mVar 0) (mCons (mC (.ty "tuple")) mNil))))) (mB (mBin fNe (mFn fLen (mCons (mVar 0) mNil)) (mFn fLen (mCons (mVar 1) mNil))))) (kRet (mC (.bl false))) kSkip)
  (kSeq (kFor (iRng1 (mCons (mFn fLen (mCons (mVar 1) mNil)) mNil)) (gN 2) (kIf (mNotT (mTru (mCall mself (mCons (mBin fIx (mVar 0) (mVar 2)) (mCons (mBin fIx (mVar 1) (mVar 2)) mNil))))) (kRet (mC (.bl false))) kSkip))
  (kRet (mC (.bl true))))) kSkip)
  (kSeq (kIf (mOrT (mNotT (mTru (mFn fIsi (mCons (mVar 1) (mCons (mC (.ty "list")) mNil))))) (mOrT (mNotT (mTru (mFn fIsi (mCons (mVar 0) (mCons (mC (.ty "list")) mNil))))) (mB (mBin fNe (mFn fLen (mCons (mVar 0) mNil)) (mFn fLen (mCons (mVar 1) mNil)))))) (kRet (mC (.bl false))) kSkip)
  (kSeq (kFor (iRng1 (mCons (mFn fLen (mCons (mVar 1) mNil)) mNil)) (gN 2) (kIf (mNotT (mTru (mCall mself (mCons (mBin fIx (mVar 0) (mVar 2)) (mCons (mBin fIx (mVar 1) (mVar 2)) mNil))))) (kRet (mC (.bl false))) kSkip))
  (kRet (mC (.bl true))))))))))
def m_law_same : Nat → MF
  | 0 => fun _ _ => .no
  | n + 1 => mDef 3 (b_law_same (m_law_same n))
/-- the slots of _law_any_tree: 0 _law_tape_here, 1 _law_words_here, 2 _law_most, 3 _law_row, 4 _law_need, 5 _law_k, 6 _law_many, 7 _law_word_here -/
abbrev N_law_any_tree : List Str := ["_law_tape_here", "_law_words_here", "_law_most", "_law_row", "_law_need", "_law_k", "_law_many", "_law_word_here"]
def b_law_any_tree : MS := (kSeq (kSet 3 (mLst mNil))
  (kSeq (kSet 4 (mC (.int 1)))
  (kSeq (kFor (iRng1 (mCons (mVar 2) mNil)) (gN 5) (kIf (mB (mBin fGt (mVar 4) (mC (.int 0)))) (kSeq (kSet 6 (mCall m_law_draw (mCons (mVar 0) (mCons (mBin fAdd (mC (.int 1)) (mFn fMin2 (mCons (mC (.int 4)) (mCons (mBin fSub (mBin fSub (mVar 2) (mFn fLen (mCons (mVar 3) mNil))) (mVar 4)) mNil)))) mNil))))
  (kSeq (kIf (mAndT (mB (mBin fEq (mVar 6) (mC (.int 0)))) (mAndT (mB (mBin fEq (mVar 4) (mC (.int 1)))) (mB (mBin fLt (mVar 5) (mC (.int 2)))))) (kSet 6 (mCall m_law_draw (mCons (mVar 0) (mCons (mBin fAdd (mC (.int 1)) (mFn fMin2 (mCons (mC (.int 4)) (mCons (mBin fSub (mBin fSub (mVar 2) (mFn fLen (mCons (mVar 3) mNil))) (mVar 4)) mNil)))) mNil)))) kSkip)
  (kSeq (kSet 7 (mBin fIx (mVar 1) (mCall m_law_draw (mCons (mVar 0) (mCons (mFn fLen (mCons (mVar 1) mNil)) mNil)))))
  (kSeq (kIf (mAndT (mB (mBin fEq (mVar 6) (mC (.int 0)))) (mB (mBin fEq (mCall m_law_draw (mCons (mVar 0) (mCons (mC (.int 5)) mNil))) (mC (.int 1))))) (kSet 7 (mC (.str "."))) kSkip)
  (kSeq (kExpr (mM fAppend (mRecv "list" (mVar 3)) (mCons (mTup (mCons (mVar 7) (mCons (mVar 6) mNil))) mNil)))
  (kSet 4 (mBin fSub (mBin fAdd (mVar 4) (mVar 6)) (mC (.int 1))))))))) kSkip))
  (kRet (mFn fTuple (mCons (mVar 3) mNil))))))
def m_law_any_tree : MF := mDef 8 b_law_any_tree
/-- the slots of _law_show: 0 _law_tree, 1 _law_left, 2 _law_k, 3 _law_symbol, 4 _law_parts, 5 _law_part -/
abbrev N_law_show : List Str := ["_law_tree", "_law_left", "_law_k", "_law_symbol", "_law_parts", "_law_part"]
def b_law_show : MS := (kSeq (kSet 1 (mLst mNil))
  (kSeq (kFor (iRng1 (mCons (mFn fLen (mCons (mVar 0) mNil)) mNil)) (gN 2) (kSeq (kSet 3 (mBin fIx (mVar 0) (mBin fSub (mBin fSub (mFn fLen (mCons (mVar 0) mNil)) (mC (.int 1))) (mVar 2))))
  (kSeq (kSet 4 (mLc (iRng1 (mCons (mBin fIx (mVar 3) (mC (.int 1))) mNil)) [5] (gN 5) mYes (mM0 fPop (mRecv "list" (mVar 1)))))
  (kIf (mB (mBin fEq (mBin fIx (mVar 3) (mC (.int 1))) (mC (.int 0)))) (kExpr (mM fAppend (mRecv "list" (mVar 1)) (mCons (mBin fIx (mVar 3) (mC (.int 0))) mNil))) (kExpr (mM fAppend (mRecv "list" (mVar 1)) (mCons (mBin fAdd (mBin fAdd (mBin fAdd (mBin fIx (mVar 3) (mC (.int 0))) (mC (.str "("))) (mM fJoin (mRecv "str" (mC (.str ","))) (mCons (mVar 4) mNil))) (mC (.str ")"))) mNil)))))))
  (kRet (mBin fIx (mVar 1) (mC (.int 0))))))
def m_law_show : MF := mDef 6 b_law_show
/-- the slots of _law_word: 0 _law_text, 1 _law_sign_here -/
abbrev N_law_word : List Str := ["_law_text", "_law_sign_here"]
def b_law_word : MS := (kSeq (kIf (mB (mBin fEq (mVar 0) (mC (.str ".")))) (kRet (mC (.bl true))) kSkip)
  (kSeq (kIf (mOrT (mB (mBin fLt (mFn fLen (mCons (mVar 0) mNil)) (mC (.int 1)))) (mOrT (mB (mBin fGt (mFn fLen (mCons (mVar 0) mNil)) (mC (.int 16)))) (mB (mBin fNotInS (mBin fIx (mVar 0) (mC (.int 0))) (mC (.str "abcdefghijklmnopqrstuvwxyz")))))) (kRet (mC (.bl false))) kSkip)
  (kRet (mBin fEq (mFn fLen (mCons (mLc (iVal (mVar 0)) [1] (gN 1) (mB (mBin fNotInS (mVar 1) (mC (.str "abcdefghijklmnopqrstuvwxyz0123456789-")))) (mVar 1)) mNil)) (mC (.int 0))))))
def m_law_word : MF := mDef 2 b_law_word
/-- the slots of _law_parted: 0 _law_text, 1 _law_rows_here, 2 _law_word_here, 3 _law_sign_here -/
abbrev N_law_parted : List Str := ["_law_text", "_law_rows_here", "_law_word_here", "_law_sign_here"]
def b_law_parted : MS := (kSeq (kSet 1 (mLst mNil))
  (kSeq (kSet 2 (mC (.str "")))
  (kSeq (kFor (iVal (mVar 0)) (gN 3) (kIf (mB (mBin fInS (mVar 3) (mC (.str "(),")))) (kSeq (kIf (mB (mBin fNe (mVar 2) (mC (.str "")))) (kExpr (mM fAppend (mRecv "list" (mVar 1)) (mCons (mVar 2) mNil))) kSkip)
  (kSeq (kExpr (mM fAppend (mRecv "list" (mVar 1)) (mCons (mVar 3) mNil)))
  (kSet 2 (mC (.str ""))))) (kSet 2 (mBin fAdd (mVar 2) (mVar 3)))))
  (kSeq (kIf (mB (mBin fNe (mVar 2) (mC (.str "")))) (kExpr (mM fAppend (mRecv "list" (mVar 1)) (mCons (mVar 2) mNil))) kSkip)
  (kRet (mVar 1))))))
def m_law_parted : MF := mDef 4 b_law_parted
/-- the slots of _law_read: 0 _law_text, 1 _law_row, 2 _law_inside, 3 _law_due_here, 4 _law_fresh, 5 _law_token, 6 _law_pair -/
abbrev N_law_read : List Str := ["_law_text", "_law_row", "_law_inside", "_law_due_here", "_law_fresh", "_law_token", "_law_pair"]
def b_law_read : MS := (kSeq (kSet 1 (mLst mNil))
  (kSeq (kSet 2 (mLst mNil))
  (kSeq (kSet 3 (mC (.bl true)))
  (kSeq (kSet 4 (mC (.bl false)))
  (kSeq (kFor (iVal (mCall m_law_parted (mCons (mVar 0) mNil))) (gN 5) (kIf (mTru (mVar 3)) (kSeq (kIf (mNotT (mTru (mCall m_law_word (mCons (mVar 5) mNil)))) (kRet (mC .non)) kSkip)
  (kSeq (kExpr (mM fAppend (mRecv "list" (mVar 1)) (mCons (mLst (mCons (mVar 5) (mCons (mC (.int 0)) mNil))) mNil)))
  (kSeq (kSet 3 (mC (.bl false)))
  (kSet 4 (mC (.bl true)))))) (kIf (mB (mBin fEq (mVar 5) (mC (.str "(")))) (kSeq (kIf (mOrT (mNotT (mTru (mVar 4))) (mB (mBin fEq (mBin fIx (mBin fIx (mVar 1) (mNeg (mC (.int 1)))) (mC (.int 0))) (mC (.str "."))))) (kRet (mC .non)) kSkip)
  (kSeq (kExpr (mM fAppend (mRecv "list" (mVar 2)) (mCons (mBin fSub (mFn fLen (mCons (mVar 1) mNil)) (mC (.int 1))) mNil)))
  (kSeq (kSetIx (mBin fIx (mVar 1) (mNeg (mC (.int 1)))) (mC (.int 1)) (mC (.int 1)))
  (kSet 3 (mC (.bl true)))))) (kIf (mAndT (mB (mBin fEq (mVar 5) (mC (.str ",")))) (mAndT (mB (mBin fGt (mFn fLen (mCons (mVar 2) mNil)) (mC (.int 0)))) (mB (mBin fLt (mBin fIx (mBin fIx (mVar 1) (mBin fIx (mVar 2) (mNeg (mC (.int 1))))) (mC (.int 1))) (mC (.int 4)))))) (kSeq (kSetIx (mBin fIx (mVar 1) (mBin fIx (mVar 2) (mNeg (mC (.int 1))))) (mC (.int 1)) (mBin fAdd (mBin fIx (mBin fIx (mVar 1) (mBin fIx (mVar 2) (mNeg (mC (.int 1))))) (mC (.int 1))) (mC (.int 1))))
  (kSet 3 (mC (.bl true)))) (kIf (mAndT (mB (mBin fEq (mVar 5) (mC (.str ")")))) (mB (mBin fGt (mFn fLen (mCons (mVar 2) mNil)) (mC (.int 0))))) (kSeq (kExpr (mM0 fPop (mRecv "list" (mVar 2))))
  (kSet 4 (mC (.bl false)))) (kRet (mC .non)))))))
  (kSeq (kIf (mOrT (mTru (mVar 3)) (mB (mBin fGt (mFn fLen (mCons (mVar 2) mNil)) (mC (.int 0))))) (kRet (mC .non)) kSkip)
  (kRet (mFn fTuple (mCons (mLc (iVal (mVar 1)) [6] (gN 6) mYes (mTup (mCons (mBin fIx (mVar 6) (mC (.int 0))) (mCons (mBin fIx (mVar 6) (mC (.int 1))) mNil)))) mNil)))))))))
def m_law_read : MF := mDef 7 b_law_read
/-- the slots of _law_figures: 0 _law_text, 1 _law_most, 2 _law_sign_here -/
abbrev N_law_figures : List Str := ["_law_text", "_law_most", "_law_sign_here"]
def b_law_figures : MS := (kSeq (kIf (mOrT (mB (mBin fLt (mFn fLen (mCons (mVar 0) mNil)) (mC (.int 1)))) (mOrT (mB (mBin fGt (mFn fLen (mCons (mVar 0) mNil)) (mVar 1))) (mAndT (mB (mBin fEq (mBin fIx (mVar 0) (mC (.int 0))) (mC (.str "0")))) (mB (mBin fGt (mFn fLen (mCons (mVar 0) mNil)) (mC (.int 1))))))) (kRet (mC (.bl false))) kSkip)
  (kRet (mBin fEq (mFn fLen (mCons (mLc (iVal (mVar 0)) [2] (gN 2) (mB (mBin fNotInS (mVar 2) (mC (.str "0123456789")))) (mVar 2)) mNil)) (mC (.int 0)))))
def m_law_figures : MF := mDef 3 b_law_figures
/-- the slots of _law_count: 0 _law_tape_here, 1 _law_mode, 2 _law_value, 3 _law_k -/
abbrev N_law_count : List Str := ["_law_tape_here", "_law_mode", "_law_value", "_law_k"]
def b_law_count : MS := (kSeq (kSet 1 (mCall m_law_draw (mCons (mVar 0) (mCons (mC (.int 4)) mNil))))
  (kSeq (kIf (mB (mBin fLt (mVar 1) (mC (.int 2)))) (kRet (mCall m_law_draw (mCons (mVar 0) (mCons (mC (.int 12)) mNil)))) kSkip)
  (kSeq (kSet 2 (mBin fAdd (mC (.int 1)) (mCall m_law_draw (mCons (mVar 0) (mCons (mC (.int 9)) mNil)))))
  (kSeq (kIf (mB (mBin fEq (mVar 1) (mC (.int 3)))) (kFor (iRng1 (mCons (mCall m_law_draw (mCons (mVar 0) (mCons (mC (.int 60)) mNil))) mNil)) (gN 3) (kSet 2 (mBin fAdd (mBin fMulA (mC (.int 10)) (mVar 2)) (mCall m_law_draw (mCons (mVar 0) (mCons (mC (.int 10)) mNil)))))) kSkip)
  (kRet (mVar 2))))))
def m_law_count : MF := mDef 4 b_law_count
/-- the slots of _law_chain: 0 _law_tape_here, 1 _law_words_here, 2 _law_sizes, 3 _law_rows_here, 4 _law_size, 5 _law_k -/
abbrev N_law_chain : List Str := ["_law_tape_here", "_law_words_here", "_law_sizes", "_law_rows_here", "_law_size", "_law_k"]
def b_law_chain : MS := (kSeq (kSet 3 (mLst mNil))
  (kSeq (kFor (iVal (mVar 2)) (gN 4) (kIf (mB (mBin fEq (mCall m_law_draw (mCons (mVar 0) (mCons (mC (.int 2)) mNil))) (mC (.int 1)))) (kExpr (mM fAppend (mRecv "list" (mVar 3)) (mCons (mTup (mCons (mC (.str "given")) (mCons (mCall m_law_any_tree (mCons (mVar 0) (mCons (mVar 1) (mCons (mVar 4) mNil)))) mNil))) mNil))) (kExpr (mM fAppend (mRecv "list" (mVar 3)) (mCons (mFn fTuple (mCons (mBin fAdd (mLst (mCons (mC (.str "put")) mNil)) (mLc (iRng1 (mCons (mC (.int 5)) mNil)) [5] (gN 5) mYes (mCall m_law_count (mCons (mVar 0) mNil)))) mNil)) mNil)))))
  (kRet (mFn fTuple (mCons (mVar 3) mNil)))))
def m_law_chain : MF := mDef 6 b_law_chain
/-- the slots of _law_rows: 0 _law_tape_here, 1 _law_words_here, 2 _law_sizes, 3 _law_rows_here, 4 _law_size, 5 _law_word_here, 6 _law_tree, 7 _law_part -/
abbrev N_law_rows : List Str := ["_law_tape_here", "_law_words_here", "_law_sizes", "_law_rows_here", "_law_size", "_law_word_here", "_law_tree", "_law_part"]
def b_law_rows : MS := (kSeq (kSet 3 (mLst mNil))
  (kSeq (kFor (iVal (mVar 2)) (gN 4) (kSeq (kSet 5 (mBin fIx (mLst (mCons (mC (.str "down")) (mCons (mC (.str "root")) (mCons (mC (.str "up")) (mCons (mC (.str "down")) mNil))))) (mCall m_law_draw (mCons (mVar 0) (mCons (mC (.int 4)) mNil)))))
  (kSeq (kSet 6 (mCall m_law_any_tree (mCons (mVar 0) (mCons (mVar 1) (mCons (mVar 4) mNil)))))
  (kSeq (kSet 7 (mC (.int 0)))
  (kSeq (kIf (mB (mBin fEq (mVar 5) (mC (.str "down")))) (kSet 7 (mCall m_law_count (mCons (mVar 0) mNil))) kSkip)
  (kExpr (mM fAppend (mRecv "list" (mVar 3)) (mCons (mTup (mCons (mVar 5) (mCons (mVar 6) (mCons (mCall m_law_any_tree (mCons (mVar 0) (mCons (mVar 1) (mCons (mBin fAdd (mC (.int 1)) (mCall m_law_draw (mCons (mVar 0) (mCons (mC (.int 12)) mNil)))) mNil)))) (mCons (mVar 7) mNil))))) mNil))))))))
  (kRet (mFn fTuple (mCons (mVar 3) mNil)))))
def m_law_rows : MF := mDef 8 b_law_rows
/-- the slots of _law_chain_line: 0 _law_line, 1 _law_number -/
abbrev N_law_chain_line : List Str := ["_law_line", "_law_number"]
def b_law_chain_line : MS := (kSeq (kIf (mB (mBin fEq (mBin fIx (mVar 0) (mC (.int 0))) (mC (.str "given")))) (kRet (mBin fAdd (mC (.str "given ")) (mCall m_law_show (mCons (mBin fIx (mVar 0) (mC (.int 1))) mNil)))) kSkip)
  (kRet (mM fJoin (mRecv "str" (mC (.str " "))) (mCons (mBin fAdd (mLst (mCons (mC (.str "put")) mNil)) (mLc (iVal (mSl (mVar 0) (mOS (mC (.int 1))) mON)) [1] (gN 1) mYes (mFn fStr (mCons (mVar 1) mNil)))) mNil))))
def m_law_chain_line : MF := mDef 2 b_law_chain_line
/-- the slots of _law_join_line: 0 _law_join -/
abbrev N_law_join_line : List Str := ["_law_join"]
def b_law_join_line : MS := (kSeq (kIf (mB (mBin fEq (mBin fIx (mVar 0) (mC (.int 0))) (mC (.str "down")))) (kRet (mBin fAdd (mBin fAdd (mBin fAdd (mBin fAdd (mBin fAdd (mC (.str "down ")) (mFn fStr (mCons (mBin fIx (mVar 0) (mC (.int 3))) mNil))) (mC (.str " "))) (mCall m_law_show (mCons (mBin fIx (mVar 0) (mC (.int 1))) mNil))) (mC (.str " "))) (mCall m_law_show (mCons (mBin fIx (mVar 0) (mC (.int 2))) mNil)))) kSkip)
  (kRet (mBin fAdd (mBin fAdd (mBin fAdd (mBin fAdd (mBin fIx (mVar 0) (mC (.int 0))) (mC (.str " "))) (mCall m_law_show (mCons (mBin fIx (mVar 0) (mC (.int 1))) mNil))) (mC (.str " "))) (mCall m_law_show (mCons (mBin fIx (mVar 0) (mC (.int 2))) mNil)))))
def m_law_join_line : MF := mDef 1 b_law_join_line
/-- the slots of _law_fields: 0 _law_line, 1 _law_shapes, 2 _law_fields_here, 3 _law_kinds, 4 _law_shape, 5 _law_values, 6 _law_k -/
abbrev N_law_fields : List Str := ["_law_line", "_law_shapes", "_law_fields_here", "_law_kinds", "_law_shape", "_law_values", "_law_k"]
def b_law_fields : MS := (kSeq (kSet 2 (mM fSplit (mRecv "str" (mVar 0)) (mCons (mC (.str " ")) mNil)))
  (kSeq (kSet 3 (mC (.str "")))
  (kSeq (kFor (iVal (mVar 1)) (gN 4) (kIf (mB (mBin fEq (mBin fIx (mVar 4) (mC (.int 0))) (mBin fIx (mVar 2) (mC (.int 0))))) (kSet 3 (mBin fIx (mVar 4) (mC (.int 1)))) kSkip))
  (kSeq (kIf (mB (mBin fEq (mVar 3) (mC (.str "")))) (kRet (mTup (mCons (mC .non) (mCons (mC (.int 0)) mNil)))) kSkip)
  (kSeq (kSet 5 (mLst (mCons (mBin fIx (mVar 2) (mC (.int 0))) mNil)))
  (kSeq (kFor (iRng2 (mCons (mC (.int 1)) (mCons (mFn fLen (mCons (mVar 2) mNil)) mNil))) (gN 6) (kSeq (kIf (mB (mBin fGt (mVar 6) (mFn fLen (mCons (mVar 3) mNil)))) (kRet (mTup (mCons (mC .non) (mCons (mVar 6) mNil)))) kSkip)
  (kIf (mB (mBin fEq (mBin fIx (mVar 3) (mBin fSub (mVar 6) (mC (.int 1)))) (mC (.str "n")))) (kSeq (kIf (mNotT (mTru (mCall m_law_figures (mCons (mBin fIx (mVar 2) (mVar 6)) (mCons (mC (.int 60)) mNil))))) (kRet (mTup (mCons (mC .non) (mCons (mVar 6) mNil)))) kSkip)
  (kExpr (mM fAppend (mRecv "list" (mVar 5)) (mCons (mFn fInt (mCons (mBin fIx (mVar 2) (mVar 6)) mNil)) mNil)))) (kSeq (kExpr (mM fAppend (mRecv "list" (mVar 5)) (mCons (mCall m_law_read (mCons (mBin fIx (mVar 2) (mVar 6)) mNil)) mNil)))
  (kIf (mB (mBin fIsN (mBin fIx (mVar 5) (mNeg (mC (.int 1)))) (mC .non))) (kRet (mTup (mCons (mC .non) (mCons (mVar 6) mNil)))) kSkip)))))
  (kSeq (kIf (mB (mBin fLt (mFn fLen (mCons (mVar 5) mNil)) (mBin fAdd (mFn fLen (mCons (mVar 3) mNil)) (mC (.int 1))))) (kRet (mTup (mCons (mC .non) (mCons (mFn fLen (mCons (mVar 5) mNil)) mNil)))) kSkip)
  (kRet (mTup (mCons (mFn fTuple (mCons (mVar 5) mNil)) (mCons (mNeg (mC (.int 1))) mNil)))))))))))
def m_law_fields : MF := mDef 7 b_law_fields
/-- the slots of _law_due: 0 _law_text, 1 _law_chain_here, 2 _law_shapes, 3 _law_rows_here, 4 _law_lines, 5 _law_k, 6 _law_told_here, 7 _law_row -/
abbrev N_law_due : List Str := ["_law_text", "_law_chain_here", "_law_shapes", "_law_rows_here", "_law_lines", "_law_k", "_law_told_here", "_law_row"]
def b_law_due : MS := (kSeq (kSet 2 (mLst (mCons (mTup (mCons (mC (.str "root")) (mCons (mC (.str "tt")) mNil))) (mCons (mTup (mCons (mC (.str "up")) (mCons (mC (.str "tt")) mNil))) (mCons (mTup (mCons (mC (.str "down")) (mCons (mC (.str "ntt")) mNil))) mNil)))))
  (kSeq (kIf (mTru (mVar 1)) (kSet 2 (mLst (mCons (mTup (mCons (mC (.str "given")) (mCons (mC (.str "t")) mNil))) (mCons (mTup (mCons (mC (.str "put")) (mCons (mC (.str "nnnnn")) mNil))) mNil)))) kSkip)
  (kSeq (kIf (mB (mBin fEq (mVar 0) (mC (.str "")))) (kRet (mTup (mCons (mC (.str "told")) (mCons (mTup mNil) mNil)))) kSkip)
  (kSeq (kSet 3 (mLst mNil))
  (kSeq (kSet 4 (mM fSplit (mRecv "str" (mVar 0)) (mCons (mC (.str "\n")) mNil)))
  (kSeq (kFor (iRng1 (mCons (mFn fLen (mCons (mVar 4) mNil)) mNil)) (gN 5) (kSeq (kSet 6 (mCall m_law_fields (mCons (mBin fIx (mVar 4) (mVar 5)) (mCons (mVar 2) mNil))))
  (kSeq (kIf (mB (mBin fIsN (mBin fIx (mVar 6) (mC (.int 0))) (mC .non))) (kRet (mTup (mCons (mC (.str "fault")) (mCons (mVar 5) (mCons (mBin fIx (mVar 6) (mC (.int 1))) mNil))))) kSkip)
  (kSeq (kSet 7 (mBin fIx (mVar 6) (mC (.int 0))))
  (kSeq (kIf (mAndT (mNotT (mTru (mVar 1))) (mB (mBin fEq (mBin fIx (mVar 7) (mC (.int 0))) (mC (.str "down"))))) (kSet 7 (mTup (mCons (mBin fIx (mVar 7) (mC (.int 0))) (mCons (mBin fIx (mVar 7) (mC (.int 2))) (mCons (mBin fIx (mVar 7) (mC (.int 3))) (mCons (mBin fIx (mVar 7) (mC (.int 1))) mNil)))))) (kIf (mNotT (mTru (mVar 1))) (kSet 7 (mTup (mCons (mBin fIx (mVar 7) (mC (.int 0))) (mCons (mBin fIx (mVar 7) (mC (.int 1))) (mCons (mBin fIx (mVar 7) (mC (.int 2))) (mCons (mC (.int 0)) mNil)))))) kSkip))
  (kExpr (mM fAppend (mRecv "list" (mVar 3)) (mCons (mVar 7) mNil))))))))
  (kRet (mTup (mCons (mC (.str "told")) (mCons (mFn fTuple (mCons (mVar 3) mNil)) mNil))))))))))
def m_law_due : MF := mDef 8 b_law_due
/-- the slots of _law_told: 0 _law_text, 1 _law_chain_here, 2 e -/
abbrev N_law_told : List Str := ["_law_text", "_law_chain_here", "e"]
def b_law_told : MS := (kTry errs [("InvalidText", some 2, fun fs => (kRet (mTup (mCons (mC (.str "fault")) (mCons (mXf fs "line") (mCons (mXf fs "at") mNil)))))), ("NotUsable", some 2, fun fs => (kRet (mTup (mCons (mC (.str "refused")) (mCons (mXf fs "word") (mCons (mXf fs "at") mNil))))))] (kSeq (kIf (mTru (mVar 1)) (kRet (mTup (mCons (mC (.str "told")) (mCons (mCall m_read_chain (mCons (mVar 0) mNil)) mNil)))) kSkip)
  (kRet (mTup (mCons (mC (.str "told")) (mCons (mCall m_read_joins (mCons (mVar 0) mNil)) mNil))))))
def m_law_told : MF := mDef 3 b_law_told
/-- the slots of _law_sign: 0 _law_tape_here, 1 _law_signs -/
abbrev N_law_sign : List Str := ["_law_tape_here", "_law_signs"]
def b_law_sign : MS := (kSeq (kIf (mB (mBin fEq (mCall m_law_draw (mCons (mVar 0) (mCons (mC (.int 2)) mNil))) (mC (.int 1)))) (kRet (mBin fIx (mC (.str " (),.01a-?\nzA")) (mCall m_law_draw (mCons (mVar 0) (mCons (mC (.int 13)) mNil))))) kSkip)
  (kSeq (kSet 1 (mC (.str " !\"#$&'()*+,-./0123456789:;<=>?@ABCDEFGHIJKLMNOPQRSTUVWXYZ[\\]^_`abcdefghijklmnopqrstuvwxyz{|}~")))
  (kRet (mBin fIx (mVar 1) (mCall m_law_draw (mCons (mVar 0) (mCons (mFn fLen (mCons (mVar 1) mNil)) mNil)))))))
def m_law_sign : MF := mDef 2 b_law_sign
/-- the slots of _law_odd: 0 _law_tape_here, 1 _law_odds -/
abbrev N_law_odd : List Str := ["_law_tape_here", "_law_odds"]
def b_law_odd : MS := (kSeq (kSet 1 (mLst (mCons (mC (.str "")) (mCons (mC (.str "0")) (mCons (mC (.str "00")) (mCons (mC (.str "01")) (mCons (mC (.str "-1")) (mCons (mC (.str "+1")) (mCons (mC (.str "1.0")) (mCons (mC (.str "x")) (mCons (mC (.str "f()")) (mCons (mC (.str "f(a")) (mCons (mC (.str "a)")) (mCons (mC (.str "?")) (mCons (mC (.str "f(?)")) (mCons (mC (.str ".")) (mCons (mC (.str ".(a)")) (mCons (mC (.str "f(a,a,a,a)")) mNil))))))))))))))))))
  (kSeq (kSet 1 (mBin fAdd (mVar 1) (mLst (mCons (mC (.str "f(a,a,a,a,a)")) (mCons (mC (.str "A")) (mCons (mC (.str "a234567890123456")) (mCons (mC (.str "a2345678901234567")) (mCons (mC (.str "put")) (mCons (mC (.str "given")) (mCons (mC (.str "root")) (mCons (mC (.str "up")) (mCons (mC (.str "down")) mNil))))))))))))
  (kSeq (kSet 1 (mBin fAdd (mVar 1) (mLst (mCons (mBin fAdd (mC (.str "1")) (mBin fMulA (mC (.str "0")) (mC (.int 59)))) (mCons (mBin fAdd (mC (.str "1")) (mBin fMulA (mC (.str "0")) (mC (.int 60)))) (mCons (mBin fMulA (mC (.str "9")) (mC (.int 60))) (mCons (mBin fMulA (mC (.str "9")) (mC (.int 61))) (mCons (mC (.str "1_0")) (mCons (mC (.str "f(a)(a)")) (mCons (mC (.str "f(,a)")) (mCons (mC (.str "f(a,)")) (mCons (mC (.str "a,a")) (mCons (mC (.str "(a)")) (mCons (mC (.str "-a")) mNil))))))))))))))
  (kRet (mBin fIx (mVar 1) (mCall m_law_draw (mCons (mVar 0) (mCons (mFn fLen (mCons (mVar 1) mNil)) mNil))))))))
def m_law_odd : MF := mDef 2 b_law_odd
/-- the slots of _law_odd_line: 0 _law_tape_here, 1 _law_kinds, 2 _law_fields_here, 3 _law_field, 4 _law_odd_here -/
abbrev N_law_odd_line : List Str := ["_law_tape_here", "_law_kinds", "_law_fields_here", "_law_field", "_law_odd_here"]
def b_law_odd_line : MS := (kSeq (kSet 1 (mLst (mCons (mC (.str "given a")) (mCons (mC (.str "put 0 3 12 0 7")) (mCons (mC (.str "root a f(a)")) (mCons (mC (.str "up f(b) .")) (mCons (mC (.str "down 2 g(a,b) a")) (mCons (mC (.str "down 0 a b")) (mCons (mC (.str "put 1 1 1 1 1")) mNil)))))))))
  (kSeq (kSet 2 (mM fSplit (mRecv "str" (mBin fIx (mVar 1) (mCall m_law_draw (mCons (mVar 0) (mCons (mC (.int 7)) mNil))))) (mCons (mC (.str " ")) mNil)))
  (kSeq (kSet 3 (mCall m_law_draw (mCons (mVar 0) (mCons (mFn fLen (mCons (mVar 2) mNil)) mNil))))
  (kSeq (kSet 4 (mCall m_law_odd (mCons (mVar 0) mNil)))
  (kSeq (kIf (mAndT (mB (mBin fGt (mCall m_law_draw (mCons (mVar 0) (mCons (mC (.int 4)) mNil))) (mC (.int 0)))) (mB (mBin fInS (mBin fIx (mBin fIx (mVar 2) (mVar 3)) (mC (.int 0))) (mC (.str "0123456789"))))) (kSet 4 (mBin fIx (mLst (mCons (mC (.str "00")) (mCons (mC (.str "01")) (mCons (mC (.str "-1")) (mCons (mC (.str "")) (mCons (mBin fMulA (mC (.str "9")) (mC (.int 60))) (mCons (mBin fMulA (mC (.str "9")) (mC (.int 61))) (mCons (mBin fAdd (mC (.str "1")) (mBin fMulA (mC (.str "0")) (mC (.int 59)))) (mCons (mBin fAdd (mC (.str "0")) (mBin fMulA (mC (.str "1")) (mC (.int 59)))) (mCons (mC (.str "a")) (mCons (mC (.str "10")) mNil))))))))))) (mCall m_law_draw (mCons (mVar 0) (mCons (mC (.int 10)) mNil))))) kSkip)
  (kSeq (kSetIx (mVar 2) (mVar 3) (mVar 4))
  (kRet (mM fJoin (mRecv "str" (mC (.str " "))) (mCons (mVar 2) mNil)))))))))
def m_law_odd_line : MF := mDef 5 b_law_odd_line
/-- the slots of _law_lines_bent: 0 _law_tape_here, 1 _law_lines, 2 _law_mode, 3 _law_at, 4 _law_fields_here, 5 _law_field -/
abbrev N_law_lines_bent : List Str := ["_law_tape_here", "_law_lines", "_law_mode", "_law_at", "_law_fields_here", "_law_field"]
def b_law_lines_bent : MS := (kSeq (kSet 2 (mCall m_law_draw (mCons (mVar 0) (mCons (mC (.int 5)) mNil))))
  (kSeq (kSet 3 (mCall m_law_draw (mCons (mVar 0) (mCons (mFn fLen (mCons (mVar 1) mNil)) mNil))))
  (kSeq (kSet 4 (mM fSplit (mRecv "str" (mBin fIx (mVar 1) (mVar 3))) (mCons (mC (.str " ")) mNil)))
  (kSeq (kSet 5 (mCall m_law_draw (mCons (mVar 0) (mCons (mFn fLen (mCons (mVar 4) mNil)) mNil))))
  (kSeq (kIf (mB (mBin fEq (mVar 2) (mC (.int 0)))) (kRet (mBin fAdd (mSl (mVar 1) mON (mOS (mVar 3))) (mSl (mVar 1) (mOS (mBin fAdd (mVar 3) (mC (.int 1)))) mON))) kSkip)
  (kSeq (kIf (mB (mBin fEq (mVar 2) (mC (.int 1)))) (kRet (mBin fAdd (mVar 1) (mLst (mCons (mBin fIx (mVar 1) (mVar 3)) mNil)))) kSkip)
  (kSeq (kIf (mB (mBin fEq (mVar 2) (mC (.int 2)))) (kRet (mBin fAdd (mBin fAdd (mLst (mCons (mM fJoin (mRecv "str" (mC (.str " "))) (mCons (mBin fAdd (mSl (mVar 4) mON (mOS (mVar 5))) (mSl (mVar 4) (mOS (mBin fAdd (mVar 5) (mC (.int 1)))) mON)) mNil)) mNil)) (mSl (mVar 1) mON (mOS (mVar 3)))) (mSl (mVar 1) (mOS (mBin fAdd (mVar 3) (mC (.int 1)))) mON))) kSkip)
  (kSeq (kIf (mB (mBin fEq (mVar 2) (mC (.int 3)))) (kSet 4 (mBin fAdd (mBin fAdd (mSl (mVar 4) mON (mOS (mVar 5))) (mLst (mCons (mCall m_law_odd (mCons (mVar 0) mNil)) mNil))) (mSl (mVar 4) (mOS (mVar 5)) mON))) (kSetIx (mVar 4) (mVar 5) (mCall m_law_odd (mCons (mVar 0) mNil))))
  (kRet (mBin fAdd (mBin fAdd (mSl (mVar 1) mON (mOS (mVar 3))) (mLst (mCons (mM fJoin (mRecv "str" (mC (.str " "))) (mCons (mVar 4) mNil)) mNil))) (mSl (mVar 1) (mOS (mBin fAdd (mVar 3) (mC (.int 1)))) mON)))))))))))
def m_law_lines_bent : MF := mDef 6 b_law_lines_bent
/-- the slots of _law_bent: 0 _law_tape_here, 1 _law_text, 2 _law_mode, 3 _law_at -/
abbrev N_law_bent : List Str := ["_law_tape_here", "_law_text", "_law_mode", "_law_at"]
def b_law_bent : MS := (kSeq (kSet 2 (mCall m_law_draw (mCons (mVar 0) (mCons (mC (.int 8)) mNil))))
  (kSeq (kSet 3 (mCall m_law_draw (mCons (mVar 0) (mCons (mBin fAdd (mFn fLen (mCons (mVar 1) mNil)) (mC (.int 1))) mNil))))
  (kSeq (kIf (mB (mBin fEq (mVar 2) (mC (.int 0)))) (kRet (mBin fAdd (mBin fAdd (mSl (mVar 1) mON (mOS (mVar 3))) (mCall m_law_sign (mCons (mVar 0) mNil))) (mSl (mVar 1) (mOS (mVar 3)) mON))) kSkip)
  (kSeq (kIf (mB (mBin fEq (mVar 2) (mC (.int 1)))) (kRet (mBin fAdd (mSl (mVar 1) mON (mOS (mVar 3))) (mSl (mVar 1) (mOS (mBin fAdd (mVar 3) (mC (.int 1)))) mON))) kSkip)
  (kSeq (kIf (mB (mBin fEq (mVar 2) (mC (.int 2)))) (kRet (mSl (mVar 1) mON (mOS (mVar 3)))) kSkip)
  (kSeq (kIf (mB (mBin fEq (mVar 2) (mC (.int 3)))) (kRet (mBin fIx (mLst (mCons (mBin fAdd (mVar 1) (mC (.str "\n"))) (mCons (mBin fAdd (mVar 1) (mC (.str " "))) (mCons (mBin fAdd (mC (.str " ")) (mVar 1)) (mCons (mBin fAdd (mC (.str "\n")) (mVar 1)) (mCons (mBin fAdd (mVar 1) (mC (.str "\n\n"))) (mCons (mBin fAdd (mVar 1) (mC (.str "\nput 0 0 0 0 0"))) mNil))))))) (mCall m_law_draw (mCons (mVar 0) (mCons (mC (.int 6)) mNil))))) kSkip)
  (kSeq (kIf (mB (mBin fEq (mVar 2) (mC (.int 4)))) (kRet (mBin fAdd (mBin fAdd (mSl (mVar 1) mON (mOS (mVar 3))) (mCall m_law_sign (mCons (mVar 0) mNil))) (mSl (mVar 1) (mOS (mBin fAdd (mVar 3) (mC (.int 1)))) mON))) kSkip)
  (kRet (mM fJoin (mRecv "str" (mC (.str "\n"))) (mCons (mCall m_law_lines_bent (mCons (mVar 0) (mCons (mM fSplit (mRecv "str" (mVar 1)) (mCons (mC (.str "\n")) mNil)) mNil))) mNil))))))))))
def m_law_bent : MF := mDef 4 b_law_bent
/-- the slots of _law_reads: 0 _law_text, 1 _law_chain_here, 2 _law_due_here -/
abbrev N_law_reads : List Str := ["_law_text", "_law_chain_here", "_law_due_here"]
def b_law_reads : MS := (kSeq (kIf (mB (mBin fGt (mFn fLen (mCons (mVar 0) mNil)) (mC (.int 4000)))) (kRet (mC (.bl true))) kSkip)
  (kSeq (kSet 2 (mCall m_law_due (mCons (mVar 0) (mCons (mVar 1) mNil))))
  (kSeq (kIf (mNotT (mTru (mCall (m_law_same 8) (mCons (mCall m_law_told (mCons (mVar 0) (mCons (mVar 1) mNil))) (mCons (mVar 2) mNil))))) (kRet (mC (.bl false))) kSkip)
  (kSeq (kIf (mAndT (mB (mBin fEq (mBin fIx (mVar 2) (mC (.int 0))) (mC (.str "told")))) (mTru (mVar 1))) (kRet (mAndV (mCall (m_law_same 8) (mCons (mCall m_chain_text (mCons (mBin fIx (mVar 2) (mC (.int 1))) mNil)) (mCons (mVar 0) mNil))) (mCall (m_law_same 8) (mCons (mCall m_read_chain (mCons (mVar 0) mNil)) (mCons (mBin fIx (mVar 2) (mC (.int 1))) mNil))))) kSkip)
  (kSeq (kIf (mB (mBin fEq (mBin fIx (mVar 2) (mC (.int 0))) (mC (.str "told")))) (kRet (mAndV (mCall (m_law_same 8) (mCons (mCall m_joins_text (mCons (mBin fIx (mVar 2) (mC (.int 1))) mNil)) (mCons (mVar 0) mNil))) (mCall (m_law_same 8) (mCons (mCall m_read_joins (mCons (mVar 0) mNil)) (mCons (mBin fIx (mVar 2) (mC (.int 1))) mNil))))) kSkip)
  (kRet (mC (.bl true))))))))
def m_law_reads : MF := mDef 3 b_law_reads
/-- the slots of law: 0 _law_script, 1 _law_tape_here, 2 _law_words_here, 3 _law_sizes, 4 _law_chain_here, 5 _law_joins, 6 _law_first, 7 _law_second, 8 _law_text, 9 _law_odds, 10 _law_bad, 11 _law_k, 12 _law_line, 13 _law_join -/
abbrev N_law : List Str := ["_law_script", "_law_tape_here", "_law_words_here", "_law_sizes", "_law_chain_here", "_law_joins", "_law_first", "_law_second", "_law_text", "_law_odds", "_law_bad", "_law_k", "_law_line", "_law_join"]
def b_law : MS := (kSeq (kSet 1 (mCall m_law_tape (mCons (mVar 0) mNil)))
  (kSeq (kSet 2 (mCall m_law_words (mCons (mVar 1) mNil)))
  (kSeq (kSet 3 (mLc (iRng1 (mCons (mBin fIx (mLst (mCons (mC (.int 2)) (mCons (mC (.int 3)) (mCons (mC (.int 1)) (mCons (mC (.int 4)) (mCons (mC (.int 5)) (mCons (mC (.int 0)) mNil))))))) (mCall m_law_draw (mCons (mVar 1) (mCons (mC (.int 6)) mNil)))) mNil)) [11] (gN 11) mYes (mBin fAdd (mC (.int 1)) (mCall m_law_draw (mCons (mVar 1) (mCons (mC (.int 12)) mNil))))))
  (kSeq (kIf (mAndT (mB (mBin fGt (mFn fLen (mCons (mVar 3) mNil)) (mC (.int 0)))) (mB (mBin fEq (mCall m_law_draw (mCons (mVar 1) (mCons (mC (.int 8)) mNil))) (mC (.int 1))))) (kSetIx (mVar 3) (mC (.int 0)) (mC (.int 60))) kSkip)
  (kSeq (kSet 4 (mCall m_law_chain (mCons (mVar 1) (mCons (mVar 2) (mCons (mVar 3) mNil)))))
  (kSeq (kSet 5 (mCall m_law_rows (mCons (mVar 1) (mCons (mVar 2) (mCons (mVar 3) mNil)))))
  (kSeq (kSet 6 (mM fJoin (mRecv "str" (mC (.str "\n"))) (mCons (mLc (iVal (mVar 4)) [12] (gN 12) mYes (mCall m_law_chain_line (mCons (mVar 12) mNil))) mNil)))
  (kSeq (kSet 7 (mM fJoin (mRecv "str" (mC (.str "\n"))) (mCons (mLc (iVal (mVar 5)) [13] (gN 13) mYes (mCall m_law_join_line (mCons (mVar 13) mNil))) mNil)))
  (kSeq (kIf (mOrT (mNotT (mTru (mCall (m_law_same 8) (mCons (mCall m_chain_text (mCons (mVar 4) mNil)) (mCons (mVar 6) mNil))))) (mNotT (mTru (mCall (m_law_same 8) (mCons (mCall m_joins_text (mCons (mVar 5) mNil)) (mCons (mVar 7) mNil)))))) (kRet (mC (.bl false))) kSkip)
  (kSeq (kFor (iVal (mLst (mCons (mVar 6) (mCons (mVar 7) (mCons (mC (.str "")) (mCons (mCall m_law_bent (mCons (mVar 1) (mCons (mVar 6) mNil))) (mCons (mCall m_law_bent (mCons (mVar 1) (mCons (mVar 7) mNil))) (mCons (mCall m_law_bent (mCons (mVar 1) (mCons (mVar 6) mNil))) mNil)))))))) (gN 8) (kIf (mOrT (mNotT (mTru (mCall m_law_reads (mCons (mVar 8) (mCons (mC (.bl true)) mNil))))) (mNotT (mTru (mCall m_law_reads (mCons (mVar 8) (mCons (mC (.bl false)) mNil)))))) (kRet (mC (.bl false))) kSkip))
  (kSeq (kSet 9 (mLc (iRng1 (mCons (mC (.int 6)) mNil)) [11] (gN 11) mYes (mCall m_law_odd_line (mCons (mVar 1) mNil))))
  (kSeq (kFor (iVal (mBin fAdd (mVar 9) (mLst (mCons (mM fJoin (mRecv "str" (mC (.str "\n"))) (mCons (mVar 9) mNil)) (mCons (mCall m_law_bent (mCons (mVar 1) (mCons (mCall m_law_bent (mCons (mVar 1) (mCons (mVar 7) mNil))) mNil))) mNil))))) (gN 8) (kIf (mOrT (mNotT (mTru (mCall m_law_reads (mCons (mVar 8) (mCons (mC (.bl true)) mNil))))) (mNotT (mTru (mCall m_law_reads (mCons (mVar 8) (mCons (mC (.bl false)) mNil)))))) (kRet (mC (.bl false))) kSkip))
  (kSeq (kSet 10 (mBin fIx (mLst (mCons (mC .non) (mCons (mC (.int 0)) (mCons (mC (.bl true)) (mCons (mTup mNil) (mCons (mTup (mCons (mVar 6) mNil)) (mCons (mLst (mCons (mVar 6) mNil)) (mCons (mLst (mCons (mC (.str "given a")) mNil)) (mCons (mTup (mCons (mTup (mCons (mC (.str "given")) (mCons (mTup (mCons (mTup (mCons (mC (.str "a")) (mCons (mC (.int 0)) mNil))) mNil)) mNil))) mNil)) mNil))))))))) (mCall m_law_draw (mCons (mVar 1) (mCons (mC (.int 8)) mNil)))))
  (kSeq (kIf (mNotT (mTru (mCall (m_law_same 8) (mCons (mCall m_law_told (mCons (mVar 10) (mCons (mC (.bl true)) mNil))) (mCons (mTup (mCons (mC (.str "refused")) (mCons (mC (.str "text")) (mCons (mNeg (mC (.int 1))) mNil)))) mNil))))) (kRet (mC (.bl false))) kSkip)
  (kRet (mCall (m_law_same 8) (mCons (mCall m_law_told (mCons (mVar 10) (mCons (mC (.bl false)) mNil))) (mCons (mTup (mCons (mC (.str "refused")) (mCons (mC (.str "text")) (mCons (mNeg (mC (.int 1))) mNil)))) mNil))))))))))))))))))
def m_law : MF := mDef 14 b_law
end K65
/-! ## Ev0 -/
set_option Elab.async false
set_option linter.all false
set_option maxRecDepth 100000
set_option maxHeartbeats 2000000
namespace Mi
open PySem L2

/-! ### reckoning with meanings -/
def wp {α : Type} (o : Out α) (Q : α → Store → Prop) (E : Str → Fs → Store → Prop) : Prop := match o with
  | .no => False
  | .ok a st => Q a st
  | .ex c fs st => E c fs st
def wpS (o : SOut) (N : Env → Store → Prop) (R : D → Store → Prop) (E : Str → Fs → Env → Store → Prop) : Prop := match o with
  | .nx env st => N env st
  | .rt d st => R d st
  | .ex c fs env st => E c fs env st
  | _ => False
section
variable {α β : Type} {Q : α → Store → Prop} {K : D → Store → Prop} {KB : Bool → Store → Prop} {KA : List D → Store → Prop} {KI : Src → Store → Prop} {KO : Option Int → Store → Prop} {E : Str → Fs → Store → Prop} {env : Env} {st st' : Store} {m ma mb : ME} {t ta tb : MT} {r : MA}
@[simp] theorem wp_ok {a : α} : wp (.ok a st) Q E = Q a st := rfl
@[simp] theorem wp_ex {c : Str} {fs : Fs} : wp (.ex c fs st : Out α) Q E = E c fs st := rfl
@[simp] theorem wp_bind {o : Out β} {f : β → Store → Out α} : wp (o.bind f) Q E = wp o (fun a st => wp (f a st) Q E) E := by cases o <;> rfl
@[simp] theorem wp_ite {c : Prop} [Decidable c] {a b : Out α} : wp (if c then a else b) Q E = if c then wp a Q E else wp b Q E := by split <;> rfl
theorem wp_ok_iff {o : Out α} : (∃ a st', o = .ok a st' ∧ Q a st') → wp o Q E := by
  rintro ⟨a, st', rfl, h⟩
  exact h
@[simp] theorem wp_mVar {i : Nat} : wp (mVar i env st) K E = (match env[i]? with | some (some d) => K d st | _ => False) := by
  unfold mVar
  cases env[i]? with
  | none => rfl
  | some o => cases o <;> rfl
@[simp] theorem wp_mC {d : D} : wp (mC d env st) K E = K d st := rfl
@[simp] theorem wp_mBin {f : D → D → Store → Out D} : wp (mBin f ma mb env st) K E = wp (ma env st) (fun a st => wp (mb env st) (fun b st => wp (f a b st) K E) E) E := by
  simp [mBin]
@[simp] theorem wp_mB : wp (mB m env st) KB E = wp (m env st) (fun d st => match d with | .bl b => KB b st | _ => False) E := by
  unfold mB
  rw [wp_bind]
  congr 1
  funext d st
  cases d <;> rfl
@[simp] theorem wp_mTru : wp (mTru m env st) KB E = wp (m env st) (fun d st => wp (tru d st) KB E) E := by simp [mTru]
@[simp] theorem wp_tru {d : D} : wp (tru d st) KB E = (match truD st d with | some k => KB k st | none => False) := by
  unfold tru
  split <;> rename_i h <;> first | rfl | (simp only [h] <;> rfl)
@[simp] theorem wp_mAndT : wp (mAndT ta tb env st) KB E = wp (ta env st) (fun k st => if k = true then wp (tb env st) KB E else KB false st) E := by simp [mAndT]
@[simp] theorem wp_mOrT : wp (mOrT ta tb env st) KB E = wp (ta env st) (fun k st => if k = true then KB true st else wp (tb env st) KB E) E := by simp [mOrT]
@[simp] theorem wp_mNotT : wp (mNotT t env st) KB E = wp (t env st) (fun k st => KB (!k) st) E := by simp [mNotT]
@[simp] theorem wp_mAndV : wp (mAndV ma mb env st) K E = wp (ma env st) (fun d st => wp (tru d st) (fun k st => if k = true then wp (mb env st) K E else K d st) E) E := by simp [mAndV]
@[simp] theorem wp_mOrV : wp (mOrV ma mb env st) K E = wp (ma env st) (fun d st => wp (tru d st) (fun k st => if k = true then K d st else wp (mb env st) K E) E) E := by simp [mOrV]
@[simp] theorem wp_mNotV : wp (mNotV ma env st) K E = wp (ma env st) (fun d st => wp (tru d st) (fun k st => K (.bl (!k)) st) E) E := by simp [mNotV]
@[simp] theorem wp_mIfE : wp (mIfE t ma mb env st) K E = wp (t env st) (fun k st => if k = true then wp (ma env st) K E else wp (mb env st) K E) E := by simp [mIfE]
@[simp] theorem wp_mNeg : wp (mNeg m env st) K E = wp (m env st) (fun d st => match d with | .int i => K (.int (-i)) st | _ => False) E := by
  unfold mNeg
  rw [wp_bind]
  congr 1
  funext d st
  cases d <;> rfl
@[simp] theorem wp_mNil : wp (mNil env st) KA E = KA [] st := rfl
@[simp] theorem wp_mCons : wp (mCons m r env st) KA E = wp (m env st) (fun d st => wp (r env st) (fun ds st => KA (d :: ds) st) E) E := by simp [mCons]
@[simp] theorem wp_mTup : wp (mTup r env st) K E = wp (r env st) (fun ds st => if ds.length ≤ 1000000 then K (.tup ds) st else False) E := by
  simp only [mTup, wp_bind, wp_ite, wp_ok]; rfl
@[simp] theorem wp_mLst : wp (mLst r env st) K E = wp (r env st) (fun ds st => if ds.length ≤ 1000000 then K (.ref st.length) (st ++ [.lst ds]) else False) E := by
  simp only [mLst, wp_bind, wp_ite, wp_ok]; rfl
@[simp] theorem wp_mFn {f : List D → Store → Out D} : wp (mFn f r env st) K E = wp (r env st) (fun ds st => wp (f ds st) K E) E := by simp [mFn]
@[simp] theorem wp_mCall {f : MF} : wp (mCall f r env st) K E = wp (r env st) (fun ds st => wp (f ds st) K E) E := by simp [mCall]
@[simp] theorem wp_mM0 {f : D → List D → Store → Out D} : wp (mM0 f m env st) K E = wp (m env st) (fun d st => wp (f d [] st) K E) E := by simp [mM0]
@[simp] theorem wp_mM {f : D → List D → Store → Out D} : wp (mM f m r env st) K E = wp (m env st) (fun d st => wp (r env st) (fun ds st => wp (f d ds st) K E) E) E := by simp [mM]
@[simp] theorem wp_mRecv {T : String} : wp (mRecv T m env st) K E = wp (m env st) (fun d st => if recv T st d = true then K d st else False) E := by
  simp only [mRecv, wp_bind, wp_ite, wp_ok]; rfl
@[simp] theorem wp_mSl {lo hi : MO} : wp (mSl ma lo hi env st) K E = wp (ma env st) (fun a st => wp (lo env st) (fun l st => wp (hi env st) (fun h st => wp (fSl a l h st) K E) E) E) E := by simp [mSl]
@[simp] theorem wp_mON : wp (mON env st) KO E = KO none st := rfl
@[simp] theorem wp_mOS : wp (mOS m env st) KO E = wp (m env st) (fun d st => match d with | .int i => KO (some i) st | _ => False) E := by
  unfold mOS
  rw [wp_bind]
  congr 1
  funext d st
  cases d <;> rfl
@[simp] theorem wp_iVal : wp (iVal m env st) KI E = wp (m env st) (fun d st => wp (srcOf d st) KI E) E := by simp [iVal]
@[simp] theorem wp_mXf {fs : Fs} {f : Str} : wp (mXf fs f env st) K E = (match fs.lookup f with | some d => K d st | none => False) := by
  unfold mXf
  split <;> rename_i h <;> first | rfl | (simp only [h] <;> rfl)
end

/-! ### statements -/
section
variable {N : Env → Store → Prop} {R : D → Store → Prop} {E : Str → Fs → Env → Store → Prop} {env : Env} {st st' : Store} {m mo mi' : ME} {t : MT} {k1 k2 : MS} {i : Nat} {v : D} {g : MG}
theorem wpS_lift {α : Type} {o : Out α} {f : α → Store → SOut} : wpS (liftE o env f) N R E = wp o (fun a st => wpS (f a st) N R E) (fun c fs st => E c fs env st) := by cases o <;> rfl
theorem wpS_seq : wpS (kSeq k1 k2 env st) N R E = wpS (k1 env st) (fun env st => wpS (k2 env st) N R E) R E := by
  unfold kSeq
  cases k1 env st <;> rfl
/-- how an expression comes out -/
abbrev Ev {α : Type} (o : Out α) (v : α) (st' : Store) : Prop := ∀ (K : α → Store → Prop) (E : Str → Fs → Store → Prop), K v st' → wp o K E
theorem Ev.eq {α : Type} {o : Out α} {v : α} (h : Ev o v st') : o = .ok v st' := by
  have z := h (fun a s => a = v ∧ s = st') (fun _ _ _ => False) ⟨rfl, rfl⟩
  cases o with
  | no => exact z.elim
  | ok a s => obtain ⟨rfl, rfl⟩ := z; rfl
  | ex c fs s => exact z.elim
theorem s_seq (h : wpS (k1 env st) (fun env st => wpS (k2 env st) N R E) R E) : wpS (kSeq k1 k2 env st) N R E := by rw [wpS_seq]; exact h
theorem s_set (h1 : Ev (m env st) v st') (h2 : N (env.set i (some v)) st') : wpS (kSet i m env st) N R E := by
  unfold kSet
  rw [wpS_lift, h1.eq]
  exact h2
theorem s_ret (h1 : Ev (m env st) v st') (h2 : R v st') : wpS (kRet m env st) N R E := by
  unfold kRet
  rw [wpS_lift, h1.eq]
  exact h2
theorem s_expr (h1 : Ev (m env st) v st') (h2 : N env st') : wpS (kExpr m env st) N R E := by
  unfold kExpr
  rw [wpS_lift, h1.eq]
  exact h2
theorem s_asg {env' : Env} (h1 : Ev (m env st) v st') (h3 : g v env = some env') (h2 : N env' st') : wpS (kAsg g m env st) N R E := by
  unfold kAsg
  rw [wpS_lift, h1.eq]
  simp only [h3, wp_ok]
  exact h2
theorem s_if {b : Bool} (h1 : Ev (t env st) b st') (h2 : b = true → wpS (k1 env st') N R E) (h3 : b = false → wpS (k2 env st') N R E) : wpS (kIf t k1 k2 env st) N R E := by
  unfold kIf
  rw [wpS_lift, h1.eq]
  cases b
  · exact h3 rfl
  · exact h2 rfl
theorem s_skip (h : N env st) : wpS (kSkip env st) N R E := h
theorem s_raise {r : MA} {x f1 f2 : Str} {d1 d2 : D} (h1 : Ev (r env st) [d1, d2] st') (h2 : E x [(f2, d2), (f1, d1)] env st') : wpS (kRaise x f1 f2 r env st) N R E := by
  unfold kRaise
  rw [wpS_lift, h1.eq]
  exact h2
theorem s_setIx {o id : D} {st1 st2 st3 st4 : Store} (h1 : Ev (m env st) v st1) (h2 : Ev (mo env st1) o st2) (h3 : Ev (mi' env st2) id st3) (h4 : setF o id v st3 = .ok () st4) (h5 : N env st4) : wpS (kSetIx mo mi' m env st) N R E := by
  unfold kSetIx
  rw [wpS_lift, h1.eq, wp_ok, wpS_lift, h2.eq, wp_ok, wpS_lift, h3.eq, wp_ok, wpS_lift, h4, wp_ok]
  exact h5
theorem s_par {r : MA} {j : Nat} {d1 d2 : D} (h1 : Ev (r env st) [d1, d2] st') (h2 : N ((env.set i (some d1)).set j (some d2)) st') : wpS (kPar i j r env st) N R E := by
  unfold kPar
  rw [wpS_lift, h1.eq]
  exact h2
theorem s_par3 {r : MA} {j l : Nat} {d1 d2 d3 : D} (h1 : Ev (r env st) [d1, d2, d3] st') (h2 : N (((env.set i (some d1)).set j (some d2)).set l (some d3)) st') : wpS (kPar3 i j l r env st) N R E := by
  unfold kPar3
  rw [wpS_lift, h1.eq]
  exact h2
theorem wpS_mono {o : SOut} {N' : Env → Store → Prop} {R' : D → Store → Prop} {E' : Str → Fs → Env → Store → Prop} (h : wpS o N R E) (h1 : ∀ env st, N env st → N' env st) (h2 : ∀ d st, R d st → R' d st) (h3 : ∀ c fs env st, E c fs env st → E' c fs env st) : wpS o N' R' E' := by
  cases o with
  | nx _ _ => exact h1 _ _ h
  | rt _ _ => exact h2 _ _ h
  | ex _ _ _ _ => exact h3 _ _ _ _ h
  | _ => exact h.elim
/-- a loop over items that stand -/
theorem s_loop {src : Src} {body : MS} (ds : List D) (Inv : Nat → Env → Store → Prop) (hi : ∀ i env st, Inv i env st → src.item i st = some ds[i]?)
    (step : ∀ i d env st, ds[i]? = some d → Inv i env st → ∃ env1, g d env = some env1 ∧ wpS (body env1 st) (Inv (i + 1)) R E) (fin : ∀ env st, Inv ds.length env st → N env st) :
    ∀ n i env st, n + i = ds.length → Inv i env st → wpS (loopS src g body n i env st) N R E := by
  intro n
  induction n with
  | zero =>
    intro i env st hn h
    unfold loopS
    have e : ds[i]? = none := List.getElem?_eq_none (by omega)
    rw [hi i env st h, e]
    have : i = ds.length := by omega
    subst this
    exact fin env st h
  | succ n ih =>
    intro i env st hn h
    unfold loopS
    have hl : i < ds.length := by omega
    rw [hi i env st h, List.getElem?_eq_getElem hl]
    obtain ⟨env1, e1, w⟩ := step i ds[i] env st (List.getElem?_eq_getElem hl) h
    simp only [e1]
    cases e2 : body env1 st with
    | no => rw [e2] at w; exact w.elim
    | bk _ _ => rw [e2] at w; exact w.elim
    | ct _ _ => rw [e2] at w; exact w.elim
    | nx env2 st2 => rw [e2] at w; exact ih (i + 1) env2 st2 (by omega) w
    | rt d st2 => rw [e2] at w; exact w
    | ex c fs env2 st2 => rw [e2] at w; exact w
theorem s_for {mi : MI} {src : Src} {body : MS} (ds : List D) (Inv : Nat → Env → Store → Prop) (h1 : Ev (mi env st) src st') (hs : src.size st' = ds.length) (h0 : Inv 0 env st') (hi : ∀ i env st, Inv i env st → src.item i st = some ds[i]?)
    (step : ∀ i d env st, ds[i]? = some d → Inv i env st → ∃ env1, g d env = some env1 ∧ wpS (body env1 st) (Inv (i + 1)) R E) (fin : ∀ env st, Inv ds.length env st → N env st) : wpS (kFor mi g body env st) N R E := by
  unfold kFor
  rw [wpS_lift, h1.eq, wp_ok, hs]
  exact s_loop ds Inv hi step fin ds.length 0 env st' rfl h0
theorem s_while {body : MS} (Inv : Nat → Env → Store → Prop) (k : Nat) (n : Nat) (hk : k < n) (h0 : Inv k env st)
    (step : ∀ j env st, Inv j env st → ∃ b st', t env st = .ok b st' ∧ (b = false → N env st') ∧ (b = true → 0 < j ∧ wpS (body env st') (fun env st => ∃ j', j' < j ∧ Inv j' env st) R E)) : wpS (kWhile n t body env st) N R E := by
  unfold kWhile
  induction n generalizing k env st with
  | zero => omega
  | succ n ih =>
    unfold loopW
    obtain ⟨b, st', e, hf, ht⟩ := step k env st h0
    rw [wpS_lift, e, wp_ok]
    cases b with
    | false => exact hf rfl
    | true =>
      obtain ⟨hj, w⟩ := ht rfl
      simp only [if_true]
      cases e2 : body env st' with
      | no => rw [e2] at w; exact w.elim
      | bk _ _ => rw [e2] at w; exact w.elim
      | ct _ _ => rw [e2] at w; exact w.elim
      | nx env2 st2 =>
        rw [e2] at w
        obtain ⟨j', h1, h2⟩ := w
        exact ih j' (by omega) h2
      | rt d st2 => rw [e2] at w; exact w
      | ex c fs env2 st2 => rw [e2] at w; exact w
/-- a def's outcome -/
theorem wp_def {n : Nat} {b : MS} {ds : List D} {Q : D → Store → Prop} {E' : Str → Fs → Store → Prop} (h : wpS (b (ds.map some ++ List.replicate (n - ds.length) none) st) (fun _ st => Q .non st) Q (fun c fs _ st => E' c fs st)) : wp (mDef n b ds st) Q E' := by
  unfold mDef
  cases e : b (ds.map some ++ List.replicate (n - ds.length) none) st <;> rw [e] at h <;> exact h
theorem wp_get {α : Type} {o : Out α} {Q : α → Store → Prop} (h : wp o Q (fun _ _ _ => False)) : ∃ a st', o = .ok a st' ∧ Q a st' := by
  cases o with
  | ok a st' => exact ⟨a, st', rfl, h⟩
  | no => exact h.elim
  | ex _ _ _ => exact h.elim
/-- a comprehension -/
theorem c_go {src : Src} {g : MG} {t : MT} {m : ME} {r : Nat} {env0 : Env} (ds : List D) (Inv : Nat → List D → Store → Prop) (hi : ∀ i acc st, Inv i acc st → src.item i st = some ds[i]?) (hr : ∀ i acc st, Inv i acc st → st[r]? = some (.lst acc))
    (step : ∀ i d acc st, ds[i]? = some d → Inv i acc st → ∃ env1 k st1, g d env0 = some env1 ∧ t env1 st = .ok k st1 ∧ (k = false → Inv (i + 1) acc st1) ∧
      (k = true → ∃ y st2, m env1 st1 = .ok y st2 ∧ st2[r]? = some (.lst acc) ∧ acc.length < 1000000 ∧ Inv (i + 1) (acc ++ [y]) (st2.set r (.lst (acc ++ [y]))))) :
    ∀ n i acc st, n + i = ds.length → Inv i acc st → ∃ acc' st', compS src g t m r env0 n i st = .ok () st' ∧ Inv ds.length acc' st' := by
  intro n
  induction n with
  | zero =>
    intro i acc st hn h
    unfold compS
    have e : ds[i]? = none := List.getElem?_eq_none (by omega)
    rw [hi i acc st h, e]
    have : i = ds.length := by omega
    subst this
    exact ⟨acc, st, rfl, h⟩
  | succ n ih =>
    intro i acc st hn h
    unfold compS
    have hl : i < ds.length := by omega
    rw [hi i acc st h, List.getElem?_eq_getElem hl]
    obtain ⟨env1, k, st1, e1, e2, w0, w1⟩ := step i ds[i] acc st (List.getElem?_eq_getElem hl) h
    simp only [e1, e2]
    cases k with
    | false => exact ih (i + 1) acc st1 (by omega) (w0 rfl)
    | true =>
      obtain ⟨y, st2, e3, e4, e5, e6⟩ := w1 rfl
      simp only [e3, e4, if_pos e5]
      exact ih (i + 1) (acc ++ [y]) _ (by omega) e6
theorem c_lc {mi : MI} {src : Src} {own : List Nat} {g : MG} {t : MT} {m : ME} (ds : List D) (Inv : Nat → List D → Store → Prop) (h1 : Ev (mi env st) src st') (hs : src.size st' = ds.length) (h0 : Inv 0 [] (st' ++ [.lst []]))
    (hi : ∀ i acc st, Inv i acc st → src.item i st = some ds[i]?) (hr : ∀ i acc st, Inv i acc st → st[st'.length]? = some (.lst acc))
    (step : ∀ i d acc st, ds[i]? = some d → Inv i acc st → ∃ env1 k st1, g d (wipeE env own) = some env1 ∧ t env1 st = .ok k st1 ∧ (k = false → Inv (i + 1) acc st1) ∧
      (k = true → ∃ y st2, m env1 st1 = .ok y st2 ∧ st2[st'.length]? = some (.lst acc) ∧ acc.length < 1000000 ∧ Inv (i + 1) (acc ++ [y]) (st2.set st'.length (.lst (acc ++ [y]))))) :
    ∃ acc st2, mLc mi own g t m env st = .ok (.ref st'.length) st2 ∧ Inv ds.length acc st2 := by
  obtain ⟨acc, st2, e, h⟩ := c_go (r := st'.length) (env0 := wipeE env own) ds Inv hi hr step ds.length 0 [] (st' ++ [.lst []]) rfl h0
  refine ⟨acc, st2, ?_, h⟩
  unfold mLc
  rw [h1.eq]
  simp only [Out.bind_ok, hs, e]
end
/-! ### what stays -/
def Fr (S : List Nat) (st st' : Store) : Prop := st.length ≤ st'.length ∧ ∀ i, i < st.length → i ∉ S → st'[i]? = st[i]?
theorem Fr.refl {S : List Nat} {st : Store} : Fr S st st := ⟨Nat.le_refl _, fun _ _ _ => rfl⟩
theorem Fr.trans {S : List Nat} {st st1 st2 : Store} (a : Fr S st st1) (b : Fr S st1 st2) : Fr S st st2 := ⟨Nat.le_trans a.1 b.1, fun i h n => (b.2 i (Nat.lt_of_lt_of_le h a.1) n).trans (a.2 i h n)⟩
theorem Fr.sub {S T : List Nat} {st st1 : Store} (a : Fr S st st1) (h : ∀ i ∈ S, i ∈ T) : Fr T st st1 := ⟨a.1, fun i l n => a.2 i l fun z => n (h i z)⟩
theorem Fr.nil {S : List Nat} {st st1 : Store} (a : Fr [] st st1) : Fr S st st1 := a.sub fun _ h => nomatch h
theorem Fr.app {S : List Nat} {st st1 : Store} {os : List Ob} (a : Fr S st st1) : Fr S st (st1 ++ os) := ⟨by rw [List.length_append]; have := a.1; omega, fun i h n => by rw [List.getElem?_append_left (Nat.lt_of_lt_of_le h a.1)]; exact a.2 i h n⟩
theorem Fr.set {S : List Nat} {st st1 : Store} {l : Nat} {o : Ob} (a : Fr S st st1) (h : st.length ≤ l ∨ l ∈ S) : Fr S st (st1.set l o) := ⟨by rw [List.length_set]; exact a.1, fun i hi n => by
  rw [List.getElem?_set_ne]
  · exact a.2 i hi n
  · rintro rfl
    rcases h with h | h
    · omega
    · exact n h⟩
theorem Fr.get {S : List Nat} {st st1 : Store} {l : Nat} {o : Ob} (a : Fr S st st1) (h : st[l]? = some o) (n : l ∉ S) : st1[l]? = some o := (a.2 l (List.getElem?_eq_some_iff.mp h).1 n).trans h
/-- a shorter past -/
theorem Fr.less {S : List Nat} {st st1 st2 : Store} (a : Fr S st st1) (b : Fr S st1 st2) : Fr S st st2 := a.trans b
end Mi
/-! ## Lit65 -/
set_option Elab.async false
set_option linter.all false
set_option maxRecDepth 100000
namespace Mi
open PySem L2 SX
def LET : List Nat := [97, 98, 99, 100, 101, 102, 103, 104, 105, 106, 107, 108, 109, 110, 111, 112, 113, 114, 115, 116, 117, 118, 119, 120, 121, 122]
@[simp] theorem lit_2 : Str.ofString "abcdefghijklmnopqrstuvwxyz" = S LET := by decide +kernel
def OTH : List Nat := [48, 49, 50, 51, 52, 53, 54, 55, 56, 57, 45]
@[simp] theorem lit_3 : Str.ofString "0123456789-" = S OTH := by decide +kernel
@[simp] theorem lit_10 : Str.ofString "number" = S [110, 117, 109, 98, 101, 114] := by decide +kernel
@[simp] theorem lit_11 : Str.ofString "" = S [] := by decide +kernel
@[simp] theorem lit_12 : Str.ofString " !\"#$&'()*+,-./0123456789:;<=>?@ABCDEFGHIJKLMNOPQRSTUVWXYZ[\\]^_`abcdefghijklmnopqrstuvwxyz{|}~" = S [32, 33, 34, 35, 36, 38, 39, 40, 41, 42, 43, 44, 45, 46, 47, 48, 49, 50, 51, 52, 53, 54, 55, 56, 57, 58, 59, 60, 61, 62, 63, 64, 65, 66, 67, 68, 69, 70, 71, 72, 73, 74, 75, 76, 77, 78, 79, 80, 81, 82, 83, 84, 85, 86, 87, 88, 89, 90, 91, 92, 93, 94, 95, 96, 97, 98, 99, 100, 101, 102, 103, 104, 105, 106, 107, 108, 109, 110, 111, 112, 113, 114, 115, 116, 117, 118, 119, 120, 121, 122, 123, 124, 125, 126] := by decide +kernel
@[simp] theorem lit_13 : Str.ofString "\n" = S [10] := by decide +kernel
@[simp] theorem lit_14 : Str.ofString "given" = S [103, 105, 118, 101, 110] := by decide +kernel
@[simp] theorem lit_15 : Str.ofString "put" = S [112, 117, 116] := by decide +kernel
@[simp] theorem lit_16 : Str.ofString "down" = S [100, 111, 119, 110] := by decide +kernel
@[simp] theorem lit_17 : Str.ofString "." = S [46] := by decide +kernel
@[simp] theorem lit_18 : Str.ofString " " = S [32] := by decide +kernel
@[simp] theorem lit_19 : Str.ofString "told" = S [116, 111, 108, 100] := by decide +kernel
@[simp] theorem lit_20 : Str.ofString "0" = S [48] := by decide +kernel
@[simp] theorem lit_21 : Str.ofString "00" = S [48, 48] := by decide +kernel
@[simp] theorem lit_22 : Str.ofString "01" = S [48, 49] := by decide +kernel
@[simp] theorem lit_23 : Str.ofString "-1" = S [45, 49] := by decide +kernel
@[simp] theorem lit_24 : Str.ofString "+1" = S [43, 49] := by decide +kernel
@[simp] theorem lit_25 : Str.ofString "1.0" = S [49, 46, 48] := by decide +kernel
@[simp] theorem lit_26 : Str.ofString "x" = S [120] := by decide +kernel
@[simp] theorem lit_27 : Str.ofString "f()" = S [102, 40, 41] := by decide +kernel
@[simp] theorem lit_28 : Str.ofString "f(a" = S [102, 40, 97] := by decide +kernel
@[simp] theorem lit_29 : Str.ofString "a)" = S [97, 41] := by decide +kernel
@[simp] theorem lit_30 : Str.ofString "?" = S [63] := by decide +kernel
@[simp] theorem lit_31 : Str.ofString "f(?)" = S [102, 40, 63, 41] := by decide +kernel
@[simp] theorem lit_32 : Str.ofString ".(a)" = S [46, 40, 97, 41] := by decide +kernel
@[simp] theorem lit_33 : Str.ofString "f(a,a,a,a)" = S [102, 40, 97, 44, 97, 44, 97, 44, 97, 41] := by decide +kernel
@[simp] theorem lit_34 : Str.ofString "given a" = S [103, 105, 118, 101, 110, 32, 97] := by decide +kernel
@[simp] theorem lit_35 : Str.ofString "put 0 3 12 0 7" = S [112, 117, 116, 32, 48, 32, 51, 32, 49, 50, 32, 48, 32, 55] := by decide +kernel
@[simp] theorem lit_36 : Str.ofString "root a f(a)" = S [114, 111, 111, 116, 32, 97, 32, 102, 40, 97, 41] := by decide +kernel
@[simp] theorem lit_37 : Str.ofString "up f(b) ." = S [117, 112, 32, 102, 40, 98, 41, 32, 46] := by decide +kernel
@[simp] theorem lit_38 : Str.ofString "down 2 g(a,b) a" = S [100, 111, 119, 110, 32, 50, 32, 103, 40, 97, 44, 98, 41, 32, 97] := by decide +kernel
@[simp] theorem lit_39 : Str.ofString "down 0 a b" = S [100, 111, 119, 110, 32, 48, 32, 97, 32, 98] := by decide +kernel
@[simp] theorem lit_40 : Str.ofString "put 1 1 1 1 1" = S [112, 117, 116, 32, 49, 32, 49, 32, 49, 32, 49, 32, 49] := by decide +kernel
@[simp] theorem lit_41 : Str.ofString "text" = S [116, 101, 120, 116] := by decide +kernel
@[simp] theorem lit_42 : Str.ofString ")" = S [41] := by decide +kernel
@[simp] theorem lit_43 : Str.ofString "root" = S [114, 111, 111, 116] := by decide +kernel
@[simp] theorem lit_44 : Str.ofString "up" = S [117, 112] := by decide +kernel
@[simp] theorem lit_45 : Str.ofString "given " = S [103, 105, 118, 101, 110, 32] := by decide +kernel
def SPC : List Nat := [40, 41, 44]
@[simp] theorem lit_46 : Str.ofString "()," = S SPC := by decide +kernel
@[simp] theorem lit_47 : Str.ofString "n" = S [110] := by decide +kernel
@[simp] theorem lit_48 : Str.ofString "tt" = S [116, 116] := by decide +kernel
@[simp] theorem lit_49 : Str.ofString "ntt" = S [110, 116, 116] := by decide +kernel
@[simp] theorem lit_50 : Str.ofString " (),.01a-?\nzA" = S [32, 40, 41, 44, 46, 48, 49, 97, 45, 63, 10, 122, 65] := by decide +kernel
@[simp] theorem lit_51 : Str.ofString "f(a,a,a,a,a)" = S [102, 40, 97, 44, 97, 44, 97, 44, 97, 44, 97, 41] := by decide +kernel
@[simp] theorem lit_52 : Str.ofString "A" = S [65] := by decide +kernel
@[simp] theorem lit_53 : Str.ofString "a234567890123456" = S [97, 50, 51, 52, 53, 54, 55, 56, 57, 48, 49, 50, 51, 52, 53, 54] := by decide +kernel
@[simp] theorem lit_54 : Str.ofString "a2345678901234567" = S [97, 50, 51, 52, 53, 54, 55, 56, 57, 48, 49, 50, 51, 52, 53, 54, 55] := by decide +kernel
@[simp] theorem lit_55 : Str.ofString "1_0" = S [49, 95, 48] := by decide +kernel
@[simp] theorem lit_56 : Str.ofString "f(a)(a)" = S [102, 40, 97, 41, 40, 97, 41] := by decide +kernel
@[simp] theorem lit_57 : Str.ofString "f(,a)" = S [102, 40, 44, 97, 41] := by decide +kernel
@[simp] theorem lit_58 : Str.ofString "f(a,)" = S [102, 40, 97, 44, 41] := by decide +kernel
@[simp] theorem lit_59 : Str.ofString "a,a" = S [97, 44, 97] := by decide +kernel
@[simp] theorem lit_60 : Str.ofString "(a)" = S [40, 97, 41] := by decide +kernel
@[simp] theorem lit_61 : Str.ofString "-a" = S [45, 97] := by decide +kernel
def DIG : List Nat := [48, 49, 50, 51, 52, 53, 54, 55, 56, 57]
@[simp] theorem lit_62 : Str.ofString "0123456789" = S DIG := by decide +kernel
@[simp] theorem lit_63 : Str.ofString "refused" = S [114, 101, 102, 117, 115, 101, 100] := by decide +kernel
@[simp] theorem lit_64 : Str.ofString "(" = S [40] := by decide +kernel
@[simp] theorem lit_65 : Str.ofString "tree" = S [116, 114, 101, 101] := by decide +kernel
@[simp] theorem lit_66 : Str.ofString "," = S [44] := by decide +kernel
@[simp] theorem lit_67 : Str.ofString "t" = S [116] := by decide +kernel
@[simp] theorem lit_68 : Str.ofString "nnnnn" = S [110, 110, 110, 110, 110] := by decide +kernel
@[simp] theorem lit_69 : Str.ofString "fault" = S [102, 97, 117, 108, 116] := by decide +kernel
@[simp] theorem lit_70 : Str.ofString "1" = S [49] := by decide +kernel
@[simp] theorem lit_71 : Str.ofString "9" = S [57] := by decide +kernel
@[simp] theorem lit_72 : Str.ofString "a" = S [97] := by decide +kernel
@[simp] theorem lit_73 : Str.ofString "10" = S [49, 48] := by decide +kernel
@[simp] theorem lit_74 : Str.ofString "\n\n" = S [10, 10] := by decide +kernel
@[simp] theorem lit_75 : Str.ofString "\nput 0 0 0 0 0" = S [10, 112, 117, 116, 32, 48, 32, 48, 32, 48, 32, 48, 32, 48] := by decide +kernel
@[simp] theorem lit_76 : Str.ofString "b-0za" = S [98, 45, 48, 122, 97] := by decide +kernel
@[simp] theorem lit_77 : Str.ofString "0-" = S [48, 45] := by decide +kernel
def LOK : List Nat := [97, 98, 99, 100, 101, 102, 103, 104, 105, 106, 107, 108, 109, 110, 111, 112, 113, 114, 115, 116, 117, 118, 119, 120, 121, 122, 48, 49, 50, 51, 52, 53, 54, 55, 56, 57, 45]
@[simp] theorem lit_78 : Str.ofString "abcdefghijklmnopqrstuvwxyz0123456789-" = S LOK := by decide +kernel
@[simp] theorem lit_79 : Str.ofString "down " = S [100, 111, 119, 110, 32] := by decide +kernel
@[simp] theorem lit_80 : Str.ofString "line" = S [108, 105, 110, 101] := by decide +kernel
@[simp] theorem lit_81 : Str.ofString "at" = S [97, 116] := by decide +kernel
@[simp] theorem lit_82 : Str.ofString "word" = S [119, 111, 114, 100] := by decide +kernel
@[simp] theorem lit_83 : Str.ofString "InvalidText" = S [73, 110, 118, 97, 108, 105, 100, 84, 101, 120, 116] := by decide +kernel
@[simp] theorem lit_84 : Str.ofString "NotUsable" = S [78, 111, 116, 85, 115, 97, 98, 108, 101] := by decide +kernel
end Mi
/-! ## Ev1 -/
set_option Elab.async false
set_option linter.all false
set_option maxRecDepth 100000
set_option maxHeartbeats 2000000
namespace Mi
open PySem L2 SX

/-! ### operations on values -/
section
variable {K : D → Store → Prop} {KI : Src → Store → Prop} {E : Str → Fs → Store → Prop} {st : Store} {i j : Int} {x y : Str} {a b : List Nat} {l : Nat} {ds es : List D} {d : D}
@[simp] theorem f_add_i : fAdd (.int i) (.int j) st = .ok (.int (i + j)) st := rfl
@[simp] theorem f_add_s : wp (fAdd (.str x) (.str y) st) K E = if x.length + y.length ≤ 1000000 then K (.str (x ++ y)) st else False := by simp only [fAdd, wp_ite, wp_ok]; rfl
@[simp] theorem f_add_t : wp (fAdd (.tup ds) (.tup es) st) K E = if ds.length + es.length ≤ 1000000 then K (.tup (ds ++ es)) st else False := by simp only [fAdd, wp_ite, wp_ok]; rfl
@[simp] theorem f_sub : fSub (.int i) (.int j) st = .ok (.int (i - j)) st := rfl
@[simp] theorem f_mul : wp (fMulA (.int i) (.int j) st) K E = if (-big < i ∧ i < big) ∨ (-big < j ∧ j < big) then K (.int (i * j)) st else False := by simp only [fMulA, fMul, wp_ite, wp_ok]; rfl
@[simp] theorem f_div : wp (fDiv (.int i) (.int j) st) K E = if 0 < j ∧ j < 1073741824 then K (.int (i / j)) st else False := by simp only [fDiv, wp_ite, wp_ok]; rfl
@[simp] theorem f_mod : wp (fMod (.int i) (.int j) st) K E = if 0 < j then K (.int (i % j)) st else False := by simp only [fMod, wp_ite, wp_ok]; rfl
@[simp] theorem f_lt : fLt (.int i) (.int j) st = .ok (.bl (decide (i < j))) st := rfl
@[simp] theorem f_le : fLe (.int i) (.int j) st = .ok (.bl (decide (i ≤ j))) st := rfl
@[simp] theorem f_gt : fGt (.int i) (.int j) st = .ok (.bl (decide (j < i))) st := rfl
@[simp] theorem f_ge : fGe (.int i) (.int j) st = .ok (.bl (decide (j ≤ i))) st := rfl

@[simp] theorem S_len' {a : List Nat} : (S a).length = a.length := S_len a
theorem S_eq {a b : List Nat} : (S a = S b) = (a = b) := propext ⟨S_inj, fun h => by rw [h]⟩
@[simp] theorem f_eq_s : fEq (.str (S a)) (.str (S b)) st = .ok (.bl (decide (a = b))) st := by
  show Out.ok (D.bl (decide (S a = S b))) st = _
  simp only [S_eq]
@[simp] theorem f_ne_s : fNe (.str (S a)) (.str (S b)) st = .ok (.bl (!decide (a = b))) st := by
  show Out.ok (D.bl (!decide (S a = S b))) st = _
  simp only [S_eq]
@[simp] theorem f_eq_i : fEq (.int i) (.int j) st = .ok (.bl (decide (i = j))) st := rfl
@[simp] theorem f_ne_i : fNe (.int i) (.int j) st = .ok (.bl (!decide (i = j))) st := rfl
@[simp] theorem f_eq_b {p q : Bool} : fEq (.bl p) (.bl q) st = .ok (.bl (decide (p = q))) st := rfl
@[simp] theorem f_isN : fIsN d .non st = .ok (.bl (isN d)) st := rfl
@[simp] theorem f_isB {k : Bool} : fIsB d (.bl k) st = .ok (.bl (isB k d)) st := rfl
@[simp] theorem f_in {c : Nat} : fInS (.str (S [c])) (.str (S a)) st = .ok (.bl (decide (c ∈ a))) st := by
  show Out.ok (D.bl (inS (S [c]) (S a))) st = _
  unfold inS
  rw [in_one]
@[simp] theorem f_nin {c : Nat} : fNotInS (.str (S [c])) (.str (S a)) st = .ok (.bl (!decide (c ∈ a))) st := by
  show Out.ok (D.bl (!inS (S [c]) (S a))) st = _
  unfold inS
  rw [in_one]
@[simp] theorem f_len_s : wp (fLen [.str (S a)] st) K E = if a.length ≤ 1000000 then K (.int (a.length : Nat)) st else False := by
  simp only [fLen, S_len, wp_ite, wp_ok]; rfl
@[simp] theorem f_len_t : fLen [.tup ds] st = .ok (.int (ds.length : Nat)) st := rfl
theorem f_len_l : wp (fLen [.ref l] st) K E = (match itemsAt st l with | some es => K (.int (es.length : Nat)) st | none => False) := by
  unfold fLen
  split <;> rename_i h
  · cases h
  · cases h
  · rename_i l' 
    cases h
    split <;> rename_i h2 <;> first | rfl | (simp only [h2] <;> rfl)
  · exact absurd rfl (h _)
theorem atI_k {α : Type} {xs : List α} {k : Nat} : atI xs (k : Int) = xs[k]? := by
  unfold atI ixN
  rw [if_pos (Int.natCast_nonneg k)]
  by_cases h : k < xs.length
  · rw [if_pos (by omega)]; simp
  · rw [if_neg (by omega), List.getElem?_eq_none (by omega)]; rfl
theorem atI_end {α : Type} {xs : List α} {x : α} : atI (xs ++ [x]) (-1) = some x := by
  unfold atI ixN
  rw [if_neg (by decide), if_pos (by rw [List.length_append, List.length_singleton]; omega)]
  have e : ((-1 : Int) + ((xs ++ [x]).length : Nat)).toNat = xs.length := by rw [List.length_append, List.length_singleton]; omega
  show (xs ++ [x])[((-1 : Int) + ((xs ++ [x]).length : Nat)).toNat]? = some x
  rw [e]
  simp
@[simp] theorem f_ix_s : wp (fIx (.str (S a)) (.int i) st) K E = if a.length ≤ 1000000 then (match atI a i with | some c => K (.str (S [c])) st | none => False) else False := by
  simp only [fIx, S_len, wp_ite]
  split
  · cases h : atI a i with
    | none => simp only [h]; rfl
    | some c => simp only [h]; rfl
  · rfl
@[simp] theorem f_ix_t : wp (fIx (.tup ds) (.int i) st) K E = (match atI ds i with | some d => K d st | none => False) := by
  simp only [fIx]
  cases h : atI ds i with
  | none => simp only [h]; rfl
  | some c => simp only [h]; rfl
theorem f_ix_l : wp (fIx (.ref l) (.int i) st) K E = (match itemsAt st l with | some ds => (match atI ds i with | some d => K d st | none => False) | none => False) := by
  simp only [fIx]
  cases h0 : itemsAt st l with
  | none => rfl
  | some ds =>
    simp only [h0]
    cases h : atI ds i with
    | none => simp only [h]; rfl
    | some c => simp only [h]; rfl
theorem items_l {st : Store} {l : Nat} {ds : List D} (h : st[l]? = some (.lst ds)) : itemsAt st l = some ds := by unfold itemsAt; rw [h]
theorem sl_mid {a : List Nat} {i j : Nat} (h : i ≤ j) (hi : i ≤ a.length) : Txt.slice (S a) (some (i : Int)) (some (j : Int)) = S ((a.drop i).take (j - i)) := by
  by_cases hj : j ≤ a.length
  · have e := StrLaws.sliceText_plain (x := S a) (i := (i : Int)) (j := (j : Int)) ⟨by omega, by omega, by simp; omega⟩
    refine (show Txt.slice (S a) (some (i : Int)) (some (j : Int)) = StrLaws.sliceText (S a) (some (i : Int)) (some (j : Int)) from rfl).trans (e.trans ?_)
    show S ((a.drop (i : Int).toNat).take ((j : Int) - (i : Int)).toNat) = _
    rw [Int.toNat_natCast, show ((j : Int) - (i : Int)).toNat = j - i by omega]
  · have e2 : Txt.slice (S a) (some (i : Int)) (some (j : Int)) = Txt.slice (S a) (some (i : Int)) (some (a.length : Int)) := by
      unfold Txt.slice
      rw [S_len, idx_hi (by omega)]
    rw [e2]
    have e := StrLaws.sliceText_plain (x := S a) (i := (i : Int)) (j := (a.length : Int)) ⟨by omega, by omega, by simp⟩
    refine (show Txt.slice (S a) (some (i : Int)) (some (a.length : Int)) = StrLaws.sliceText (S a) (some (i : Int)) (some (a.length : Int)) from rfl).trans (e.trans ?_)
    show S ((a.drop (i : Int).toNat).take ((a.length : Int) - (i : Int)).toNat) = _
    rw [Int.toNat_natCast, show ((a.length : Int) - (i : Int)).toNat = a.length - i by omega]
    congr 1
    rw [List.take_of_length_le (by simp), List.take_of_length_le (by simp; omega)]
@[simp] theorem f_sl_s {lo hi : Option Int} : wp (fSl (.str (S a)) lo hi st) K E = if a.length ≤ 1000000 then K (.str (Txt.slice (S a) lo hi)) st else False := by
  simp only [fSl, S_len, wp_ite, wp_ok]; rfl
@[simp] theorem f_cat : S a ++ S b = S (a ++ b) := S_cat a b
@[simp] theorem tru_b {p : Bool} : truD st (.bl p) = some p := rfl
end
end Mi
/-! ## Ev2 -/
set_option Elab.async false
set_option linter.all false
set_option maxRecDepth 100000
set_option maxHeartbeats 2000000
namespace Mi
open PySem L2 SX
theorem set_at {st : Store} {l : Nat} {o o' : Ob} (h : st[l]? = some o) : (st.set l o')[l]? = some o' := List.getElem?_set_self (List.getElem?_eq_some_iff.mp h).1
theorem set_no {st : Store} {l m : Nat} {o : Ob} (h : l ≠ m) : (st.set l o)[m]? = st[m]? := List.getElem?_set_ne h
theorem app_at {st : Store} {os : List Ob} {l : Nat} {o : Ob} (h : st[l]? = some o) : (st ++ os)[l]? = some o := by
  rw [List.getElem?_append_left (List.getElem?_eq_some_iff.mp h).1]; exact h
theorem app_new {st : Store} {o : Ob} : (st ++ [o])[st.length]? = some o := by simp
theorem f_append {st : Store} {l : Nat} {es : List D} {y : D} (h : st[l]? = some (.lst es)) (hz : es.length < 1000000) : fAppend (.ref l) [y] st = .ok .non (st.set l (.lst (es ++ [y]))) := by
  unfold fAppend; simp only [h, if_pos hz]
theorem f_pop {st : Store} {l : Nat} {es : List D} {y : D} (h : st[l]? = some (.lst (es ++ [y]))) : fPop (.ref l) [] st = .ok y (st.set l (.lst es)) := by
  unfold fPop
  simp only [h]
  have e : (es ++ [y])[(es ++ [y]).length - 1]? = some y := by
    rw [List.length_append, List.length_singleton, Nat.add_sub_cancel]; simp
  simp only [e, List.dropLast_concat]
theorem rec_l {st : Store} {l : Nat} {es : List D} (h : st[l]? = some (.lst es)) : recv "list" st (.ref l) = true := by
  show ("list" == "list" && (itemsAt st l).isSome) = true
  rw [items_l h]; rfl
@[simp] theorem rec_s {st : Store} {x : Str} : recv "str" st (.str x) = true := rfl
theorem tru_l {st : Store} {l : Nat} {es : List D} (h : st[l]? = some (.lst es)) : truD st (.ref l) = some (!es.isEmpty) := by
  show (itemsAt st l).map (fun ds => !ds.isEmpty) = _
  rw [items_l h]; rfl
theorem set_f {st : Store} {l k : Nat} {es : List D} {d : D} (h : st[l]? = some (.lst es)) (hk : k < es.length) : setF (.ref l) (.int (k : Nat)) d st = .ok () (st.set l (.lst (es.set k d))) := by
  unfold setF
  simp only [h]
  have e : ixN es.length (k : Int) = some k := by
    unfold ixN
    rw [if_pos (Int.natCast_nonneg k), if_pos (by omega)]; simp
  simp only [e]
theorem lenL {s : Store} {r : Nat} {es : List D} (h : s[r]? = some (.lst es)) : fLen [.ref r] s = .ok (.int (es.length : Nat)) s := by
  unfold fLen
  simp only [items_l h]
theorem rng1_ok {n : Nat} {s : Store} (h : n ≤ 1000000000) : fRng1 [.int (n : Nat)] s = .ok (sItems (rng 0 n)) s := by
  show (if (n : Int) ≤ 1000000000 ∧ -1000000000 ≤ (n : Int) then Out.ok (sItems (rng 0 (n : Int).toNat)) s else Out.no) = _
  rw [if_pos (by omega), Int.toNat_natCast]
theorem ev_rng1 {n : Nat} {s : Store} {env : Mi.Env} {r : MA} (hr : r env s = .ok [.int (n : Nat)] s) (h : n ≤ 1000000000) : Ev (iRng1 r env s) (sItems (rng 0 n)) s := fun K E k => by
  unfold iRng1
  rw [hr, Out.bind_ok, rng1_ok h]; exact k
@[simp] theorem rng_len {lo : Int} {n : Nat} : (rng lo n).length = n := by simp [rng]
theorem rng_get {lo : Int} {n i : Nat} {d : D} (h : (rng lo n)[i]? = some d) : i < n ∧ d = .int (lo + (i : Int)) := by
  have hi : i < n := by have := (List.getElem?_eq_some_iff.mp h).1; simpa using this
  refine ⟨hi, ?_⟩
  unfold rng at h
  rw [List.getElem?_map, List.getElem?_range hi] at h
  exact (Option.some.inj h).symm
/-- lists of texts, of numbers -/
def sL (ws : List (List Nat)) : List D := ws.map fun w => .str (S w)
def iL (cs : List Nat) : List D := cs.map fun (k : Nat) => .int (k : Int)
@[simp] theorem sL_len {ws : List (List Nat)} : (sL ws).length = ws.length := List.length_map ..
@[simp] theorem iL_len {ws : List Nat} : (iL ws).length = ws.length := List.length_map ..
@[simp] theorem sL_app {a b : List (List Nat)} : sL (a ++ b) = sL a ++ sL b := List.map_append ..
@[simp] theorem iL_app {a b : List Nat} : iL (a ++ b) = iL a ++ iL b := List.map_append ..
theorem iL_one {k : Nat} : [D.int (k : Int)] = iL [k] := rfl
theorem sL_one {w : List Nat} : [D.str (S w)] = sL [w] := rfl
theorem iL_get {cs : List Nat} {i : Nat} : (iL cs)[i]? = cs[i]?.map fun (k : Nat) => D.int (k : Int) := List.getElem?_map ..
theorem sL_get {cs : List (List Nat)} {i : Nat} : (sL cs)[i]? = cs[i]?.map fun w => D.str (S w) := List.getElem?_map ..
theorem iL_empty {xs : List Nat} : (iL xs).isEmpty = xs.isEmpty := by cases xs <;> rfl
theorem iL_set {cs : List Nat} {i k : Nat} : (iL cs).set i (.int (k : Int)) = iL (cs.set i k) := by unfold iL; rw [List.map_set]
section
variable {N : Env → Store → Prop} {R : D → Store → Prop} {E : Str → Fs → Env → Store → Prop} {env : Env} {st st' : Store} {m mo mi' : ME} {t : MT} {k1 k2 : MS} {i : Nat} {v : D} {g : MG}
theorem w_set (h : wp (m env st) (fun d st' => N (env.set i (some d)) st') fun c fs st' => E c fs env st') : wpS (kSet i m env st) N R E := by
  unfold kSet; rw [wpS_lift]; exact h
theorem w_asg (h : wp (m env st) (fun d st' => ∃ env', g d env = some env' ∧ N env' st') fun c fs st' => E c fs env st') : wpS (kAsg g m env st) N R E := by
  unfold kAsg
  rw [wpS_lift]
  cases e : m env st with
  | no => rw [e] at h; exact h
  | ex c fs st' => rw [e] at h; exact h
  | ok d st' =>
    rw [e] at h
    obtain ⟨env', e1, e2⟩ := h
    rw [wp_ok, e1]
    exact e2
theorem w_ret (h : wp (m env st) R fun c fs st' => E c fs env st') : wpS (kRet m env st) N R E := by
  unfold kRet; rw [wpS_lift]; exact h
theorem w_expr (h : wp (m env st) (fun _ st' => N env st') fun c fs st' => E c fs env st') : wpS (kExpr m env st) N R E := by
  unfold kExpr; rw [wpS_lift]; exact h
end
end Mi
/-! ## Sp0 -/
set_option Elab.async false
set_option linter.all false
set_option maxRecDepth 100000
set_option maxHeartbeats 2000000
namespace K65
open PySem L2 SX Mi
theorem wp_cases {α : Type} {o : Out α} {Q : α → Store → Prop} {E : Str → Fs → Store → Prop} (h : wp o Q E) : (∃ a st', o = .ok a st' ∧ Q a st') ∨ (∃ c fs st', o = .ex c fs st' ∧ E c fs st') := by
  cases o with
  | no => exact h.elim
  | ok a st' => exact .inl ⟨a, st', rfl, h⟩
  | ex c fs st' => exact .inr ⟨c, fs, st', rfl, h⟩
theorem wp_ok_eq {α : Type} {o : Out α} {v : α} {st' : Store} (h : wp o (fun a s => a = v ∧ s = st') (fun _ _ _ => False)) : o = .ok v st' := by
  obtain ⟨a, s, e, rfl, rfl⟩ := wp_get h
  exact e
variable {st : Store} {l a : List Nat} {c : Nat}
theorem begins_eq : m_a_begins [.str (S [c])] st = .ok (.bl (decide (c ∈ LET))) st := by
  refine wp_ok_eq (wp_def ?_)
  refine s_ret (fun K E k => by simp; exact k) ⟨rfl, rfl⟩
theorem goes_eq : m_a_goes_on [.str (S [c])] st = .ok (.bl (decide (c ∈ LET) || decide (c ∈ OTH))) st := by
  refine wp_ok_eq (wp_def ?_)
  refine s_ret (v := .bl (decide (c ∈ LET) || decide (c ∈ OTH))) (st' := st) (fun K E k => ?_) ⟨rfl, rfl⟩
  by_cases h : c ∈ LET <;> simp [h] at k ⊢ <;> exact k

def goes (c : Nat) : Bool := decide (c ∈ LET) || decide (c ∈ OTH)
def wordAt : List Nat → Option (List Nat)
  | [] => none
  | c :: r => if c = 46 then some [46] else if c ∈ LET then some (c :: (r.takeWhile goes).take 15) else none
theorem wordAt_cons (c : Nat) (r : List Nat) : wordAt (c :: r) = if c = 46 then some [46] else if c ∈ LET then some (c :: (r.takeWhile goes).take 15) else none := rfl
abbrev eIT (line at' : D) : Fs := [("at", at'), ("line", line)]
theorem takeWhile_at {p : Nat → Bool} : ∀ (r : List Nat) (j : Nat), (∀ i, i < j → ∃ c, r[i]? = some c ∧ p c = true) → (r[j]? = none ∨ ∃ c, r[j]? = some c ∧ p c = false) → r.takeWhile p = r.take j
  | [], j, _, _ => by simp
  | c :: r, 0, _, h => by
    rcases h with h | ⟨d, h, hp⟩
    · simp at h
    · simp at h; subst h; simp [hp]
  | c :: r, j + 1, hi, h => by
    obtain ⟨d, h1, h2⟩ := hi 0 (by omega)
    simp at h1; subst h1
    rw [List.takeWhile_cons, if_pos h2, List.take_succ_cons, takeWhile_at r j (fun i hij => ?_) (by simpa using h)]
    obtain ⟨d, h1, h2⟩ := hi (i + 1) (by omega)
    exact ⟨d, by simpa using h1, h2⟩
theorem word_wp {n : Nat} (hl : l.length ≤ 1000000) (hn : n ≤ l.length) : wp (m_a_word_at [.str (S l), .int (n : Nat), .bl false] st) (fun d st' => ∃ w, wordAt (l.drop n) = some w ∧ d = .str (S w) ∧ st' = st)
    (fun c fs st' => wordAt (l.drop n) = none ∧ c = "InvalidText" ∧ fs = eIT (.int 0) (.int (n : Nat)) ∧ st' = st) := by
  refine wp_def (show wpS (b_a_word_at [some (.str (S l)), some (.int (n : Nat)), some (.bl false), none, none] st) _ _ _ from ?_)
  refine s_seq (s_if (fun K E k => by simp [hl]; exact k) (fun h => ?_) fun h => s_skip ?_)
  · have h := of_decide_eq_true h
    refine s_raise (fun K E k => by simp; exact k) ⟨?_, rfl, rfl, rfl⟩
    have e : n = l.length := by omega
    rw [e, List.drop_length]; rfl
  have hlt : n < l.length := by
    have := of_decide_eq_false h
    omega
  obtain ⟨c, hc⟩ : ∃ c, l[n]? = some c := ⟨l[n], List.getElem?_eq_getElem hlt⟩
  have hd : l.drop n = c :: l.drop (n + 1) := by
    rw [List.drop_eq_getElem_cons hlt]
    congr 1
    rw [List.getElem?_eq_getElem hlt] at hc
    exact Option.some.inj hc
  refine s_seq (s_set (v := .str (S [c])) (st' := st) (fun K E k => by simp [hl, atI_k, hc]; exact k) ?_)
  show wpS _ _ _ _
  refine s_seq (s_if (b := decide (c = 46)) (st' := st) (fun K E k => ?_) (fun h => ?_) fun h => s_skip ?_)
  · by_cases h : c = 46 <;> simp [h] at k ⊢ <;> exact k
  · have h := of_decide_eq_true h
    subst h
    refine s_ret (fun K E k => by simp; exact k) ⟨[46], by rw [hd]; rfl, rfl, rfl⟩
  have h46 : ¬ c = 46 := of_decide_eq_false h
  refine s_seq (s_if (fun K E k => by simp [begins_eq]; exact k) (fun h => ?_) fun h => s_skip ?_)
  · have h : c ∉ LET := by simpa using h
    refine s_raise (fun K E k => by simp; exact k) ⟨?_, rfl, rfl, rfl⟩
    rw [hd]; rw [wordAt_cons, if_neg h46, if_neg h]
  have hL : c ∈ LET := by simpa using h
  refine s_seq (s_set (v := .int ((n + 1 : Nat) : Int)) (st' := st) (fun K E k => by simp; exact k) ?_)
  refine s_seq ?_
  refine s_while (fun j env s => ∃ e : Nat, s = st ∧ env = [some (.str (S l)), some (.int (n : Nat)), some (.bl false), some (.str (S [c])), some (.int (e : Nat))] ∧ n + 1 ≤ e ∧ e ≤ n + 16 ∧ e ≤ l.length ∧ j = n + 16 - e ∧
    ∀ i, i < e - (n + 1) → ∃ d, (l.drop (n + 1))[i]? = some d ∧ goes d = true) 15 fuel (by decide) ⟨n + 1, rfl, rfl, by omega, by omega, by omega, by omega, fun i hi => by omega⟩ ?_
  rintro j env s ⟨e, rfl, rfl, he1, he2, he3, rfl, hall⟩
  by_cases h1 : e < l.length
  · obtain ⟨d, hd2⟩ : ∃ d, l[e]? = some d := ⟨l[e], List.getElem?_eq_getElem h1⟩
    by_cases h2 : e < n + 16
    · refine ⟨goes d, s, Ev.eq (fun K E k => ?_), fun hb => ?_, fun hb => ⟨by omega, ?_⟩⟩
      · have h1' : (e : Int) < (l.length : Int) := by omega
        have h2' : (e : Int) < (n : Int) + 16 := by omega
        simp [hl, h1', h2', atI_k, hd2, goes_eq]
        exact k
      · refine s_ret (v := .str (S ((l.drop n).take (e - n)))) (st' := s) (fun K E k => by simp [hl, sl_mid (show n ≤ e by omega) hn]; exact k) ⟨c :: (l.drop (n + 1)).take (e - (n + 1)), ?_, ?_, rfl⟩
        · rw [hd]
          rw [wordAt_cons, if_neg h46, if_pos hL]
          rw [takeWhile_at (p := goes) (l.drop (n + 1)) (e - (n + 1)) hall (.inr ⟨d, by rw [List.getElem?_drop, show n + 1 + (e - (n + 1)) = e by omega]; exact hd2, hb⟩), List.take_take]
          congr 3
          omega
        · rw [hd, show e - n = (e - (n + 1)) + 1 by omega, List.take_succ_cons]
      · refine s_set (v := .int ((e + 1 : Nat) : Int)) (st' := s) (fun K E k => by simp; exact k) ⟨n + 16 - (e + 1), by omega, e + 1, rfl, rfl, by omega, by omega, by omega, rfl, fun i hi => ?_⟩
        by_cases hi2 : i < e - (n + 1)
        · exact hall i hi2
        · exact ⟨d, by rw [List.getElem?_drop, show n + 1 + i = e by omega]; exact hd2, hb⟩
    · refine ⟨false, s, Ev.eq (fun K E k => ?_), fun hb => ?_, fun hb => by cases hb⟩
      · have h1' : (e : Int) < (l.length : Int) := by omega
        have h2' : ¬ (e : Int) < (n : Int) + 16 := by omega
        simp [hl, h1', h2']
        exact k
      · refine s_ret (v := .str (S ((l.drop n).take (e - n)))) (st' := s) (fun K E k => by simp [hl, sl_mid (show n ≤ e by omega) hn]; exact k) ⟨c :: (l.drop (n + 1)).take (e - (n + 1)), ?_, ?_, rfl⟩
        · rw [hd]
          rw [wordAt_cons, if_neg h46, if_pos hL]
          congr 2
          have e15 : e - (n + 1) = 15 := by omega
          rw [e15]
          have hh : ∀ (q : List Nat), (∀ i, i < 15 → ∃ d, q[i]? = some d ∧ goes d = true) → (q.takeWhile goes).take 15 = q.take 15 := by
            intro q hq
            rw [e15] at hall
            have := takeWhile_at (p := fun _ => true) q
            clear this
            have key : ∀ (k : Nat) (q : List Nat), (∀ i, i < k → ∃ d, q[i]? = some d ∧ goes d = true) → (q.takeWhile goes).take k = q.take k := by
              intro k
              induction k with
              | zero => intro q _; simp
              | succ k ih =>
                intro q hq
                obtain ⟨d, h1, h2⟩ := hq 0 (by omega)
                cases q with
                | nil => simp at h1
                | cons x q =>
                  simp at h1; subst h1
                  rw [List.takeWhile_cons, if_pos h2, List.take_succ_cons, List.take_succ_cons, ih q fun i hi => by simpa using hq (i + 1) (by omega)]
            exact key 15 q hq
          exact hh _ (by rw [e15] at hall; exact hall)
        · rw [hd, show e - n = (e - (n + 1)) + 1 by omega, List.take_succ_cons]
  · refine ⟨false, s, Ev.eq (fun K E k => ?_), fun hb => ?_, fun hb => by cases hb⟩
    · have h1' : ¬ (e : Int) < (l.length : Int) := by omega
      simp [hl, h1']
      exact k
    · refine s_ret (v := .str (S ((l.drop n).take (e - n)))) (st' := s) (fun K E k => by simp [hl, sl_mid (show n ≤ e by omega) hn]; exact k) ⟨c :: (l.drop (n + 1)).take (e - (n + 1)), ?_, ?_, rfl⟩
      · rw [hd]
        rw [wordAt_cons, if_neg h46, if_pos hL]
        rw [takeWhile_at (p := goes) (l.drop (n + 1)) (e - (n + 1)) hall (.inl (List.getElem?_eq_none (by simp; omega))), List.take_take]
        congr 3
        omega
      · rw [hd, show e - n = (e - (n + 1)) + 1 by omega, List.take_succ_cons]
theorem word_eq {n : Nat} (hl : l.length ≤ 1000000) (hn : n ≤ l.length) : m_a_word_at [.str (S l), .int (n : Nat), .bl false] st = match wordAt (l.drop n) with
    | some w => .ok (.str (S w)) st
    | none => .ex "InvalidText" (eIT (.int 0) (.int (n : Nat))) st := by
  rcases wp_cases (word_wp (st := st) hl hn) with ⟨a, s, e, w, h1, rfl, rfl⟩ | ⟨c, fs, s, e, h1, rfl, rfl, rfl⟩ <;> rw [e, h1]
end K65
/-! ## Sp1 -/
set_option Elab.async false
set_option linter.all false
set_option maxRecDepth 100000
set_option maxHeartbeats 2000000
namespace K65
open PySem L2 SX Mi
def closes : List Nat → List Nat → List Nat × List Nat
  | i :: stk, c :: r => if c = 41 then closes stk r else (i :: stk, c :: r)
  | stk, r => (stk, r)
theorem closes_nil (r : List Nat) : closes [] r = ([], r) := by cases r <;> rfl
theorem closes_no (stk : List Nat) : closes stk [] = (stk, []) := by cases stk <;> rfl
theorem closes_cons (i : Nat) (stk : List Nat) (c : Nat) (r : List Nat) : closes (i :: stk) (c :: r) = if c = 41 then closes stk r else (i :: stk, c :: r) := rfl
variable {st : Store} {l a : List Nat} {c : Nat}
theorem drop_at {l : List Nat} {n c : Nat} (h : l[n]? = some c) : l.drop n = c :: l.drop (n + 1) := by
  obtain ⟨hlt, e⟩ := List.getElem?_eq_some_iff.mp h
  rw [List.drop_eq_getElem_cons hlt, e]
theorem mid1 {l : List Nat} {n : Nat} (hn : n ≤ l.length) : Txt.slice (S l) (some (n : Int)) (some ((n : Int) + 1)) = S ((l.drop n).take 1) := by
  have e := sl_mid (a := l) (i := n) (j := n + 1) (by omega) hn
  rw [show n + 1 - n = 1 by omega] at e
  exact e
theorem take1_eq {r : List Nat} {c : Nat} : (r.take 1 = [c]) ↔ ∃ r', r = c :: r' := by
  cases r with
  | nil => simp
  | cons d r => simp
def closeQ (l stk : List Nat) (n A : Nat) (st : Store) (d : D) (st' : Store) : Prop := ∃ n' : Nat, n' ≤ l.length ∧ n ≤ n' ∧ l.drop n' = (closes stk (l.drop n)).2 ∧ d = .int (n' : Nat) ∧ st' = st.set A (.lst (iL (closes stk (l.drop n)).1.reverse))
theorem close_eq {n A : Nat} {stk : List Nat} (hl : l.length ≤ 900000) (hn : n ≤ l.length) (hA : st[A]? = some (.lst (iL stk.reverse))) : ∃ n', n' ≤ l.length ∧ n ≤ n' ∧ l.drop n' = (closes stk (l.drop n)).2 ∧
    m_a_close [.str (S l), .int (n : Nat), .ref A] st = .ok (.int (n' : Nat)) (st.set A (.lst (iL (closes stk (l.drop n)).1.reverse))) := by
  have key : wp (m_a_close [.str (S l), .int (n : Nat), .ref A] st) (closeQ l stk n A st) fun _ _ _ => False := by
    refine wp_def (show wpS (b_a_close [some (.str (S l)), some (.int (n : Nat)), some (.ref A)] st) _ _ _ from ?_)
    refine s_seq ?_
    refine s_while (fun j env s => ∃ (m : Nat) (stk1 : List Nat), env = [some (.str (S l)), some (.int (m : Nat)), some (.ref A)] ∧ s = st.set A (.lst (iL stk1.reverse)) ∧ n ≤ m ∧ m ≤ l.length ∧ closes stk1 (l.drop m) = closes stk (l.drop n) ∧ j = l.length - m) (l.length - n) fuel (by unfold fuel; omega)
      ⟨n, stk, rfl, ?_, Nat.le_refl _, hn, rfl, rfl⟩ ?_
    · have := set_at (o' := .lst (iL stk.reverse)) hA
      apply List.ext_getElem?
      intro i
      by_cases hi : A = i
      · subst hi; rw [this, hA]
      · rw [set_no hi]
    rintro j env s ⟨m, stk1, rfl, hse, hm0, hm, hc, rfl⟩
    have hs : s[A]? = some (.lst (iL stk1.reverse)) := by rw [hse]; exact set_at hA
    have fin : (closes stk1 (l.drop m) = (stk1, l.drop m)) → wpS (kRet (mVar 1) [some (.str (S l)), some (.int (m : Nat)), some (.ref A)] s) (fun _ st' => closeQ l stk n A st .non st') (closeQ l stk n A st) (fun (_ : Str) (_ : Fs) (_ : Mi.Env) (_ : Store) => False) := fun h => by
      rw [hc] at h
      refine s_ret (fun K E k => by simp; exact k) ⟨m, hm, hm0, by rw [h], rfl, by rw [hse, h]⟩
    cases stk1 with
    | nil =>
      refine ⟨false, s, Ev.eq (fun K E k => by simp [tru_l hs, iL]; exact k), fun _ => fin (closes_nil _), fun h => by cases h⟩
    | cons i stk1 =>
      have h41 : ∀ {b : Bool}, b = decide (List.take 1 (l.drop m) = [41]) → mAndT (mTru (mVar 2)) (mB (mBin fEq (mSl (mVar 0) (mOS (mVar 1)) (mOS (mBin fAdd (mVar 1) (mC (.int 1))))) (mC (.str ")")))) [some (.str (S l)), some (.int (m : Nat)), some (.ref A)] s = .ok b s := by
        rintro b rfl
        refine Ev.eq (fun K E k => ?_)
        simp [tru_l hs, iL, show l.length ≤ 1000000 by omega, mid1 hm]
        exact k
      have hs' : s[A]? = some (.lst (iL stk1.reverse ++ [.int (i : Nat)])) := by
        rw [hs]; simp [iL]
      by_cases hb : List.take 1 (l.drop m) = [41]
      · obtain ⟨r', hr'⟩ := take1_eq.mp hb
        have hlt : m < l.length := by
          have := congrArg List.length hr'
          simp at this; omega
        have hr2 : r' = l.drop (m + 1) := by
          have e := drop_at (List.getElem?_eq_getElem hlt)
          rw [hr'] at e
          exact (List.cons.inj e).2
        refine ⟨true, s, h41 (by simp [hb]), fun h => (by cases h), fun _ => ⟨by omega, ?_⟩⟩
        refine s_seq (s_expr (v := .int (i : Nat)) (st' := s.set A (.lst (iL stk1.reverse))) (fun K E k => ?_) ?_)
        · simp [rec_l hs', f_pop hs']
          exact k
        refine s_set (v := .int ((m + 1 : Nat) : Int)) (fun K E k => by simp; exact k) ⟨l.length - (m + 1), by omega, m + 1, stk1, rfl, by rw [hse, List.set_set], by omega, by omega, ?_, rfl⟩
        rw [← hc, hr', closes_cons, if_pos rfl, hr2]
      · refine ⟨false, s, h41 (by simp [hb]), fun _ => fin ?_, fun h => by cases h⟩
        cases hd : l.drop m with
        | nil => rfl
        | cons d r =>
          rw [closes_cons, if_neg]
          rintro rfl
          exact hb (by rw [hd]; rfl)
  obtain ⟨d, s, e, n', h1, h2, h3, rfl, rfl⟩ := wp_get key
  exact ⟨n', h1, h2, h3, e⟩
end K65
/-! ## Sp2 -/
set_option Elab.async false
set_option linter.all false
set_option maxRecDepth 100000
set_option maxHeartbeats 2000000
namespace K65
open PySem L2 SX Mi
variable {st : Store} {l a : List Nat} {c : Nat}
theorem word_pre {r w : List Nat} (h : wordAt r = some w) : w <+: r ∧ 1 ≤ w.length ∧ w.length ≤ 16 ∧ w ≠ [63] := by
  cases r with
  | nil => cases h
  | cons c r =>
    rw [wordAt_cons] at h
    by_cases h1 : c = 46
    · rw [if_pos h1] at h; cases h; subst h1; exact ⟨⟨r, rfl⟩, by decide, by decide, by decide⟩
    · rw [if_neg h1] at h
      by_cases h2 : c ∈ LET
      · rw [if_pos h2] at h; cases h
        refine ⟨?_, by simp, by simp; omega, ?_⟩
        · rw [List.cons_prefix_cons]
          exact ⟨rfl, (List.take_prefix _ _).trans (List.takeWhile_prefix _)⟩
        · intro e
          have := (List.cons.inj e).1
          subst this
          exact absurd h2 (by decide)
      · rw [if_neg h2] at h; cases h
def bump (stk cs : List Nat) : List Nat := match stk with
  | [] => cs
  | i :: _ => cs.set i (cs[i]?.getD 0 + 1)
@[simp] theorem bump_len (stk cs : List Nat) : (bump stk cs).length = cs.length := by unfold bump; split <;> simp
def parseF : Nat → List Nat → List Nat → List (List Nat) → List Nat → Option (List (List Nat) × List Nat)
  | 0, _, _, _, _ => none
  | f + 1, r, stk, ws, cs => match wordAt r with
    | none => none
    | some w =>
      if (r.drop w.length).take 1 = [40] ∧ w ≠ [46] then parseF f ((r.drop w.length).drop 1) (ws.length :: stk) (ws ++ [w]) (bump stk cs ++ [0])
      else match (closes stk (r.drop w.length)).1 with
        | [] => if (closes stk (r.drop w.length)).2 = [] then some (ws ++ [w], bump stk cs ++ [0]) else none
        | i :: stk' => if (closes stk (r.drop w.length)).2.take 1 = [44] ∧ (bump stk cs ++ [0])[i]? ≠ some 4 then parseF f ((closes stk (r.drop w.length)).2.drop 1) (i :: stk') (ws ++ [w]) (bump stk cs ++ [0]) else none
def parse (l : List Nat) : Option (List (List Nat) × List Nat) := parseF (l.length + 1) l [] [] []
def rowsD (ws : List (List Nat)) (cs : List Nat) : List D := (ws.zip cs).map fun p => .tup [.str (S p.1), .int (p.2 : Nat)]
theorem closes_sub : ∀ (stk r : List Nat), (closes stk r).1 <:+ stk ∧ (closes stk r).2 <:+ r
  | [], r => by rw [closes_nil]; exact ⟨List.suffix_refl _, List.suffix_refl _⟩
  | i :: stk, [] => by rw [closes_no]; exact ⟨List.suffix_refl _, List.suffix_refl _⟩
  | i :: stk, c :: r => by
    rw [closes_cons]
    split
    · obtain ⟨h1, h2⟩ := closes_sub stk r
      exact ⟨h1.trans (List.suffix_cons _ _), h2.trans (List.suffix_cons _ _)⟩
    · exact ⟨List.suffix_refl _, List.suffix_refl _⟩
def readInv (l : List Nat) (st : Store) (j : Nat) (env : Mi.Env) (s : Store) : Prop := Fr [] st s ∧ ((∃ (n : Nat) (stk : List Nat) (ws : List (List Nat)) (cs : List Nat) (f : Nat) (w : Option D), env = [some (.str (S l)), some (.bl false), some (.ref st.length), some (.ref (st.length + 1)), some (.ref (st.length + 2)), some (.int (n : Nat)), some (.bl false), w] ∧
    s[st.length]? = some (.lst (sL ws)) ∧ s[st.length + 1]? = some (.lst (iL cs)) ∧ s[st.length + 2]? = some (.lst (iL stk.reverse)) ∧ n ≤ l.length ∧ (∀ i ∈ stk, i < cs.length) ∧ ws.length = cs.length ∧ cs.length ≤ n ∧ stk.length ≤ n ∧
    parseF f (l.drop n) stk ws cs = parse l ∧ l.length - n < f ∧ j = l.length - n + 1) ∨
  (∃ (n : Nat) (ws : List (List Nat)) (cs : List Nat) (w : Option D) (x : Option D), env = [some (.str (S l)), some (.bl false), some (.ref st.length), some (.ref (st.length + 1)), x, some (.int (n : Nat)), some (.bl true), w] ∧
    s[st.length]? = some (.lst (sL ws)) ∧ s[st.length + 1]? = some (.lst (iL cs)) ∧ n ≤ l.length ∧ ws.length = cs.length ∧ cs.length ≤ l.length ∧ (if n = l.length then some (ws, cs) else none) = parse l ∧ j = 0))
def readQ (l : List Nat) (st : Store) (d : D) (st' : Store) : Prop := ∃ ws cs, parse l = some (ws, cs) ∧ d = .tup (rowsD ws cs) ∧ Fr [] st st'
def readE (l : List Nat) (st : Store) (c : Str) (fs : Fs) (st' : Store) : Prop := parse l = none ∧ c = "InvalidText" ∧ (∃ n : Nat, fs = eIT (.int 0) (.int (n : Nat))) ∧ Fr [] st st'
theorem getD_lt {cs : List Nat} {i : Nat} (h : i < cs.length) : ∃ k, cs[i]? = some k := ⟨cs[i], List.getElem?_eq_getElem h⟩
theorem mid_k {l : List Nat} {n k : Nat} (hn : n ≤ l.length) (hk : k ≤ 1000000) : True := trivial
theorem isi_ss {x : Str} {st : Store} : fIsi [.str x, .ty "str"] st = .ok (.bl true) st := by
  have e : kitB "str" "str" = some true := by decide +kernel
  unfold fIsi
  simp only [tyD, e]

theorem ix_last {s : Store} {A i : Nat} {es : List Nat} (h : s[A]? = some (.lst (iL (es ++ [i])))) : fIx (.ref A) (.int (-1)) s = .ok (.int (i : Nat)) s := by
  unfold fIx
  simp only [items_l h, iL_app]
  rw [show iL [i] = [D.int (i : Nat)] from rfl, atI_end]
theorem ix_at {s : Store} {A i k : Nat} {es : List Nat} (h : s[A]? = some (.lst (iL es))) (hk : es[i]? = some k) : fIx (.ref A) (.int (i : Nat)) s = .ok (.int (k : Nat)) s := by
  unfold fIx
  simp only [items_l h, atI_k, iL_get, hk]
  rfl
theorem read_wp (hl : l.length ≤ 900000) : wp (m_a_read [.str (S l), .bl false] st) (readQ l st) (readE l st) := by
  refine wp_def (show wpS (b_a_read [some (.str (S l)), some (.bl false), none, none, none, none, none, none] st) _ _ _ from ?_)
  refine s_seq (s_if (b := false) (st' := st) (fun K E k => by simp [isi_ss]; exact k) (fun h => by cases h) fun _ => s_skip ?_)
  refine s_seq (s_par3 (d1 := .ref st.length) (d2 := .ref (st.length + 1)) (d3 := .ref (st.length + 2)) (st' := st ++ [.lst []] ++ [.lst []] ++ [.lst []]) (fun K E k => by simp at k ⊢; exact k) ?_)
  refine s_seq (s_asg (v := .tup [.int 0, .bl false]) (st' := st ++ [.lst []] ++ [.lst []] ++ [.lst []]) (fun K E k => by simp at k ⊢; exact k) rfl ?_)
  refine s_seq ?_
  refine s_while (readInv l st) (l.length + 1) fuel (by unfold fuel; omega) ⟨Fr.refl.app.app.app, .inl ⟨0, [], [], [], l.length + 1, none, rfl, ?_, ?_, ?_, Nat.zero_le _, (fun _ h => nomatch h), rfl, Nat.le_refl _, Nat.le_refl _, rfl, by omega, by omega⟩⟩ ?_
  · simp [sL]
  · simp [iL]
  · simp [iL]
  rintro j env s ⟨fr, ⟨n, stk, ws, cs, f, w0, rfl, hW, hC, hA, hn, hi, hwc, hcn, hsn, hp, hf, rfl⟩ | ⟨n, ws, cs, w0, x0, rfl, hW, hC, hn, hwc, hcl, hp, rfl⟩⟩
  · refine ⟨true, s, Ev.eq (fun K E k => by simp; exact k), (fun h => by cases h), fun _ => ⟨by omega, ?_⟩⟩
    cases f with
    | zero => omega
    | succ f =>
    unfold parseF at hp
    -- the word
    refine s_seq (w_set ?_)
    have hwe := word_eq (st := s) (show l.length ≤ 1000000 by omega) hn
    cases hw : wordAt (l.drop n) with
    | none =>
      rw [hw] at hwe hp
      simp [hwe]
      exact ⟨hp.symm, rfl, ⟨n, rfl⟩, fr⟩
    | some w =>
    rw [hw] at hwe hp
    simp only at hp
    simp [hwe]
    obtain ⟨hpre, hw1, hw16, hw63⟩ := word_pre hw
    have hwl : n + w.length ≤ l.length := by
      have := hpre.length_le
      simp at this; omega
    have hdw : (l.drop n).drop w.length = l.drop (n + w.length) := List.drop_drop ..
    rw [hdw] at hp
    refine s_seq (s_set (v := .int ((n + w.length : Nat) : Int)) (st' := s) (fun K E k => by simp [show w.length ≤ 1000000 by omega]; exact k) ?_)
    generalize hm : n + w.length = m at *
    -- the count of the open one
    refine s_seq ?_
    have next : ∀ s1 : Store, Fr [] st s1 → s1[st.length]? = some (.lst (sL ws)) → s1[st.length + 1]? = some (.lst (iL (bump stk cs))) → s1[st.length + 2]? = some (.lst (iL stk.reverse)) →
        wpS ((kSeq (kExpr (mM fAppend (mRecv "list" (mVar 2)) (mCons (mVar 7) mNil)))
  (kSeq (kExpr (mM fAppend (mRecv "list" (mVar 3)) (mCons (mC (.int 0)) mNil)))
  (kIf (mAndT (mB (mBin fEq (mSl (mVar 0) (mOS (mVar 5)) (mOS (mBin fAdd (mVar 5) (mC (.int 1))))) (mC (.str "(")))) (mAndT (mB (mBin fNe (mVar 7) (mC (.str ".")))) (mB (mBin fNe (mVar 7) (mC (.str "?")))))) (kSeq (kExpr (mM fAppend (mRecv "list" (mVar 4)) (mCons (mBin fSub (mFn fLen (mCons (mVar 2) mNil)) (mC (.int 1))) mNil)))
  (kSet 5 (mBin fAdd (mVar 5) (mC (.int 1))))) (kSeq (kSet 5 (mCall m_a_close (mCons (mVar 0) (mCons (mVar 5) (mCons (mVar 4) mNil)))))
  (kSeq (kSet 6 (mNotV (mVar 4)))
  (kIf (mNotT (mTru (mVar 6))) (kSeq (kIf (mOrT (mB (mBin fNe (mSl (mVar 0) (mOS (mVar 5)) (mOS (mBin fAdd (mVar 5) (mC (.int 1))))) (mC (.str ",")))) (mB (mBin fEq (mBin fIx (mVar 3) (mBin fIx (mVar 4) (mNeg (mC (.int 1))))) (mC (.int 4))))) (kRaise "InvalidText" "line" "at" (mCons (mC (.int 0)) (mCons (mVar 5) mNil))) kSkip)
  (kSet 5 (mBin fAdd (mVar 5) (mC (.int 1))))) kSkip))))))
          [some (.str (S l)), some (.bl false), some (.ref st.length), some (.ref (st.length + 1)), some (.ref (st.length + 2)), some (.int (m : Nat)), some (.bl false), some (.str (S w))] s1)
          (fun env s => ∃ j', j' < l.length - n + 1 ∧ readInv l st j' env s) (readQ l st) (fun c fs _ st' => readE l st c fs st') := by
      intro s1 fr1 hW1 hC1 hA1
      have nWC : st.length ≠ st.length + 1 := by omega
      have nWA : st.length ≠ st.length + 2 := by omega
      have nCA : st.length + 1 ≠ st.length + 2 := by omega
      refine s_seq (s_expr (v := .non) (st' := s1.set st.length (.lst (sL (ws ++ [w])))) (fun K E k => ?_) ?_)
      · simp [rec_l hW1, f_append hW1 (show (sL ws).length < 1000000 by simp; omega)]
        rw [sL_app, ← sL_one] at k
        exact k
      generalize hs2 : s1.set st.length (.lst (sL (ws ++ [w]))) = s2
      have hW2 : s2[st.length]? = some (.lst (sL (ws ++ [w]))) := by rw [← hs2]; exact set_at hW1
      have hC2 : s2[st.length + 1]? = some (.lst (iL (bump stk cs))) := by rw [← hs2, set_no nWC]; exact hC1
      have hA2 : s2[st.length + 2]? = some (.lst (iL stk.reverse)) := by rw [← hs2, set_no nWA]; exact hA1
      have fr2 : Fr [] st s2 := by rw [← hs2]; exact fr1.set (.inl (Nat.le_refl _))
      refine s_seq (s_expr (v := .non) (st' := s2.set (st.length + 1) (.lst (iL (bump stk cs ++ [0])))) (fun K E k => ?_) ?_)
      · simp [rec_l hC2, f_append hC2 (show (iL (bump stk cs)).length < 1000000 by simp; omega)]
        rw [iL_app, show iL [0] = [D.int 0] from rfl] at k
        exact k
      generalize hs3 : s2.set (st.length + 1) (.lst (iL (bump stk cs ++ [0]))) = s3
      have hW3 : s3[st.length]? = some (.lst (sL (ws ++ [w]))) := by rw [← hs3, set_no nWC.symm]; exact hW2
      have hC3 : s3[st.length + 1]? = some (.lst (iL (bump stk cs ++ [0]))) := by rw [← hs3]; exact set_at hC2
      have hA3 : s3[st.length + 2]? = some (.lst (iL stk.reverse)) := by rw [← hs3, set_no nCA]; exact hA2
      have fr3 : Fr [] st s3 := by rw [← hs3]; exact fr2.set (.inl (by omega))
      generalize hcs1 : bump stk cs ++ [0] = cs1 at *
      have lcs1 : cs1.length = cs.length + 1 := by rw [← hcs1]; simp
      have hml : m ≤ l.length := by omega
      refine s_if (b := decide ((l.drop m).take 1 = [40] ∧ w ≠ [46])) (st' := s3) (fun K E k => ?_) (fun hb => ?_) fun hb => ?_
      · by_cases h1 : (l.drop m).take 1 = [40]
        · by_cases h2 : w = [46]
          · simp [show l.length ≤ 1000000 by omega, mid1 hml, h1, h2] at k ⊢; exact k
          · simp [show l.length ≤ 1000000 by omega, mid1 hml, h1, h2, hw63] at k ⊢; exact k
        · simp [show l.length ≤ 1000000 by omega, mid1 hml, h1] at k ⊢; exact k
      · have hb := of_decide_eq_true hb
        rw [if_pos hb] at hp
        obtain ⟨r', hr'⟩ := take1_eq.mp hb.1
        have hlt : m < l.length := by
          have := congrArg List.length hr'
          simp at this; omega
        rw [List.drop_drop] at hp
        refine s_seq (s_expr (v := .non) (st' := s3.set (st.length + 2) (.lst (iL ((ws.length :: stk).reverse)))) (fun K E k => ?_) ?_)
        · have e1 : ((ws ++ [w]).length : Int) - 1 = ((ws.length : Nat) : Int) := by simp
          simp [rec_l hA3, lenL hW3, f_append hA3 (show (iL stk.reverse).length < 1000000 by simp; omega)]
          rw [List.reverse_cons, iL_app, show iL [ws.length] = [D.int (ws.length : Nat)] from rfl] at k
          exact k
        generalize hs4 : s3.set (st.length + 2) (.lst (iL ((ws.length :: stk).reverse))) = s4
        refine s_set (v := .int ((m + 1 : Nat) : Int)) (fun K E k => by simp; exact k) ⟨l.length - (m + 1) + 1, by omega, by rw [← hs4]; exact fr3.set (.inl (by omega)), .inl ⟨m + 1, ws.length :: stk, ws ++ [w], cs1, f, some (.str (S w)), rfl, ?_, ?_, ?_, by omega, ?_, by simp; omega, by omega, by simp; omega, hp, by omega, rfl⟩⟩
        · rw [← hs4, set_no nWA.symm]; exact hW3
        · rw [← hs4, set_no nCA.symm]; exact hC3
        · rw [← hs4]; exact set_at hA3
        · intro i hi'
          rcases List.mem_cons.mp hi' with rfl | h
          · omega
          · have := hi i h; omega
      · have hb := of_decide_eq_false hb
        rw [if_neg hb] at hp
        obtain ⟨m', hm1, hm2, hm3, hcl⟩ := close_eq (st := s3) (A := st.length + 2) hl hml hA3
        generalize hcc : closes stk (l.drop m) = cc at *
        obtain ⟨stk', r2⟩ := cc
        simp only at hm3 hcl hp
        have hsub : stk' <:+ stk := by have := (closes_sub stk (l.drop m)).1; rw [hcc] at this; exact this
        refine s_seq (s_set (v := .int (m' : Nat)) (st' := s3.set (st.length + 2) (.lst (iL stk'.reverse))) (fun K E k => by simp [hcl]; exact k) ?_)
        generalize hs4 : s3.set (st.length + 2) (.lst (iL stk'.reverse)) = s4
        have hW4 : s4[st.length]? = some (.lst (sL (ws ++ [w]))) := by rw [← hs4, set_no nWA.symm]; exact hW3
        have hC4 : s4[st.length + 1]? = some (.lst (iL cs1)) := by rw [← hs4, set_no nCA.symm]; exact hC3
        have hA4 : s4[st.length + 2]? = some (.lst (iL stk'.reverse)) := by rw [← hs4]; exact set_at hA3
        have fr4 : Fr [] st s4 := by rw [← hs4]; exact fr3.set (.inl (by omega))
        refine s_seq (s_set (v := .bl stk'.isEmpty) (st' := s4) (fun K E k => by simp [tru_l hA4, iL_empty]; simpa using k) ?_)
        cases stk' with
        | nil =>
          refine s_if (b := false) (st' := s4) (fun K E k => by simp; exact k) (fun h => by cases h) fun _ => s_skip ⟨0, by omega, fr4, .inr ⟨m', ws ++ [w], cs1, some (.str (S w)), _, rfl, hW4, hC4, hm1, by simp; omega, by omega, ?_, rfl⟩⟩
          rw [← hp, ← hm3]
          by_cases hz : m' = l.length
          · rw [if_pos hz, if_pos (by rw [hz, List.drop_length])]
          · rw [if_neg hz, if_neg]
            intro e
            have := congrArg List.length e
            simp at this; omega
        | cons i stk' =>
          have hic : i < cs1.length := by
            have := hi i (hsub.subset List.mem_cons_self)
            omega
          obtain ⟨k4, hk4⟩ := getD_lt hic
          refine s_if (b := true) (st' := s4) (fun K E k => by simp; exact k) (fun _ => ?_) (fun h => by cases h)
          have hA5 : s4[st.length + 2]? = some (.lst (iL (stk'.reverse ++ [i]))) := by rw [hA4, List.reverse_cons]
          refine s_seq (s_if (b := decide (¬ ((l.drop m').take 1 = [44] ∧ k4 ≠ 4))) (st' := s4) (fun K E k => ?_) (fun hb => ?_) fun hb => s_skip ?_)
          · by_cases h1 : (l.drop m').take 1 = [44]
            · simp [show l.length ≤ 1000000 by omega, mid1 hm1, h1, ix_last hA5, ix_at hC4 hk4]
              by_cases h4 : k4 = 4
              · subst h4; simp [h1] at k ⊢; exact k
              · have h4' : ¬ (k4 : Int) = 4 := by omega
                simp [h1, h4, h4'] at k ⊢; exact k
            · simp [show l.length ≤ 1000000 by omega, mid1 hm1, h1] at k ⊢; exact k
          · have hb := of_decide_eq_true hb
            refine s_raise (fun K E k => by simp; exact k) ⟨?_, rfl, ⟨m', rfl⟩, fr4⟩
            rw [← hp]
            dsimp only
            rw [if_neg]
            rw [← hm3, hk4]
            rintro ⟨h1, h2⟩
            exact hb ⟨h1, fun e => h2 (by rw [e])⟩
          · have hb : (l.drop m').take 1 = [44] ∧ k4 ≠ 4 := Decidable.of_not_not (of_decide_eq_false hb)
            obtain ⟨r', hr'⟩ := take1_eq.mp hb.1
            have hlt : m' < l.length := by
              have := congrArg List.length hr'
              simp at this; omega
            dsimp only at hp
            rw [← hm3, hk4, if_pos ⟨hb.1, fun e => hb.2 (Option.some.inj e)⟩, List.drop_drop] at hp
            refine s_set (v := .int ((m' + 1 : Nat) : Int)) (fun K E k => by simp; exact k) ⟨l.length - (m' + 1) + 1, by omega, fr4, .inl ⟨m' + 1, i :: stk', ws ++ [w], cs1, f, some (.str (S w)), rfl, hW4, hC4, hA4, by omega, ?_, by simp; omega, by omega, ?_, hp, by omega, rfl⟩⟩
            · intro i' hi'
              have := hi i' (hsub.subset hi')
              omega
            · have := hsub.length_le
              omega
    cases stk with
    | nil =>
      refine s_if (b := false) (st' := s) (fun K E k => by simp [tru_l hA, iL]; exact k) (fun h => by cases h) fun _ => s_skip ?_
      exact next s fr hW hC hA
    | cons i stk =>
      have hA' : s[st.length + 2]? = some (.lst (iL (stk.reverse ++ [i]))) := by rw [hA, List.reverse_cons]
      have hic := hi i List.mem_cons_self
      obtain ⟨k0, hk0⟩ := getD_lt hic
      refine s_if (b := true) (st' := s) (fun K E k => by simp [tru_l hA']; rw [← iL_app, iL_empty, show (stk.reverse ++ [i]).isEmpty = false from by cases stk.reverse <;> rfl]; exact k) (fun _ => ?_) (fun h => by cases h)
      refine s_setIx (v := .int ((k0 + 1 : Nat) : Int)) (o := .ref (st.length + 1)) (id := .int (i : Nat)) (st1 := s) (st2 := s) (st3 := s) (fun K E k => ?_) (fun K E k => by simp; exact k) (fun K E k => ?_) (set_f hC (by simpa using hic)) ?_
      · simp [ix_last hA', ix_at hC hk0]; exact k
      · simp [ix_last hA']; exact k
      · have nCW : st.length + 1 ≠ st.length := by omega
        have nCA : st.length + 1 ≠ st.length + 2 := by omega
        refine next _ (fr.set (.inl (by omega))) (by rw [set_no nCW]; exact hW) ?_ (by rw [set_no nCA]; exact hA)
        rw [set_at hC, iL_set]
        show some (Ob.lst (iL (cs.set i (k0 + 1)))) = some (Ob.lst (iL (cs.set i (cs[i]?.getD 0 + 1))))
        rw [hk0]; rfl
  · refine ⟨false, s, Ev.eq (fun K E k => by simp; exact k), (fun _ => ?_), fun h => by cases h⟩
    refine s_seq (s_if (b := decide (n < l.length)) (st' := s) (fun K E k => by simp [show l.length ≤ 1000000 by omega]; simpa using k) (fun hb => ?_) fun hb => s_skip ?_)
    · have hb := of_decide_eq_true hb
      refine s_raise (fun K E k => by simp; exact k) ⟨?_, rfl, ⟨n, rfl⟩, fr⟩
      rw [← hp, if_neg (by omega)]
    · have hb := of_decide_eq_false hb
      have e : n = l.length := by omega
      rw [if_pos e] at hp
      refine s_ret (v := .tup (rowsD ws cs)) (st' := s ++ [.lst (rowsD ws cs)]) (fun K E k => ?_) ⟨ws, cs, hp.symm, rfl, fr.app⟩
      have ez : fListZip [.ref st.length, .ref (st.length + 1)] s = .ok (.ref s.length) (s ++ [.lst (rowsD ws cs)]) := by
        unfold fListZip
        simp only [items_l hW, items_l hC]
        rw [if_pos (by simp; omega)]
        congr 4
        unfold sL iL rowsD
        rw [List.zip_map, List.map_map]
        rfl
      have et : fTuple [.ref s.length] (s ++ [.lst (rowsD ws cs)]) = .ok (.tup (rowsD ws cs)) (s ++ [.lst (rowsD ws cs)]) := by
        unfold fTuple
        simp only [items_l (app_new (st := s))]
      simp [ez, et]
      exact k
end K65
/-! ## Sp3 -/
set_option Elab.async false
set_option linter.all false
set_option maxRecDepth 100000
set_option maxHeartbeats 2000000
namespace K65
open PySem L2 SX Mi
variable {st : Store} {l a : List Nat} {c : Nat}
def cL (w : List Nat) : List D := w.map fun c => .str (S [c])
@[simp] theorem cL_len {w : List Nat} : (cL w).length = w.length := List.length_map ..
theorem cL_get {cs : List Nat} {i : Nat} : (cL cs)[i]? = cs[i]?.map fun c => D.str (S [c]) := List.getElem?_map ..
@[simp] theorem src_s : srcOf (.str (S a)) st = .ok (sItems (cL a)) st := by
  show Out.ok (sItems ((S a).cps.toList.map fun c => D.str ⟨#[c]⟩)) st = _
  rfl
theorem ev_of {α : Type} {o : Out α} {v : α} {st' : Store} (h : o = .ok v st') : Ev o v st' := fun K E k => by rw [h]; exact k
/-- [x for x in text if p x] -/
theorem lc_filter {env : Mi.Env} {m : ME} {i : Nat} {t : MT} (w : List Nat) (p : Nat → Bool) (hm : m env st = .ok (.str (S w)) st) (hi : i < env.length) (hw : w.length < 1000000)
    (ht : ∀ (c : Nat) (s : Store), t ((wipeE env [i]).set i (some (.str (S [c])))) s = .ok (p c) s) :
    ∃ st', mLc (iVal m) [i] (gN i) t (mVar i) env st = .ok (.ref st.length) st' ∧ st'[st.length]? = some (.lst (cL (w.filter p))) ∧ Fr [] st st' := by
  have h1 : Ev (iVal m env st) (sItems (cL w)) st := fun K E k => by
    rw [wp_iVal, hm]; simp; exact k
  obtain ⟨acc, st2, e, h2, h3, h4⟩ := c_lc (own := [i]) (g := gN i) (t := t) (m := mVar i) (cL w) (fun k acc s => acc = cL ((w.take k).filter p) ∧ s[st.length]? = some (.lst acc) ∧ Fr [] st s) h1 rfl
    ⟨rfl, app_new, Fr.refl.app⟩ (fun k acc s _ => rfl) (fun k acc s h => h.2.1) (fun k d acc s hd h => by
      obtain ⟨rfl, hs, fr⟩ := h
      rw [cL_get] at hd
      obtain ⟨c, hc, rfl⟩ := Option.map_eq_some_iff.mp hd
      have hk := (List.getElem?_eq_some_iff.mp hc).1
      have etake : w.take (k + 1) = w.take k ++ [c] := by rw [List.take_succ, hc]; rfl
      refine ⟨_, p c, s, rfl, ht c s, fun hp => ⟨?_, hs, fr⟩, fun hp => ⟨.str (S [c]), s, ?_, hs, ?_, ?_, set_at hs, fr.set (.inl (Nat.le_refl _))⟩⟩
      · rw [etake, List.filter_append]; simp [hp]
      · refine Ev.eq fun K E kk => ?_
        rw [wp_mVar]
        rw [List.getElem?_set_self (by simpa [wipeE] using hi)]
        exact kk
      · rw [cL_len]
        have := List.length_filter_le p (w.take k)
        simp at this; omega
      · rw [etake, List.filter_append]; simp [hp, cL])
  rw [cL_len, List.take_length] at h2
  subst h2
  exact ⟨st2, e, h3, h4⟩
theorem filter_len {w : List Nat} {p : Nat → Bool} : (w.filter p).length = 0 ↔ ∀ c ∈ w, p c = false := by
  rw [List.length_eq_zero_iff, List.filter_eq_nil_iff]
  simp
def validW (w : List Nat) : Bool := decide (w = [46]) || (decide (1 ≤ w.length) && decide (w.length ≤ 16) && (match w with | [] => false | c :: _ => decide (c ∈ LET)) && w.all fun c => decide (c ∈ LOK))
theorem lword_eq {w : List Nat} (hw : w.length ≤ 900000) : ∃ st', m_law_word [.str (S w)] st = .ok (.bl (validW w)) st' ∧ Fr [] st st' := by
  have key : wp (m_law_word [.str (S w)] st) (fun d s => d = .bl (validW w) ∧ Fr [] st s) fun _ _ _ => False := by
    refine wp_def (show wpS (b_law_word [some (.str (S w)), none] st) _ _ _ from ?_)
    refine s_seq (s_if (b := decide (w = [46])) (st' := st) (fun K E k => by simp; exact k) (fun hb => ?_) fun hb => s_skip ?_)
    · have hb := of_decide_eq_true hb
      refine s_ret (v := .bl true) (st' := st) (fun K E k => by simp; exact k) ⟨?_, Fr.refl⟩
      unfold validW; simp [hb]
    have hne : ¬ w = [46] := of_decide_eq_false hb
    cases w with
    | nil =>
      refine s_seq (s_if (b := true) (st' := st) (fun K E k => by simp; exact k) (fun hb => ?_) fun hb => by cases hb)
      exact s_ret (v := .bl false) (st' := st) (fun K E k => by simp; exact k) ⟨rfl, Fr.refl⟩
    | cons c w =>
      refine s_seq (s_if (b := decide (¬ ((c :: w).length ≤ 16 ∧ c ∈ LET))) (st' := st) (fun K E k => ?_) (fun hb => ?_) fun hb => s_skip ?_)
      · have h0 : atI (c :: w) 0 = some c := atI_k (k := 0)
        simp only [List.length_cons] at hw
        have h1 : ¬ ((w.length : Int) + 1 < 1) := by omega
        by_cases h2 : (c :: w).length ≤ 16
        · have h2' : ¬ (16 : Int) < (w.length : Int) + 1 := by simp at h2; omega
          simp [show w.length + 1 ≤ 1000000 by omega, h0, h1, h2'] at k ⊢
          simp at h2
          simp [h2] at k
          exact k
        · have h2' : (16 : Int) < (w.length : Int) + 1 := by simp at h2; omega
          simp [show w.length + 1 ≤ 1000000 by omega, h0, h1, h2'] at k ⊢
          simp at h2
          simp [show ¬ w.length ≤ 15 by omega] at k
          exact k
      · have hb := of_decide_eq_true hb
        refine s_ret (v := .bl false) (st' := st) (fun K E k => by simp; exact k) ⟨?_, Fr.refl⟩
        congr 1
        unfold validW
        rw [decide_eq_false hne]
        cases h : decide ((c :: w).length ≤ 16) <;> simp [h]
        intro h1 h2
        exact absurd ⟨of_decide_eq_true h, h1⟩ hb
      · have hb := Decidable.of_not_not (of_decide_eq_false hb)
        obtain ⟨st', e, h1, h2⟩ := lc_filter (st := st) (env := [some (.str (S (c :: w))), none]) (m := mVar 0) (i := 1) (t := mB (mBin fNotInS (mVar 1) (mC (.str (S LOK))))) (c :: w) (fun d => !decide (d ∈ LOK)) rfl (by simp) (by simp at hb ⊢; omega)
          (fun d s => Ev.eq fun K E k => by simp [wipeE]; exact k)
        refine s_ret (v := .bl (validW (c :: w))) (st' := st') (fun K E k => ?_) ⟨rfl, h2⟩
        have ev : validW (c :: w) = decide (List.filter (fun d => !decide (d ∈ LOK)) (c :: w) = []) := by
          unfold validW
          rw [decide_eq_false hne]
          have h16 := hb.1
          simp only [List.length_cons] at h16
          rw [Bool.eq_iff_iff]
          simp only [decide_eq_true_eq, ← List.length_eq_zero_iff, filter_len]
          simp [hb.2]
          intro _ _
          omega
        generalize List.filter (fun d => !decide (d ∈ LOK)) (c :: w) = F at *
        rw [ev] at k
        simp [e, lenL h1]
        simpa using k
  obtain ⟨d, s, e, rfl, fr⟩ := wp_get key
  exact ⟨s, e, fr⟩
def figs (w : List Nat) : Bool := decide (1 ≤ w.length) && decide (w.length ≤ 60) && !(decide (w.head? = some 48) && decide (1 < w.length)) && w.all fun c => decide (c ∈ DIG)
theorem lfig_eq {w : List Nat} (hw : w.length ≤ 900000) : ∃ st', m_law_figures [.str (S w), .int 60] st = .ok (.bl (figs w)) st' ∧ Fr [] st st' := by
  have key : wp (m_law_figures [.str (S w), .int 60] st) (fun d s => d = .bl (figs w) ∧ Fr [] st s) fun _ _ _ => False := by
    refine wp_def (show wpS (b_law_figures [some (.str (S w)), some (.int 60), none] st) _ _ _ from ?_)
    cases w with
    | nil =>
      refine s_seq (s_if (b := true) (st' := st) (fun K E k => by simp; exact k) (fun hb => ?_) fun hb => by cases hb)
      exact s_ret (v := .bl false) (st' := st) (fun K E k => by simp; exact k) ⟨rfl, Fr.refl⟩
    | cons c w =>
      refine s_seq (s_if (b := decide (¬ ((c :: w).length ≤ 60 ∧ ¬ (c = 48 ∧ 1 < (c :: w).length)))) (st' := st) (fun K E k => ?_) (fun hb => ?_) fun hb => s_skip ?_)
      · have h0 : atI (c :: w) 0 = some c := atI_k (k := 0)
        simp only [List.length_cons] at hw
        have h1 : ¬ ((w.length : Int) + 1 < 1) := by omega
        by_cases h2 : (c :: w).length ≤ 60
        · have h2' : ¬ (60 : Int) < (w.length : Int) + 1 := by simp at h2; omega
          simp at h2
          by_cases h3 : c = 48
          · subst h3
            by_cases h4 : 0 < w.length
            · have h4' : (1 : Int) < (w.length : Int) + 1 := by omega
              simp [show w.length + 1 ≤ 1000000 by omega, h0, h1, h2', h4, h4', h2] at k ⊢
              exact k
            · have h4' : ¬ (1 : Int) < (w.length : Int) + 1 := by omega
              simp [show w.length + 1 ≤ 1000000 by omega, h0, h1, h2', h4, h4', h2] at k ⊢
              exact k
          · simp [show w.length + 1 ≤ 1000000 by omega, h0, h1, h2', h3, h2] at k ⊢
            exact k
        · have h2' : (60 : Int) < (w.length : Int) + 1 := by simp at h2; omega
          simp at h2
          simp [show w.length + 1 ≤ 1000000 by omega, h0, h1, h2', show ¬ w.length ≤ 59 by omega] at k ⊢
          exact k
      · have hb := of_decide_eq_true hb
        refine s_ret (v := .bl false) (st' := st) (fun K E k => by simp; exact k) ⟨?_, Fr.refl⟩
        congr 1
        unfold figs
        by_cases h2 : (c :: w).length ≤ 60
        · have h3 : c = 48 ∧ 1 < (c :: w).length := Decidable.of_not_not fun z => hb ⟨h2, z⟩
          simp [h3.1, h3.2]
          intro _ z
          have := h3.2
          simp at this
          simp [z] at this
        · simp [h2]
          simp at h2
          intro z; omega
      · have hb := Decidable.of_not_not (of_decide_eq_false hb)
        obtain ⟨st', e, h1, h2⟩ := lc_filter (st := st) (env := [some (.str (S (c :: w))), some (.int 60), none]) (m := mVar 0) (i := 2) (t := mB (mBin fNotInS (mVar 2) (mC (.str (S DIG))))) (c :: w) (fun d => !decide (d ∈ DIG)) rfl (by simp) (by simp at hb ⊢; omega)
          (fun d s => Ev.eq fun K E k => by simp [wipeE]; exact k)
        refine s_ret (v := .bl (figs (c :: w))) (st' := st') (fun K E k => ?_) ⟨rfl, h2⟩
        have ev : figs (c :: w) = decide (List.filter (fun d => !decide (d ∈ DIG)) (c :: w) = []) := by
          unfold figs
          have e1 : decide (1 ≤ (c :: w).length) = true := by simp
          have e2 : decide ((c :: w).length ≤ 60) = true := decide_eq_true hb.1
          have e3 : (!(decide ((c :: w).head? = some 48) && decide (1 < (c :: w).length))) = true := by
            have := hb.2
            simp at this ⊢
            by_cases h : c = 48
            · right; exact this h
            · left; exact h
          rw [e1, e2, e3, Bool.eq_iff_iff]
          simp only [decide_eq_true_eq, ← List.length_eq_zero_iff, filter_len]
          simp
        generalize List.filter (fun d => !decide (d ∈ DIG)) (c :: w) = F at *
        rw [ev] at k
        simp [e, lenL h1]
        simpa using k
  obtain ⟨d, s, e, rfl, fr⟩ := wp_get key
  exact ⟨s, e, fr⟩
/-! tokens -/
def pstep (p : List (List Nat) × List Nat) (c : Nat) : List (List Nat) × List Nat :=
  if c ∈ SPC then ((if p.2 = [] then p.1 else p.1 ++ [p.2]) ++ [[c]], []) else (p.1, p.2 ++ [c])
def parted (l : List Nat) : List (List Nat) := if (l.foldl pstep ([], [])).2 = [] then (l.foldl pstep ([], [])).1 else (l.foldl pstep ([], [])).1 ++ [(l.foldl pstep ([], [])).2]
theorem pstep_size (l : List Nat) : ∀ p : List (List Nat) × List Nat, (l.foldl pstep p).1.length + (l.foldl pstep p).2.length ≤ p.1.length + p.2.length + 2 * l.length := by
  induction l with
  | nil => intro p; simp
  | cons c l ih =>
    intro p
    rw [List.foldl_cons]
    refine Nat.le_trans (ih _) ?_
    unfold pstep
    split
    · split <;> simp <;> omega
    · simp; omega
theorem parted_eq (hl : l.length ≤ 200000) : ∃ r st', m_law_parted [.str (S l)] st = .ok (.ref r) st' ∧ st'[r]? = some (.lst (sL (parted l))) ∧ st.length ≤ r ∧ Fr [] st st' := by
  have key : wp (m_law_parted [.str (S l)] st) (fun d s => d = .ref st.length ∧ s[st.length]? = some (.lst (sL (parted l))) ∧ Fr [] st s) fun _ _ _ => False := by
    refine wp_def (show wpS (b_law_parted [some (.str (S l)), none, none, none] st) _ _ _ from ?_)
    refine s_seq (s_set (v := .ref st.length) (st' := st ++ [.lst []]) (fun K E k => by simp; exact k) ?_)
    refine s_seq (s_set (v := .str (S [])) (st' := st ++ [.lst []]) (fun K E k => by simp; exact k) ?_)
    refine s_seq ?_
    have hsz := fun k => pstep_size (l.take k) ([], [])
    refine s_for (src := sItems (cL l)) (st' := st ++ [.lst []]) (cL l) (fun k env s => ∃ x : Option D, env = [some (.str (S l)), some (.ref st.length), some (.str (S ((l.take k).foldl pstep ([], [])).2)), x] ∧ s[st.length]? = some (.lst (sL ((l.take k).foldl pstep ([], [])).1)) ∧ Fr [] st s)
      (fun K E k => by simp; exact k) rfl ⟨none, rfl, app_new, Fr.refl.app⟩ (fun _ _ _ _ => rfl) ?_ ?_
    · rintro k d env s hd ⟨x, rfl, hs, fr⟩
      rw [cL_get] at hd
      obtain ⟨c, hc, rfl⟩ := Option.map_eq_some_iff.mp hd
      have hk := (List.getElem?_eq_some_iff.mp hc).1
      have etake : l.take (k + 1) = l.take k ++ [c] := by rw [List.take_succ, hc]; rfl
      refine ⟨_, rfl, ?_⟩
      rw [etake, List.foldl_append]
      have hz := hsz k
      rw [List.length_take] at hz
      generalize (l.take k).foldl pstep ([], []) = p at *
      obtain ⟨p1, p2⟩ := p
      simp at hz
      have hz1 : p1.length < 900000 := by omega
      show wpS _ _ _ _
      refine s_if (b := decide (c ∈ SPC)) (st' := s) (fun K E k => by simp; exact k) (fun hb => ?_) fun hb => ?_
      · have hb := of_decide_eq_true hb
        by_cases h2 : p2 = []
        · subst h2
          refine s_seq (s_if (b := false) (st' := s) (fun K E k => by simp; exact k) (fun h => by cases h) fun _ => s_skip ?_)
          refine s_seq (s_expr (v := .non) (st' := s.set st.length (.lst (sL p1 ++ [.str (S [c])]))) (fun K E k => by simp [rec_l hs, f_append hs (show (sL p1).length < 1000000 by simp; omega)]; exact k) ?_)
          refine s_set (v := .str (S [])) (st' := s.set st.length (.lst (sL p1 ++ [.str (S [c])]))) (fun K E k => by simp; exact k) ⟨some (.str (S [c])), ?_, ?_, fr.set (.inl (Nat.le_refl _))⟩
          · simp [pstep, hb]
          · rw [set_at hs]; simp [pstep, hb, sL]
        · refine s_seq (s_if (b := true) (st' := s) (fun K E k => by simp [h2]; exact k) (fun _ => ?_) fun h => by cases h)
          refine s_expr (v := .non) (st' := s.set st.length (.lst (sL p1 ++ [.str (S p2)]))) (fun K E k => by simp [rec_l hs, f_append hs (show (sL p1).length < 1000000 by simp; omega)]; exact k) ?_
          have hs2 := set_at (o' := .lst (sL p1 ++ [.str (S p2)])) hs
          have fr2 : Fr [] st (s.set st.length (.lst (sL p1 ++ [.str (S p2)]))) := fr.set (.inl (Nat.le_refl _))
          generalize s.set st.length (.lst (sL p1 ++ [.str (S p2)])) = s2 at *
          have ea := f_append (y := .str (S [c])) hs2 (show (sL p1 ++ [D.str (S p2)]).length < 1000000 by simp; omega)
          refine s_seq (s_expr (v := .non) (st' := s2.set st.length (.lst (sL p1 ++ [.str (S p2)] ++ [.str (S [c])]))) (fun K E k => by simp [rec_l hs2, ea] at k ⊢; exact k) ?_)
          refine s_set (v := .str (S [])) (st' := s2.set st.length (.lst (sL p1 ++ [.str (S p2)] ++ [.str (S [c])]))) (fun K E k => by simp at k ⊢; exact k) ⟨some (.str (S [c])), ?_, ?_, fr2.set (.inl (Nat.le_refl _))⟩
          · simp [pstep, hb]
          · rw [set_at hs2]; simp [pstep, hb, sL, h2]
      · have hb := of_decide_eq_false hb
        refine s_set (v := .str (S (p2 ++ [c]))) (st' := s) (fun K E k => by simp [show p2.length + 1 ≤ 1000000 by omega]; exact k) ⟨some (.str (S [c])), ?_, ?_, fr⟩
        · simp [pstep, hb]
        · rw [hs]; simp [pstep, hb]
    · rintro env s ⟨x, rfl, hs, fr⟩
      rw [cL_len, List.take_length] at hs ⊢
      have hz := hsz l.length
      rw [List.take_length] at hz
      have epar : parted l = if (l.foldl pstep ([], [])).2 = [] then (l.foldl pstep ([], [])).1 else (l.foldl pstep ([], [])).1 ++ [(l.foldl pstep ([], [])).2] := rfl
      generalize l.foldl pstep ([], []) = p at *
      obtain ⟨p1, p2⟩ := p
      simp at hz
      by_cases h2 : p2 = []
      · subst h2
        refine s_seq (s_if (b := false) (st' := s) (fun K E k => by simp; exact k) (fun h => by cases h) fun _ => s_skip ?_)
        refine s_ret (v := .ref st.length) (st' := s) (fun K E k => by simp; exact k) ⟨rfl, ?_, fr⟩
        rw [epar, if_pos rfl]; exact hs
      · refine s_seq (s_if (b := true) (st' := s) (fun K E k => by simp [h2]; exact k) (fun _ => ?_) fun h => by cases h)
        refine s_expr (v := .non) (st' := s.set st.length (.lst (sL p1 ++ [.str (S p2)]))) (fun K E k => by simp [rec_l hs, f_append hs (show (sL p1).length < 1000000 by simp; omega)]; exact k) ?_
        refine s_ret (v := .ref st.length) (st' := s.set st.length (.lst (sL p1 ++ [.str (S p2)]))) (fun K E k => by simp; exact k) ⟨rfl, ?_, fr.set (.inl (Nat.le_refl _))⟩
        rw [set_at hs, epar, if_neg h2]; simp [sL]
  obtain ⟨d, s, e, rfl, h1, fr⟩ := wp_get key
  exact ⟨st.length, s, e, h1, Nat.le_refl _, fr⟩
end K65
/-! ## Sp4 -/
set_option Elab.async false
set_option linter.all false
set_option maxRecDepth 100000
set_option maxHeartbeats 4000000
namespace K65
open PySem L2 SX Mi
variable {st : Store} {l a : List Nat} {c : Nat}
structure LS where
  row : List (List Nat × Nat)
  inside : List Nat
  due : Bool
  fresh : Bool
def lstep (s : LS) (t : List Nat) : Option LS :=
  if s.due = true then (if validW t = true then some ⟨s.row ++ [(t, 0)], s.inside, false, true⟩ else none)
  else if t = [40] then (if s.fresh = false ∨ (s.row.getLast?.map (·.1)) = some [46] then none else some ⟨s.row.set (s.row.length - 1) ((s.row.getLast?.map (·.1)).getD [], 1), (s.row.length - 1) :: s.inside, true, s.fresh⟩)
  else match s.inside with
    | [] => none
    | i :: ins => match s.row[i]? with
      | none => none
      | some (w, c) => if t = [44] ∧ c < 4 then some ⟨s.row.set i (w, c + 1), i :: ins, true, s.fresh⟩
        else if t = [41] then some ⟨s.row, ins, s.due, false⟩ else none
def lfold (ts : List (List Nat)) : Option LS := ts.foldlM lstep ⟨[], [], true, false⟩
def lawRead (l : List Nat) : Option (List (List Nat × Nat)) := match lfold (parted l) with
  | none => none
  | some s => if s.due = true ∨ s.inside ≠ [] then none else some s.row
def rowD (row : List (List Nat × Nat)) : List D := row.map fun p => .tup [.str (S p.1), .int (p.2 : Nat)]
theorem lfold_succ {ts : List (List Nat)} {k : Nat} {t : List Nat} {s : LS} (h : lfold (ts.take k) = some s) (ht : ts[k]? = some t) : lfold (ts.take (k + 1)) = lstep s t := by
  unfold lfold at h ⊢
  rw [List.take_succ, ht, List.foldlM_append, h]
  show (lstep s t >>= fun x => pure x) = lstep s t
  cases lstep s t <;> rfl
theorem lfold_none {ts : List (List Nat)} {k : Nat} (h : lfold (ts.take k) = none) : lfold ts = none := by
  unfold lfold at h ⊢
  rw [← List.take_append_drop k ts, List.foldlM_append, h]
  rfl
def refL (refs : List Nat) : List D := refs.map D.ref
@[simp] theorem refL_len {refs : List Nat} : (refL refs).length = refs.length := List.length_map ..
def RowAt (lo T : Nat) (s : Store) (refs : List Nat) (row : List (List Nat × Nat)) : Prop := refs.length = row.length ∧ refs.Nodup ∧ (∀ r ∈ refs, lo ≤ r ∧ r ≠ T) ∧
  ∀ (k r : Nat) (w : List Nat) (c : Nat), refs[k]? = some r → row[k]? = some (w, c) → s[r]? = some (.lst [.str (S w), .int (c : Nat)])
theorem RowAt.keep {lo T : Nat} {s s' : Store} {refs : List Nat} {row : List (List Nat × Nat)} (h : RowAt lo T s refs row) (k : ∀ r o, lo ≤ r → r ≠ T → s[r]? = some o → s'[r]? = some o) : RowAt lo T s' refs row :=
  ⟨h.1, h.2.1, h.2.2.1, fun j r w c hr hw => by
    obtain ⟨h1, h2⟩ := h.2.2.1 r (List.mem_of_getElem? hr)
    exact k r _ h1 h2 (h.2.2.2 j r w c hr hw)⟩
theorem RowAt.lt {lo T : Nat} {s : Store} {refs : List Nat} {row : List (List Nat × Nat)} (h : RowAt lo T s refs row) {r : Nat} (hr : r ∈ refs) : r < s.length := by
  obtain ⟨k, hk⟩ := List.mem_iff_getElem?.mp hr
  have hl : k < row.length := by rw [← h.1]; exact (List.getElem?_eq_some_iff.mp hk).1
  have := h.2.2.2 k r row[k].1 row[k].2 hk (by rw [List.getElem?_eq_getElem hl])
  exact (List.getElem?_eq_some_iff.mp this).1
theorem RowAt.new {lo T : Nat} {s : Store} {refs : List Nat} {row : List (List Nat × Nat)} {w : List Nat} {c : Nat} (h : RowAt lo T s refs row) (hlo : lo ≤ s.length) (hT : s.length ≠ T) : RowAt lo T (s ++ [.lst [.str (S w), .int (c : Nat)]]) (refs ++ [s.length]) (row ++ [(w, c)]) := by
  refine ⟨by simp [h.1], ?_, fun r hr => ?_, fun k r w' c' hr hw => ?_⟩
  · rw [List.nodup_append]
    refine ⟨h.2.1, by simp, fun a ha b hb e => ?_⟩
    simp at hb; subst hb; subst e
    exact absurd (h.lt ha) (Nat.lt_irrefl _)
  · rcases List.mem_append.mp hr with hr | hr
    · exact h.2.2.1 r hr
    · simp at hr; subst hr; exact ⟨hlo, hT⟩
  · by_cases hk : k < refs.length
    · rw [List.getElem?_append_left hk] at hr
      rw [List.getElem?_append_left (by rw [← h.1]; exact hk)] at hw
      exact app_at (h.2.2.2 k r w' c' hr hw)
    · rw [List.getElem?_append_right (Nat.le_of_not_lt hk)] at hr
      rw [List.getElem?_append_right (by rw [← h.1]; exact Nat.le_of_not_lt hk)] at hw
      have e0 : k - refs.length = 0 := by
        cases hh : k - refs.length with
        | zero => rfl
        | succ n => rw [hh] at hr; simp at hr
      rw [← h.1] at hw
      rw [e0] at hr hw
      simp at hr hw
      obtain ⟨rfl, rfl⟩ := hw
      subst hr
      exact app_new
theorem RowAt.put {lo T : Nat} {s : Store} {refs : List Nat} {row : List (List Nat × Nat)} {k r : Nat} {w : List Nat} {c c' : Nat} (h : RowAt lo T s refs row) (hr : refs[k]? = some r) (hw : row[k]? = some (w, c)) : RowAt lo T (s.set r (.lst [.str (S w), .int (c' : Nat)])) refs (row.set k (w, c')) := by
  refine ⟨by simp [h.1], h.2.1, h.2.2.1, fun j r' w' c'' hr' hw' => ?_⟩
  have hs := h.2.2.2 k r w c hr hw
  by_cases hj : k = j
  · subst hj
    rw [hr] at hr'; cases hr'
    rw [List.getElem?_set_self (List.getElem?_eq_some_iff.mp hw).1] at hw'
    cases hw'
    exact set_at hs
  · rw [List.getElem?_set_ne hj] at hw'
    have hne : r ≠ r' := by
      rintro rfl
      obtain ⟨g1, e1⟩ := List.getElem?_eq_some_iff.mp hr
      obtain ⟨g2, e2⟩ := List.getElem?_eq_some_iff.mp hr'
      exact hj ((List.getElem_inj h.2.1).mp (e1.trans e2.symm))
    rw [set_no hne]
    exact h.2.2.2 j r' w' c'' hr' hw'
theorem ix_ref {s : Store} {W k r : Nat} {refs : List Nat} (h : s[W]? = some (.lst (refL refs))) (hk : refs[k]? = some r) : fIx (.ref W) (.int (k : Nat)) s = .ok (.ref r) s := by
  unfold fIx
  simp only [items_l h, atI_k]
  unfold refL
  rw [List.getElem?_map, hk]; rfl
theorem ix_refl {s : Store} {W r : Nat} {refs : List Nat} (h : s[W]? = some (.lst (refL (refs ++ [r])))) : fIx (.ref W) (.int (-1)) s = .ok (.ref r) s := by
  unfold fIx
  simp only [items_l h]
  unfold refL
  rw [List.map_append]
  show (match atI (refs.map D.ref ++ [D.ref r]) (-1) with | some d => Out.ok d s | none => Out.no) = _
  rw [atI_end]
theorem ix_p0 {s : Store} {r : Nat} {x y : D} (h : s[r]? = some (.lst [x, y])) : fIx (.ref r) (.int 0) s = .ok x s := by
  unfold fIx; simp only [items_l h]; rfl
theorem ix_p1 {s : Store} {r : Nat} {x y : D} (h : s[r]? = some (.lst [x, y])) : fIx (.ref r) (.int 1) s = .ok y s := by
  unfold fIx; simp only [items_l h]; rfl
theorem set_p1 {s : Store} {r : Nat} {x y d : D} (h : s[r]? = some (.lst [x, y])) : setF (.ref r) (.int 1) d s = .ok () (s.set r (.lst [x, d])) := by
  unfold setF; simp only [h]; rfl
theorem src_l {s : Store} {r : Nat} {es : List D} (h : s[r]? = some (.lst es)) : srcOf (.ref r) s = .ok (sLive r) s := by
  unfold srcOf; simp only [items_l h]
def lrInv (l : List Nat) (st : Store) (T : Nat) (toks : List (List Nat)) (k : Nat) (env : Mi.Env) (s : Store) : Prop := ∃ (refs : List Nat) (q : LS) (x : Option D), lfold (toks.take k) = some q ∧ env = [some (.str (S l)), some (.ref st.length), some (.ref (st.length + 1)), some (.bl q.due), some (.bl q.fresh), x, none] ∧
  s[st.length]? = some (.lst (refL refs)) ∧ s[st.length + 1]? = some (.lst (iL q.inside.reverse)) ∧ s[T]? = some (.lst (sL toks)) ∧ RowAt (st.length + 2) T s refs q.row ∧ q.row.length ≤ k ∧ q.inside.length ≤ k ∧ (q.due = false → q.row ≠ []) ∧ (∀ i ∈ q.inside, i < q.row.length) ∧ Fr [] st s
def lrD (o : Option (List (List Nat × Nat))) : D := match o with
  | none => .non
  | some row => .tup (rowD row)
theorem lread_step (hl : l.length ≤ 200000) {T : Nat} {toks : List (List Nat)} (hT : st.length + 2 ≤ T) (ht : toks = parted l) (hsz : toks.length ≤ 400000) (hw : ∀ t ∈ toks, t.length ≤ 200000) {k : Nat} {t : List Nat} {env : Mi.Env} {s : Store} (hk : toks[k]? = some t) (h : lrInv l st T toks k env s) {N' : Mi.Env → Store → Prop} :
    wpS ((kIf (mTru (mVar 3)) (kSeq (kIf (mNotT (mTru (mCall m_law_word (mCons (mVar 5) mNil)))) (kRet (mC .non)) kSkip)
  (kSeq (kExpr (mM fAppend (mRecv "list" (mVar 1)) (mCons (mLst (mCons (mVar 5) (mCons (mC (.int 0)) mNil))) mNil)))
  (kSeq (kSet 3 (mC (.bl false)))
  (kSet 4 (mC (.bl true)))))) (kIf (mB (mBin fEq (mVar 5) (mC (.str "(")))) (kSeq (kIf (mOrT (mNotT (mTru (mVar 4))) (mB (mBin fEq (mBin fIx (mBin fIx (mVar 1) (mNeg (mC (.int 1)))) (mC (.int 0))) (mC (.str "."))))) (kRet (mC .non)) kSkip)
  (kSeq (kExpr (mM fAppend (mRecv "list" (mVar 2)) (mCons (mBin fSub (mFn fLen (mCons (mVar 1) mNil)) (mC (.int 1))) mNil)))
  (kSeq (kSetIx (mBin fIx (mVar 1) (mNeg (mC (.int 1)))) (mC (.int 1)) (mC (.int 1)))
  (kSet 3 (mC (.bl true)))))) (kIf (mAndT (mB (mBin fEq (mVar 5) (mC (.str ",")))) (mAndT (mB (mBin fGt (mFn fLen (mCons (mVar 2) mNil)) (mC (.int 0)))) (mB (mBin fLt (mBin fIx (mBin fIx (mVar 1) (mBin fIx (mVar 2) (mNeg (mC (.int 1))))) (mC (.int 1))) (mC (.int 4)))))) (kSeq (kSetIx (mBin fIx (mVar 1) (mBin fIx (mVar 2) (mNeg (mC (.int 1))))) (mC (.int 1)) (mBin fAdd (mBin fIx (mBin fIx (mVar 1) (mBin fIx (mVar 2) (mNeg (mC (.int 1))))) (mC (.int 1))) (mC (.int 1))))
  (kSet 3 (mC (.bl true)))) (kIf (mAndT (mB (mBin fEq (mVar 5) (mC (.str ")")))) (mB (mBin fGt (mFn fLen (mCons (mVar 2) mNil)) (mC (.int 0))))) (kSeq (kExpr (mM0 fPop (mRecv "list" (mVar 2))))
  (kSet 4 (mC (.bl false)))) (kRet (mC .non)))))) (env.set 5 (some (.str (S t)))) s) (lrInv l st T toks (k + 1)) (fun d s => d = lrD (lawRead l) ∧ Fr [] st s) (fun _ _ _ _ => False) := by
  obtain ⟨refs, ⟨row, inside, due, fresh⟩, x, hf, rfl, hW, hI, hTt, hR, hrk, hik, hdr, hin, fr⟩ := h
  simp only at hW hI hTt hR hrk hik hdr hin
  have hf' := lfold_succ hf hk
  have hkl := (List.getElem?_eq_some_iff.mp hk).1
  have htl := hw t (List.mem_of_getElem? hk)
  have nWI : st.length ≠ st.length + 1 := by omega
  have bad : lstep ⟨row, inside, due, fresh⟩ t = none → lawRead l = none := fun e => by
    unfold lawRead
    rw [← ht, lfold_none (hf'.trans e)]
  have fW : ∀ {r : Nat}, st.length + 2 ≤ r → st.length ≠ r := fun h => by omega
  have fI : ∀ {r : Nat}, st.length + 2 ≤ r → st.length + 1 ≠ r := fun h => by omega
  show wpS (kIf _ _ _ [some (.str (S l)), some (.ref st.length), some (.ref (st.length + 1)), some (.bl due), some (.bl fresh), some (.str (S t)), none] s) _ _ _
  refine s_if (b := due) (st' := s) (fun K E k => by simp; exact k) (fun hd => ?_) fun hd => ?_
  · subst hd
    obtain ⟨s1, e1, fr1⟩ := lword_eq (st := s) (w := t) (by omega)
    have hW1 := fr1.get hW (by simp)
    have hI1 := fr1.get hI (by simp)
    have hT1 := fr1.get hTt (by simp)
    have hR1 := hR.keep (s' := s1) (fun r o _ _ h => fr1.get h (by simp))
    have fr01 := fr.trans fr1
    refine s_seq (s_if (b := !validW t) (st' := s1) (fun K E k => by simp [e1]; exact k) (fun hb => ?_) fun hb => s_skip ?_)
    · have hb : validW t = false := by simpa using hb
      refine s_ret (v := .non) (st' := s1) (fun K E k => by simp; exact k) ⟨?_, fr01⟩
      rw [bad (by unfold lstep; rw [if_pos rfl, hb]; rfl)]; rfl
    · have hb : validW t = true := by simpa using hb
      have hlo : st.length + 2 ≤ s1.length := by
        have := (List.getElem?_eq_some_iff.mp hI1).1
        omega
      have hTl := (List.getElem?_eq_some_iff.mp hT1).1
      have hlr : row.length = refs.length := hR.1.symm
      refine s_seq (s_expr (v := .non) (st' := (s1 ++ [Ob.lst [D.str (S t), D.int (0 : Nat)]]).set st.length (Ob.lst (refL (refs ++ [s1.length])))) (fun K E k => ?_) ?_)
      · have hW2 : (s1 ++ [Ob.lst [D.str (S t), D.int 0]])[st.length]? = some (Ob.lst (refL refs)) := app_at hW1
        have ea := f_append (y := .ref s1.length) hW2 (show (refL refs).length < 1000000 by simp; omega)
        simp [rec_l hW1, ea]
        simpa [refL] using k
      have hR2 := (hR1.new (w := t) (c := 0) hlo (by omega)).keep (s' := (s1 ++ [Ob.lst [D.str (S t), D.int (0 : Nat)]]).set st.length (Ob.lst (refL (refs ++ [s1.length])))) (fun r o h1 _ h => by rw [set_no (fW h1)]; exact h)
      have hW3 := set_at (o' := .lst (refL (refs ++ [s1.length]))) (app_at (os := [Ob.lst [D.str (S t), D.int (0 : Nat)]]) hW1)
      have hI3 : ((s1 ++ [Ob.lst [D.str (S t), D.int (0 : Nat)]]).set st.length (Ob.lst (refL (refs ++ [s1.length]))))[st.length + 1]? = some (Ob.lst (iL inside.reverse)) := by rw [set_no nWI]; exact app_at hI1
      have hT3 : ((s1 ++ [Ob.lst [D.str (S t), D.int (0 : Nat)]]).set st.length (Ob.lst (refL (refs ++ [s1.length]))))[T]? = some (Ob.lst (sL toks)) := by rw [set_no (fW hT)]; exact app_at hT1
      have fr3 : Fr [] st ((s1 ++ [Ob.lst [D.str (S t), D.int (0 : Nat)]]).set st.length (Ob.lst (refL (refs ++ [s1.length])))) := fr01.app.set (.inl (Nat.le_refl _))
      generalize (s1 ++ [Ob.lst [D.str (S t), D.int (0 : Nat)]]).set st.length (Ob.lst (refL (refs ++ [s1.length]))) = s3 at *
      refine s_seq (s_set (v := .bl false) (st' := s3) (fun K E k => by simp; exact k) ?_)
      refine s_set (v := .bl true) (st' := s3) (fun K E k => by simp; exact k) ⟨refs ++ [s1.length], ⟨row ++ [(t, 0)], inside, false, true⟩, some (.str (S t)), ?_, rfl, hW3, hI3, hT3, hR2, by simp; omega, by simp; omega, fun _ => by simp, fun i hi => ?_, fr3⟩
      · rw [hf']; unfold lstep; rw [if_pos rfl, if_pos hb]
      · have := hin i hi
        simp; omega
  · subst hd
    have hne := hdr rfl
    have hrl : row.length ≠ 0 := fun z => hne (List.length_eq_zero_iff.mp z)
    -- the last row
    obtain ⟨row', ⟨wl, cl⟩, rfl⟩ : ∃ row' p, row = row' ++ [p] := ⟨row.dropLast, row.getLast hne, (List.dropLast_concat_getLast hne).symm⟩
    obtain ⟨refs', rl, rfl⟩ : ∃ refs' r, refs = refs' ++ [r] := by
      have hne2 : refs ≠ [] := fun z => by have := hR.1; rw [z] at this; simp at this
      exact ⟨refs.dropLast, refs.getLast hne2, (List.dropLast_concat_getLast hne2).symm⟩
    have hlr : refs'.length = row'.length := by have := hR.1; simp at this; exact this
    have hlast : s[rl]? = some (.lst [.str (S wl), .int (cl : Nat)]) := hR.2.2.2 row'.length rl wl cl (by rw [← hlr]; simp) (by simp)
    have hrl2 := hR.2.2.1 rl (by simp)
    have nWr := fW hrl2.1
    have nIr := fI hrl2.1
    have hgl : (row' ++ [(wl, cl)]).getLast? = some (wl, cl) := by simp
    refine s_if (b := decide (t = [40])) (st' := s) (fun K E k => by simp; exact k) (fun hb => ?_) fun hb => ?_
    · have hb := of_decide_eq_true hb
      refine s_seq (s_if (b := !fresh || decide (wl = [46])) (st' := s) (fun K E k => ?_) (fun h2 => ?_) fun h2 => s_skip ?_)
      · cases fresh
        · simp at k ⊢; exact k
        · simp [ix_refl hW, ix_p0 hlast] at k ⊢; exact k
      · refine s_ret (v := .non) (st' := s) (fun K E k => by simp; exact k) ⟨?_, fr⟩
        rw [bad ?_]; rfl
        unfold lstep
        rw [if_neg (by simp), if_pos hb, if_pos]
        rw [hgl]
        cases fresh
        · exact .inl rfl
        · simp at h2; exact .inr (by simp [h2])
      · have h2 : fresh = true ∧ ¬ wl = [46] := by simpa using h2
        have hln : (refL (refs' ++ [rl])).length = row'.length + 1 := by simp [hlr]
        refine s_seq (s_expr (v := .non) (st' := s.set (st.length + 1) (.lst (iL (row'.length :: inside).reverse))) (fun K E k => ?_) ?_)
        · have ea := f_append (y := .int ((row'.length : Nat) : Int)) hI (show (iL inside.reverse).length < 1000000 by simp; omega)
          have el := lenL hW
          rw [hln] at el
          rw [List.reverse_cons, iL_app, show iL [row'.length] = [D.int (row'.length : Nat)] from rfl] at k
          simp [rec_l hI, el, ea]
          exact k
        have hW2 : (s.set (st.length + 1) (.lst (iL (row'.length :: inside).reverse)))[st.length]? = some (.lst (refL (refs' ++ [rl]))) := by rw [set_no nWI.symm]; exact hW
        have hI2 := set_at (o' := .lst (iL (row'.length :: inside).reverse)) hI
        have hl2 : (s.set (st.length + 1) (.lst (iL (row'.length :: inside).reverse)))[rl]? = some (.lst [.str (S wl), .int (cl : Nat)]) := by rw [set_no nIr]; exact hlast
        have hT2 : (s.set (st.length + 1) (.lst (iL (row'.length :: inside).reverse)))[T]? = some (.lst (sL toks)) := by rw [set_no (fI hT)]; exact hTt
        have hR2 := hR.keep (s' := s.set (st.length + 1) (.lst (iL (row'.length :: inside).reverse))) (fun r o h1 _ h => by rw [set_no (fI h1)]; exact h)
        have fr2 : Fr [] st (s.set (st.length + 1) (.lst (iL (row'.length :: inside).reverse))) := fr.set (.inl (by omega))
        generalize s.set (st.length + 1) (.lst (iL (row'.length :: inside).reverse)) = s2 at *
        refine s_seq (s_setIx (v := .int (1 : Nat)) (o := .ref rl) (id := .int 1) (st1 := s2) (st2 := s2) (st3 := s2) (fun K E k => by simp; exact k) (fun K E k => by simp [ix_refl hW2]; exact k) (fun K E k => by simp; exact k) (set_p1 hl2) ?_)
        have hR3 := hR2.put (c' := 1) (k := row'.length) (r := rl) (by rw [← hlr]; simp) (show (row' ++ [(wl, cl)])[row'.length]? = some (wl, cl) by simp)
        refine s_set (v := .bl true) (st' := s2.set rl (.lst [.str (S wl), .int (1 : Nat)])) (fun K E k => by simp; exact k) ⟨refs' ++ [rl], ⟨(row' ++ [(wl, cl)]).set row'.length (wl, 1), row'.length :: inside, true, fresh⟩, some (.str (S t)), ?_, rfl, by rw [set_no nWr.symm]; exact hW2, by rw [set_no nIr.symm]; exact hI2, by rw [set_no hrl2.2]; exact hT2, hR3, ?_, by simp; omega, (fun h => by cases h), fun i hi => ?_, fr2.set (.inl (by omega))⟩
        · rw [hf']
          unfold lstep
          rw [if_neg (by simp), if_pos hb, if_neg, hgl]
          · simp
          · rw [hgl]
            rintro (z | z)
            · rw [h2.1] at z; cases z
            · simp at z; exact h2.2 z
        · simp at hrk ⊢; omega
        · rcases List.mem_cons.mp hi with rfl | hi
          · simp
          · have := hin i hi
            simp at this ⊢; omega
    · have hb40 := of_decide_eq_false hb
      have el := lenL hI
      cases inside with
      | nil =>
        have e0 : fLen [.ref (st.length + 1)] s = .ok (.int 0) s := el
        have bad' : lawRead l = none := bad (by unfold lstep; rw [if_neg (by simp), if_neg hb40])
        refine s_if (b := false) (st' := s) (fun K E k => by by_cases h : t = [44] <;> simp [h, e0] at k ⊢ <;> exact k) (fun h => by cases h) fun _ => ?_
        refine s_if (b := false) (st' := s) (fun K E k => by by_cases h : t = [41] <;> simp [h, e0] at k ⊢ <;> exact k) (fun h => by cases h) fun _ => ?_
        exact s_ret (v := .non) (st' := s) (fun K E k => by simp; exact k) ⟨by rw [bad']; rfl, fr⟩
      | cons i ins =>
        have hil := hin i List.mem_cons_self
        obtain ⟨⟨w, c⟩, hrow⟩ : ∃ p, (row' ++ [(wl, cl)])[i]? = some p := ⟨_, List.getElem?_eq_getElem hil⟩
        obtain ⟨r, hr⟩ : ∃ r, (refs' ++ [rl])[i]? = some r := ⟨_, List.getElem?_eq_getElem (by rw [hR.1]; exact hil)⟩
        have hit := hR.2.2.2 i r w c hr hrow
        have hrr := hR.2.2.1 r (List.mem_of_getElem? hr)
        have hI' : s[st.length + 1]? = some (.lst (iL (ins.reverse ++ [i]))) := by rw [hI, List.reverse_cons]
        have el' : fLen [.ref (st.length + 1)] s = .ok (.int ((ins.length + 1 : Nat) : Int)) s := by rw [el]; simp
        have epos : (0 : Int) < (ins.length : Int) + 1 := by omega
        have eL : lstep ⟨row' ++ [(wl, cl)], i :: ins, false, fresh⟩ t = if t = [44] ∧ c < 4 then some ⟨(row' ++ [(wl, cl)]).set i (w, c + 1), i :: ins, true, fresh⟩ else if t = [41] then some ⟨row' ++ [(wl, cl)], ins, false, false⟩ else none := by
          unfold lstep
          rw [if_neg (by simp), if_neg hb40]
          simp only [hrow]
        refine s_if (b := decide (t = [44] ∧ c < 4)) (st' := s) (fun K E k => ?_) (fun hb => ?_) fun hb => ?_
        · by_cases h : t = [44]
          · have h4 : decide ((c : Int) < 4) = decide (c < 4) := by
              by_cases q : c < 4
              · rw [decide_eq_true q, decide_eq_true (by omega)]
              · rw [decide_eq_false q, decide_eq_false (by omega)]
            simp [h, el', epos, ix_last hI', ix_ref hW hr, ix_p1 hit, h4] at k ⊢; exact k
          · simp [h] at k ⊢; exact k
        · have hb := of_decide_eq_true hb
          refine s_seq (s_setIx (v := .int ((c + 1 : Nat) : Int)) (o := .ref r) (id := .int 1) (st1 := s) (st2 := s) (st3 := s) (fun K E k => by simp [ix_last hI', ix_ref hW hr, ix_p1 hit]; exact k) (fun K E k => by simp [ix_last hI', ix_ref hW hr]; exact k) (fun K E k => by simp; exact k) (set_p1 hit) ?_)
          have hR3 := hR.put (c' := c + 1) hr hrow
          refine s_set (v := .bl true) (st' := s.set r (.lst [.str (S w), .int ((c + 1 : Nat) : Int)])) (fun K E k => by simp; exact k) ⟨refs' ++ [rl], ⟨(row' ++ [(wl, cl)]).set i (w, c + 1), i :: ins, true, fresh⟩, some (.str (S t)), ?_, rfl, by rw [set_no (fW hrr.1).symm]; exact hW, by rw [set_no (fI hrr.1).symm]; exact hI, by rw [set_no hrr.2]; exact hTt, hR3, by simp at hrk ⊢; omega, by simp at hik ⊢; omega, (fun h => by cases h), fun j hj => by simpa using hin j hj, fr.set (.inl (by omega))⟩
          rw [hf', eL, if_pos hb]
        · have hb := of_decide_eq_false hb
          rw [if_neg hb] at eL
          refine s_if (b := decide (t = [41])) (st' := s) (fun K E k => ?_) (fun h2 => ?_) fun h2 => ?_
          · by_cases h : t = [41] <;> simp [h, el', epos] at k ⊢ <;> exact k
          · have h2 := of_decide_eq_true h2
            rw [if_pos h2] at eL
            have hI'' : s[st.length + 1]? = some (.lst (iL ins.reverse ++ [.int (i : Nat)])) := by rw [hI', iL_app]; rfl
            refine s_seq (s_expr (v := .int (i : Nat)) (st' := s.set (st.length + 1) (.lst (iL ins.reverse))) (fun K E k => by simp [rec_l hI'', f_pop hI'']; exact k) ?_)
            refine s_set (v := .bl false) (st' := s.set (st.length + 1) (.lst (iL ins.reverse))) (fun K E k => by simp; exact k) ⟨refs' ++ [rl], ⟨row' ++ [(wl, cl)], ins, false, false⟩, some (.str (S t)), by rw [hf', eL], rfl, by rw [set_no nWI.symm]; exact hW, set_at hI, by rw [set_no (fI hT)]; exact hTt, hR.keep (fun r o h1 _ h => by rw [set_no (fI h1)]; exact h), by simp at hrk ⊢; omega, by simp at hik ⊢; omega, fun _ => by simp, fun j hj => hin j (List.mem_cons_of_mem _ hj), fr.set (.inl (by omega))⟩
          · have h2 := of_decide_eq_false h2
            rw [if_neg h2] at eL
            exact s_ret (v := .non) (st' := s) (fun K E k => by simp; exact k) ⟨by rw [bad eL]; rfl, fr⟩
end K65
/-! ## Sp5 -/
set_option Elab.async false
set_option linter.all false
set_option maxRecDepth 100000
set_option maxHeartbeats 4000000
namespace K65
open PySem L2 SX Mi
variable {st : Store} {l a : List Nat} {c : Nat}
theorem pstep_tok (n : Nat) : ∀ (l : List Nat) (p : List (List Nat) × List Nat), (∀ t ∈ p.1, t.length ≤ n) → p.2.length + l.length ≤ n → 1 ≤ n → (∀ t ∈ (l.foldl pstep p).1, t.length ≤ n) ∧ (l.foldl pstep p).2.length ≤ n
  | [], p, h, h2, _ => ⟨h, by simpa using h2⟩
  | c :: l, p, h, h2, h3 => by
    rw [List.foldl_cons]
    simp at h2
    refine pstep_tok n l _ (fun t ht => ?_) ?_ h3
    · unfold pstep at ht
      split at ht
      · split at ht
        · rcases List.mem_append.mp ht with ht | ht
          · exact h t ht
          · simp at ht; subst ht; simpa using h3
        · rcases List.mem_append.mp ht with ht | ht
          · rcases List.mem_append.mp ht with ht | ht
            · exact h t ht
            · simp at ht; subst ht; omega
          · simp at ht; subst ht; simpa using h3
      · exact h t ht
    · unfold pstep
      split
      · simp; omega
      · simp; omega
theorem parted_tok (l : List Nat) : (parted l).length ≤ 2 * l.length + 1 ∧ ∀ t ∈ parted l, t.length ≤ l.length + 1 := by
  have h1 := pstep_size l ([], [])
  obtain ⟨h2, h3⟩ := pstep_tok (l.length + 1) l ([], []) (fun _ h => nomatch h) (by simp) (by omega)
  unfold parted
  simp at h1
  split
  · exact ⟨by omega, h2⟩
  · refine ⟨by simp; omega, fun t ht => ?_⟩
    rcases List.mem_append.mp ht with ht | ht
    · exact h2 t ht
    · simp at ht; subst ht; exact h3
theorem lread_eq (hl : l.length ≤ 100000) : ∃ st', m_law_read [.str (S l)] st = .ok (lrD (lawRead l)) st' ∧ Fr [] st st' := by
  have key : wp (m_law_read [.str (S l)] st) (fun d s => d = lrD (lawRead l) ∧ Fr [] st s) fun _ _ _ => False := by
    refine wp_def (show wpS (b_law_read [some (.str (S l)), none, none, none, none, none, none] st) _ _ _ from ?_)
    refine s_seq (s_set (v := .ref st.length) (st' := st ++ [.lst []]) (fun K E k => by simp; exact k) ?_)
    refine s_seq (s_set (v := .ref (st.length + 1)) (st' := st ++ [.lst []] ++ [.lst []]) (fun K E k => by simp at k ⊢; exact k) ?_)
    have fr0 : Fr [] st (st ++ [.lst []] ++ [.lst []]) := Fr.refl.app.app
    have hW0 : (st ++ [Ob.lst []] ++ [Ob.lst []])[st.length]? = some (.lst []) := app_at app_new
    have hI0 : (st ++ [Ob.lst []] ++ [Ob.lst []])[st.length + 1]? = some (.lst []) := by simp
    have hlen0 : (st ++ [Ob.lst []] ++ [Ob.lst []]).length = st.length + 2 := by simp
    generalize st ++ [Ob.lst []] ++ [Ob.lst []] = s0 at *
    refine s_seq (s_set (v := .bl true) (st' := s0) (fun K E k => by simp; exact k) ?_)
    refine s_seq (s_set (v := .bl false) (st' := s0) (fun K E k => by simp; exact k) ?_)
    obtain ⟨T, s1, e1, hT1, hTl, fr1⟩ := parted_eq (st := s0) (l := l) (by omega)
    have fr01 := fr0.trans fr1
    obtain ⟨ht1, ht2⟩ := parted_tok l
    refine s_seq (s_for (src := sLive T) (st' := s1) (sL (parted l)) (lrInv l st T (parted l)) (fun K E k => by simp [e1, src_l hT1]; exact k) (by show ((itemsAt s1 T).getD []).length = _; rw [items_l hT1]; rfl) ?_ ?_ ?_ ?_)
    · exact ⟨[], ⟨[], [], true, false⟩, none, rfl, rfl, fr1.get hW0 (by simp), fr1.get hI0 (by simp), hT1, ⟨rfl, List.nodup_nil, (fun _ h => nomatch h), (fun k r w c h => by simp at h)⟩, Nat.le_refl _, Nat.le_refl _, (fun h => by cases h), (fun _ h => nomatch h), fr01⟩
    · rintro k env s ⟨refs, q, x, h⟩
      show (itemsAt s T).map (fun ds => ds[k]?) = _
      rw [items_l h.2.2.2.2.1]; rfl
    · intro k d env s hd h
      rw [sL_get] at hd
      obtain ⟨t, ht, rfl⟩ := Option.map_eq_some_iff.mp hd
      exact ⟨_, rfl, lread_step (N' := fun _ _ => True) (by omega) (by omega) rfl (by omega) (fun t ht => by have := ht2 t ht; omega) ht h⟩
    · rintro env s ⟨refs, ⟨row, inside, due, fresh⟩, x, hf, rfl, hW, hI, hTt, hR, hrk, hik, hdr, hin, fr⟩
      rw [sL_len, List.take_length] at hf
      rw [sL_len] at hrk hik
      simp only at hW hI hTt hR hrk hik hdr hin
      have elr : lawRead l = if due = true ∨ inside ≠ [] then none else some row := by unfold lawRead; rw [hf]
      have el := lenL hI
      refine s_seq (s_if (b := due || !inside.isEmpty) (st' := s) (fun K E k => ?_) (fun hb => ?_) fun hb => s_skip ?_)
      · cases due
        · cases inside with
          | nil => simp [el] at k ⊢; exact k
          | cons i ins =>
            have : (0 : Int) < (ins.length : Int) + 1 := by omega
            simp [el, this] at k ⊢; exact k
        · simp at k ⊢; exact k
      · refine s_ret (v := .non) (st' := s) (fun K E k => by simp; exact k) ⟨?_, fr⟩
        rw [elr, if_pos]; rfl
        cases due
        · right
          rintro rfl
          simp at hb
        · exact .inl rfl
      · have hb : due = false ∧ inside = [] := by
          cases due <;> cases inside <;> simp at hb <;> exact ⟨rfl, rfl⟩
        obtain ⟨rfl, rfl⟩ := hb
        have elr' : lawRead l = some row := by rw [elr, if_neg (by simp)]
        have hWl := (List.getElem?_eq_some_iff.mp hW).1
        obtain ⟨acc, s2, e2, h2, h3, h4⟩ := c_lc (env := [some (.str (S l)), some (.ref st.length), some (.ref (st.length + 1)), some (.bl false), some (.bl fresh), x, none]) (st := s) (st' := s) (mi := iVal (mVar 1)) (src := sLive st.length) (own := [6]) (g := gN 6) (t := mYes) (m := mTup (mCons (mBin fIx (mVar 6) (mC (.int 0))) (mCons (mBin fIx (mVar 6) (mC (.int 1))) mNil)))
          (refL refs) (fun k acc s' => acc = rowD (row.take k) ∧ s'[s.length]? = some (.lst acc) ∧ Fr [] s s') (fun K E k => by simp [src_l hW]; exact k) (by show ((itemsAt s st.length).getD []).length = _; rw [items_l hW]; rfl)
          ⟨rfl, app_new, Fr.refl.app⟩ (fun k acc s' h => by
            show (itemsAt s' st.length).map (fun ds => ds[k]?) = _
            rw [items_l (h.2.2.get hW (by simp))]; rfl) (fun k acc s' h => h.2.1) (fun k d acc s' hd h => by
            obtain ⟨rfl, hs, frr⟩ := h
            unfold refL at hd
            rw [List.getElem?_map] at hd
            obtain ⟨r, hr, rfl⟩ := Option.map_eq_some_iff.mp hd
            have hkl : k < row.length := by rw [← hR.1]; exact (List.getElem?_eq_some_iff.mp hr).1
            obtain ⟨⟨w, c⟩, hrow⟩ : ∃ p, row[k]? = some p := ⟨row[k], List.getElem?_eq_getElem hkl⟩
            have hit := frr.get (hR.2.2.2 k r w c hr hrow) (by simp)
            refine ⟨_, true, s', rfl, rfl, (fun h => by cases h), fun _ => ⟨.tup [.str (S w), .int (c : Nat)], s', ?_, hs, ?_, ?_, set_at hs, frr.set (.inl (Nat.le_refl _))⟩⟩
            · refine Ev.eq fun K E kk => ?_
              simp [wipeE, ix_p0 hit, ix_p1 hit]
              exact kk
            · unfold rowD; simp; omega
            · rw [List.take_succ, hrow]; simp [rowD])
        rw [refL_len, hR.1, List.take_length] at h2
        subst h2
        have e3 : fTuple [.ref s.length] s2 = .ok (.tup (rowD row)) s2 := by
          unfold fTuple; simp only [items_l h3]
        refine s_ret (v := .tup (rowD row)) (st' := s2) (fun K E k => by simp [e2, e3]; exact k) ⟨by rw [elr']; rfl, fr.trans h4⟩
  obtain ⟨d, s, e, rfl, fr⟩ := wp_get key
  exact ⟨s, e, fr⟩
end K65
/-! ## Sp6 -/
set_option Elab.async false
set_option linter.all false
set_option maxRecDepth 100000
set_option maxHeartbeats 4000000
namespace K65
open PySem L2 SX Mi
/-! ### the two readers are one -/
def fin (p : List (List Nat) × List Nat) : List (List Nat) := if p.2 = [] then p.1 else p.1 ++ [p.2]
def run (cur r : List Nat) : List (List Nat) := fin (r.foldl pstep ([], cur))
theorem pstep_acc (r : List Nat) : ∀ (acc : List (List Nat)) (cur : List Nat), r.foldl pstep (acc, cur) = (acc ++ (r.foldl pstep ([], cur)).1, (r.foldl pstep ([], cur)).2) := by
  induction r with
  | nil => intro acc cur; simp
  | cons c r ih =>
    intro acc cur
    rw [List.foldl_cons, List.foldl_cons]
    by_cases hc : c ∈ SPC
    · by_cases h2 : cur = []
      · simp only [pstep, hc, if_true, h2]
        rw [ih (acc ++ [[c]]), ih ([] ++ [[c]])]; simp
      · simp only [pstep, hc, if_true, if_neg h2]
        rw [ih (acc ++ [cur] ++ [[c]]), ih ([] ++ [cur] ++ [[c]])]; simp
    · simp only [pstep, hc, if_false]
      exact ih acc (cur ++ [c])
theorem parted_run (r : List Nat) : parted r = run [] r := rfl
theorem run_nil (cur : List Nat) : run cur [] = if cur = [] then [] else [cur] := by
  unfold run fin; rfl
theorem run_sep {c : Nat} (hc : c ∈ SPC) (cur r : List Nat) : run cur (c :: r) = (if cur = [] then [] else [cur]) ++ [c] :: parted r := by
  unfold run
  rw [List.foldl_cons]
  have e : pstep ([], cur) c = ((if cur = [] then [] else [cur]) ++ [[c]], []) := by
    unfold pstep; rw [if_pos hc]; simp
  rw [e, pstep_acc]
  rw [parted_run]
  unfold run fin
  dsimp only
  split <;> simp
theorem run_on {c : Nat} (hc : c ∉ SPC) (cur r : List Nat) : run cur (c :: r) = run (cur ++ [c]) r := by
  unfold run
  rw [List.foldl_cons]
  congr 1
  unfold pstep; rw [if_neg hc]
theorem tw_mem {p : Nat → Bool} : ∀ {l : List Nat} {d : Nat}, d ∈ l.takeWhile p → p d = true
  | [], d, h => by simp at h
  | c :: l, d, h => by
    rw [List.takeWhile_cons] at h
    split at h
    · rename_i hc
      rcases List.mem_cons.mp h with rfl | h
      · exact hc
      · exact tw_mem h
    · simp at h
def nsp (c : Nat) : Bool := decide (c ∉ SPC)
theorem run_word : ∀ (r cur : List Nat), run cur r = match r.dropWhile nsp with
    | [] => if cur ++ r.takeWhile nsp = [] then [] else [cur ++ r.takeWhile nsp]
    | c :: v => (if cur ++ r.takeWhile nsp = [] then [] else [cur ++ r.takeWhile nsp]) ++ [c] :: parted v
  | [], cur => by simp [run_nil]
  | c :: r, cur => by
    by_cases hc : c ∈ SPC
    · have e : nsp c = false := by unfold nsp; simp [hc]
      rw [run_sep hc]
      simp [List.dropWhile_cons, List.takeWhile_cons, e]
    · have e : nsp c = true := by unfold nsp; simp [hc]
      rw [run_on hc, run_word r (cur ++ [c]), List.dropWhile_cons, List.takeWhile_cons, if_pos e, if_pos e]
      simp
theorem drop_head {r v : List Nat} {c : Nat} (h : r.dropWhile nsp = c :: v) : c ∈ SPC := by
  have := List.head?_dropWhile_not nsp r
  rw [h] at this
  simp [nsp] at this
  exact this
def lawFrom (q : LS) (ts : List (List Nat)) : Option (List (List Nat × Nat)) := match ts.foldlM lstep q with
  | none => none
  | some s => if s.due = true ∨ s.inside ≠ [] then none else some s.row
theorem lawFrom_cons (q : LS) (t : List Nat) (ts : List (List Nat)) : lawFrom q (t :: ts) = match lstep q t with
    | none => none
    | some q' => lawFrom q' ts := by
  unfold lawFrom
  rw [List.foldlM_cons]
  cases lstep q t <;> rfl
theorem lawFrom_nil (q : LS) : lawFrom q [] = if q.due = true ∨ q.inside ≠ [] then none else some q.row := rfl
theorem lawRead_from (l : List Nat) : lawRead l = lawFrom ⟨[], [], true, false⟩ (parted l) := rfl
def zipO (o : Option (List (List Nat) × List Nat)) : Option (List (List Nat × Nat)) := o.map fun p => p.1.zip p.2
/-- behind a word -/
def aft (f : Nat) (stk r1 : List Nat) (ws : List (List Nat)) (cs : List Nat) : Option (List (List Nat) × List Nat) := match (closes stk r1).1 with
  | [] => if (closes stk r1).2 = [] then some (ws, cs) else none
  | i :: stk' => if (closes stk r1).2.take 1 = [44] ∧ cs[i]? ≠ some 4 then parseF f ((closes stk r1).2.drop 1) (i :: stk') ws cs else none
theorem parseF_word {f : Nat} {r stk w : List Nat} {ws : List (List Nat)} {cs : List Nat} (h : wordAt r = some w) : parseF (f + 1) r stk ws cs =
    if (r.drop w.length).take 1 = [40] ∧ w ≠ [46] then parseF f ((r.drop w.length).drop 1) (ws.length :: stk) (ws ++ [w]) (bump stk cs ++ [0]) else aft f stk (r.drop w.length) (ws ++ [w]) (bump stk cs ++ [0]) := by
  rw [parseF, h]; rfl
/-- a sign that is none of the three -/
theorem aft_odd {f x : Nat} {stk r : List Nat} {ws : List (List Nat)} {cs : List Nat} (h1 : x ≠ 41) (h2 : x ≠ 44) : aft f stk (x :: r) ws cs = none := by
  cases stk with
  | nil => unfold aft; rw [closes_nil]; rfl
  | cons i stk =>
    have e : closes (i :: stk) (x :: r) = (i :: stk, x :: r) := by rw [closes_cons, if_neg h1]
    unfold aft
    rw [e]
    dsimp only
    rw [if_neg]
    rintro ⟨h, _⟩
    simp at h
    exact h2 h
theorem goes_lok (c : Nat) : goes c = true ↔ c ∈ LOK := by
  unfold goes LET OTH LOK
  simp only [Bool.or_eq_true, decide_eq_true_eq]
  simp only [List.mem_cons, List.not_mem_nil, or_false]
  omega
theorem lok_nsp {c : Nat} (h : c ∈ LOK) : nsp c = true := by
  unfold LOK at h
  unfold nsp SPC
  simp only [List.mem_cons, List.not_mem_nil, or_false] at h
  simp
  omega
theorem let_lok {c : Nat} (h : c ∈ LET) : c ∈ LOK := (goes_lok c).mp (by unfold goes; simp [h])
theorem takeWhile_app {p : Nat → Bool} : ∀ (a b : List Nat), (∀ c ∈ a, p c = true) → (∀ c, b.head? = some c → p c = false) → (a ++ b).takeWhile p = a
  | [], b, _, h => by
    cases b with
    | nil => rfl
    | cons c b => simp [h c rfl]
  | c :: a, b, h1, h2 => by
    rw [List.cons_append, List.takeWhile_cons, if_pos (h1 c List.mem_cons_self), takeWhile_app a b (fun d hd => h1 d (List.mem_cons_of_mem _ hd)) h2]
theorem head_drop {r : List Nat} : ∀ c, (r.dropWhile nsp).head? = some c → c ∈ SPC := by
  intro c h
  cases e : r.dropWhile nsp with
  | nil => rw [e] at h; cases h
  | cons d v =>
    rw [e] at h
    cases h
    exact drop_head e
theorem word_valid {r : List Nat} (h : validW (r.takeWhile nsp) = true) : wordAt r = some (r.takeWhile nsp) := by
  have er : r = r.takeWhile nsp ++ r.dropWhile nsp := (List.takeWhile_append_dropWhile ..).symm
  have hh := head_drop (r := r)
  generalize hu : r.takeWhile nsp = u at *
  generalize r.dropWhile nsp = v at *
  unfold validW at h
  by_cases h46 : u = [46]
  · rw [er, h46]; rfl
  · rw [decide_eq_false h46, Bool.false_or] at h
    simp only [Bool.and_eq_true, decide_eq_true_eq] at h
    obtain ⟨⟨⟨h1, h2⟩, h3⟩, h4⟩ := h
    cases u with
    | nil => simp at h1
    | cons c u =>
      have hc : c ∈ LET := of_decide_eq_true h3
      have hall : ∀ d ∈ c :: u, d ∈ LOK := fun d hd => by
        have := List.all_eq_true.mp h4 d hd
        exact of_decide_eq_true this
      rw [er, List.cons_append, wordAt_cons, if_neg (by rintro rfl; exact absurd hc (by decide)), if_pos hc]
      rw [takeWhile_app u v (fun d hd => (goes_lok d).mpr (hall d (List.mem_cons_of_mem _ hd))) (fun d hd => by
        cases hg : goes d with
        | false => rfl
        | true =>
          have z := lok_nsp ((goes_lok d).mp hg)
          have hs := hh d hd
          unfold nsp at z
          simp [hs] at z)]
      rw [List.take_of_length_le (by simp at h2; exact h2)]
/-- a word that is not the whole run -/
theorem word_less {r w : List Nat} (hw : wordAt r = some w) (h : validW (r.takeWhile nsp) = false) : ∃ x r', r.drop w.length = x :: r' ∧ nsp x = true := by
  obtain ⟨⟨r2, hr2⟩, hw1, hw16, _⟩ := word_pre hw
  have hall : ∀ d ∈ w, nsp d = true := by
    cases r with
    | nil => cases hw
    | cons c r =>
      rw [wordAt_cons] at hw
      by_cases h46 : c = 46
      · rw [if_pos h46] at hw; cases hw; intro d hd; simp at hd; subst hd; decide
      · rw [if_neg h46] at hw
        by_cases hc : c ∈ LET
        · rw [if_pos hc] at hw; cases hw
          intro d hd
          rcases List.mem_cons.mp hd with rfl | hd
          · exact lok_nsp (let_lok hc)
          · have := tw_mem (List.mem_of_mem_take hd)
            exact lok_nsp ((goes_lok d).mp this)
        · rw [if_neg hc] at hw; cases hw
  subst hr2
  rw [List.drop_left]
  cases r2 with
  | cons x r' =>
    refine ⟨x, r', rfl, ?_⟩
    cases hx : nsp x with
    | true => rfl
    | false =>
      rw [takeWhile_app w (x :: r') hall (fun c hc => by cases hc; exact hx)] at h
      exact absurd (valid_of hw) (by rw [h]; simp)
  | nil =>
    rw [takeWhile_app w [] hall (fun c hc => by cases hc)] at h
    exact absurd (valid_of hw) (by rw [h]; simp)
where
  valid_of {r w : List Nat} (hw : wordAt r = some w) : validW w = true := by
    cases r with
    | nil => cases hw
    | cons c r =>
      rw [wordAt_cons] at hw
      by_cases h46 : c = 46
      · rw [if_pos h46] at hw; cases hw; rfl
      · rw [if_neg h46] at hw
        by_cases hc : c ∈ LET
        · rw [if_pos hc] at hw; cases hw
          unfold validW
          simp only [Bool.or_eq_true, Bool.and_eq_true, decide_eq_true_eq, List.all_eq_true]
          refine .inr ⟨⟨⟨by simp, by simp; omega⟩, hc⟩, fun d hd => ?_⟩
          rcases List.mem_cons.mp hd with rfl | hd
          · exact let_lok hc
          · exact (goes_lok d).mp (tw_mem (List.mem_of_mem_take hd))
        · rw [if_neg hc] at hw; cases hw
end K65
/-! ## Sp7 -/
set_option Elab.async false
set_option linter.all false
set_option maxRecDepth 100000
set_option maxHeartbeats 4000000
namespace K65
open PySem L2 SX Mi
theorem zip_set {ws : List (List Nat)} {cs : List Nat} {i c k : Nat} {w : List Nat} (h : (ws.zip cs)[i]? = some (w, c)) : (ws.zip cs).set i (w, k) = ws.zip (cs.set i k) := by
  apply List.ext_getElem?
  intro j
  obtain ⟨hl, e⟩ := List.getElem?_eq_some_iff.mp h
  rw [List.length_zip] at hl
  rw [List.getElem_zip] at e
  by_cases hj : i = j
  · subst hj
    rw [List.getElem?_set_self (by rw [List.length_zip]; exact hl), List.getElem?_zip_eq_some.mpr]
    refine ⟨?_, ?_⟩
    · rw [List.getElem?_eq_getElem (by omega)]
      exact congrArg some (Prod.mk.inj e).1
    · rw [List.getElem?_set_self (by omega)]
  · rw [List.getElem?_set_ne hj]
    by_cases hjl : j < min ws.length cs.length
    · rw [List.getElem?_eq_getElem (by rw [List.length_zip]; exact hjl), List.getElem?_eq_getElem (by rw [List.length_zip, List.length_set]; exact hjl), List.getElem_zip, List.getElem_zip, List.getElem_set_ne hj]
    · rw [List.getElem?_eq_none (by rw [List.length_zip]; omega), List.getElem?_eq_none (by rw [List.length_zip, List.length_set]; omega)]
theorem zip_at {ws : List (List Nat)} {cs : List Nat} {i : Nat} (hl : ws.length = cs.length) (h : i < cs.length) : ∃ w c, (ws.zip cs)[i]? = some (w, c) ∧ cs[i]? = some c := by
  refine ⟨ws[i], cs[i], ?_, List.getElem?_eq_getElem h⟩
  rw [List.getElem?_eq_getElem (by rw [List.length_zip]; omega), List.getElem_zip]
theorem spc_cases {x : Nat} (h : x ∈ SPC) : x = 40 ∨ x = 41 ∨ x = 44 := by
  unfold SPC at h
  simpa using h
abbrev Main (n : Nat) : Prop := ∀ (r stk : List Nat) (ws : List (List Nat)) (cs : List Nat) (f : Nat) (fr : Bool), r.length < n → r.length < f → ws.length = cs.length → (∀ i ∈ stk, i < cs.length) → (∀ c ∈ bump stk cs, c ≤ 4) →
  lawFrom ⟨ws.zip (bump stk cs), stk, true, fr⟩ (parted r) = zipO (parseF f r stk ws cs)
theorem odd_tok {row : List (List Nat × Nat)} {stk : List Nat} {fr : Bool} {t : List Nat} (h1 : t ≠ [40]) (h2 : t ≠ [41]) (h3 : t ≠ [44]) : lstep ⟨row, stk, false, fr⟩ t = none := by
  unfold lstep
  rw [if_neg (by simp), if_neg h1]
  cases stk with
  | nil => rfl
  | cons i stk =>
    dsimp only
    cases row[i]? with
    | none => rfl
    | some p =>
      obtain ⟨w, c⟩ := p
      dsimp only
      rw [if_neg (fun z => h3 z.1), if_neg h2]
theorem aft_eq {n f : Nat} (ih : Main n) : ∀ (v stk : List Nat) (ws : List (List Nat)) (cs : List Nat) (fr : Bool), v.length ≤ n → v.length ≤ f → ws.length = cs.length → (∀ i ∈ stk, i < cs.length) → (∀ c ∈ cs, c ≤ 4) →
    (fr = true → v.head? = some 40 → ((ws.zip cs).getLast?.map (·.1)) = some [46]) → lawFrom ⟨ws.zip cs, stk, false, fr⟩ (parted v) = zipO (aft f stk v ws cs) := by
  intro v
  induction v with
  | nil =>
    intro stk ws cs fr _ _ hl hs h4 hfr
    have e : parted [] = [] := rfl
    rw [e, lawFrom_nil]
    cases stk with
    | nil => rfl
    | cons i stk => rfl
  | cons x v ihv =>
    intro stk ws cs fr hn hf hl hs h4 hfr
    by_cases hx : x ∈ SPC
    · have ep : parted (x :: v) = [x] :: parted v := by rw [parted_run, run_sep hx]; rfl
      rw [ep, lawFrom_cons]
      rcases spc_cases hx with rfl | rfl | rfl
      · have e : lstep ⟨ws.zip cs, stk, false, fr⟩ [40] = none := by
          unfold lstep
          rw [if_neg (by simp), if_pos rfl, if_pos]
          cases fr
          · exact .inl rfl
          · exact .inr (hfr rfl rfl)
        rw [e, aft_odd (by decide) (by decide)]; rfl
      · cases stk with
        | nil =>
          have e : lstep ⟨ws.zip cs, [], false, fr⟩ [41] = none := rfl
          rw [e]
          unfold aft
          rw [closes_nil]; rfl
        | cons i stk =>
          obtain ⟨w, c, h1, h2⟩ := zip_at hl (hs i List.mem_cons_self)
          have e : lstep ⟨ws.zip cs, i :: stk, false, fr⟩ [41] = some ⟨ws.zip cs, stk, false, false⟩ := by
            unfold lstep
            rw [if_neg (by simp), if_neg (by simp)]
            dsimp only
            rw [h1]
            dsimp only
            rw [if_neg (fun z => by simp at z), if_pos rfl]
          rw [e]
          dsimp only
          simp at hn hf
          rw [ihv stk ws cs false (by omega) (by omega) hl (fun j hj => hs j (List.mem_cons_of_mem _ hj)) h4 (fun z => by cases z)]
          have ec : closes (i :: stk) (41 :: v) = closes stk v := by rw [closes_cons, if_pos rfl]
          unfold aft
          rw [ec]
      · cases stk with
        | nil =>
          have e : lstep ⟨ws.zip cs, [], false, fr⟩ [44] = none := rfl
          rw [e]
          unfold aft
          rw [closes_nil]; rfl
        | cons i stk =>
          obtain ⟨w, c, h1, h2⟩ := zip_at hl (hs i List.mem_cons_self)
          have ec : closes (i :: stk) (44 :: v) = (i :: stk, 44 :: v) := by rw [closes_cons, if_neg (by decide)]
          have hc4 : c ≤ 4 := h4 c (List.mem_of_getElem? h2)
          have e : lstep ⟨ws.zip cs, i :: stk, false, fr⟩ [44] = if c < 4 then some ⟨(ws.zip cs).set i (w, c + 1), i :: stk, true, fr⟩ else none := by
            unfold lstep
            rw [if_neg (by simp), if_neg (by simp)]
            dsimp only
            rw [h1]
            dsimp only
            by_cases hc : c < 4
            · rw [if_pos ⟨rfl, hc⟩, if_pos hc]
            · rw [if_neg (fun z => hc z.2), if_neg (by simp), if_neg hc]
          rw [e]
          unfold aft
          rw [ec]
          dsimp only
          rw [h2]
          by_cases hc : c < 4
          · rw [if_pos hc, if_pos ⟨rfl, fun z => by simp at z; omega⟩]
            dsimp only
            simp at hn hf
            have eb : bump (i :: stk) cs = cs.set i (c + 1) := by
              show cs.set i (cs[i]?.getD 0 + 1) = _
              rw [h2]; rfl
            have := ih v (i :: stk) ws cs f fr (by omega) (by omega) hl hs (by
              rw [eb]
              intro d hd
              rcases List.mem_or_eq_of_mem_set hd with hd | rfl
              · exact h4 d hd
              · omega)
            rw [eb] at this
            rw [zip_set h1]
            exact this
          · rw [if_neg hc, if_neg (fun z => z.2 (by congr 1; omega))]
            rfl
    · have hns : nsp x = true := by unfold nsp; simp [hx]
      have ep : ∃ t ts, parted (x :: v) = (x :: t) :: ts := by
        rw [parted_run, run_word]
        cases e : (x :: v).dropWhile nsp with
        | nil =>
          refine ⟨v.takeWhile nsp, [], ?_⟩
          dsimp only
          rw [List.takeWhile_cons, if_pos hns]; simp
        | cons c u =>
          refine ⟨v.takeWhile nsp, [c] :: parted u, ?_⟩
          dsimp only
          rw [List.takeWhile_cons, if_pos hns]; simp
      obtain ⟨t, ts, ep⟩ := ep
      have nx : ∀ y, y ∈ SPC → (x :: t) ≠ [y] := fun y hy z => hx (by rw [(List.cons.inj z).1]; exact hy)
      rw [ep, lawFrom_cons, odd_tok (nx 40 (by decide)) (nx 41 (by decide)) (nx 44 (by decide)), aft_odd (fun z => hx (by rw [z]; decide)) (fun z => hx (by rw [z]; decide))]
      rfl
theorem main_all : ∀ n, Main n
  | 0 => fun r _ _ _ _ _ h => absurd h (Nat.not_lt_zero _)
  | n + 1 => by
    intro r stk ws cs f fr hn hf hl hs h4
    have ih := main_all n
    cases f with
    | zero => omega
    | succ f =>
    have er : r = r.takeWhile nsp ++ r.dropWhile nsp := (List.takeWhile_append_dropWhile ..).symm
    cases hv : validW (r.takeWhile nsp) with
    | false =>
      have e1 : lawFrom ⟨ws.zip (bump stk cs), stk, true, fr⟩ (parted r) = none := by
        rw [parted_run, run_word]
        cases e : r.dropWhile nsp with
        | nil =>
          dsimp only
          by_cases hu : r.takeWhile nsp = []
          · rw [hu]; rfl
          · rw [List.nil_append, if_neg hu, lawFrom_cons]
            unfold lstep
            rw [if_pos rfl, hv]; rfl
        | cons c v =>
          dsimp only
          by_cases hu : r.takeWhile nsp = []
          · rw [hu, List.nil_append, if_pos rfl, List.nil_append, lawFrom_cons]
            have hc := spc_cases (drop_head e)
            unfold lstep
            rw [if_pos rfl]
            have : validW [c] = false := by rcases hc with rfl | rfl | rfl <;> rfl
            rw [this]; rfl
          · rw [List.nil_append, if_neg hu, List.cons_append, lawFrom_cons]
            unfold lstep
            rw [if_pos rfl, hv]; rfl
      rw [e1]
      cases hw : wordAt r with
      | none => rw [parseF, hw]; rfl
      | some w =>
        obtain ⟨x, r', e2, hx⟩ := word_less hw hv
        rw [parseF_word hw, e2, if_neg, aft_odd]
        · rfl
        · rintro rfl; exact absurd hx (by decide)
        · rintro rfl; exact absurd hx (by decide)
        · rintro ⟨z, _⟩
          simp at z
          subst z
          exact absurd hx (by decide)
    | true =>
      have hw := word_valid hv
      have hne : r.takeWhile nsp ≠ [] := by
        intro z
        rw [z] at hv
        cases hv
      have ed : r.drop (r.takeWhile nsp).length = r.dropWhile nsp := by
        conv => lhs; rw [er]
        rw [← er]
        have := List.drop_left (l₁ := r.takeWhile nsp) (l₂ := r.dropWhile nsp)
        rw [← er] at this
        exact this
      have hlr : (r.takeWhile nsp).length + (r.dropWhile nsp).length = r.length := by
        rw [← List.length_append, ← er]
      have hpos : 0 < (r.takeWhile nsp).length := List.length_pos_iff.mpr hne
      rw [parseF_word hw, ed, parted_run, run_word]
      have hhead := head_drop (r := r)
      generalize hu : r.takeWhile nsp = u at *
      generalize hvv : r.dropWhile nsp = v at *
      have ezip : ws.zip (bump stk cs) ++ [(u, 0)] = (ws ++ [u]).zip (bump stk cs ++ [0]) := by
        rw [List.zip_append (by simp [hl])]; rfl
      have estep : lstep ⟨ws.zip (bump stk cs), stk, true, fr⟩ u = some ⟨(ws ++ [u]).zip (bump stk cs ++ [0]), stk, false, true⟩ := by
        unfold lstep
        rw [if_pos rfl, if_pos hv, ← ezip]
      have hl1 : (ws ++ [u]).length = (bump stk cs ++ [0]).length := by simp [hl]
      have hs1 : ∀ i ∈ stk, i < (bump stk cs ++ [0]).length := fun i hi => by
        have := hs i hi
        simp; omega
      have h41 : ∀ c ∈ bump stk cs ++ [0], c ≤ 4 := fun c hc => by
        rcases List.mem_append.mp hc with hc | hc
        · exact h4 c hc
        · simp at hc; omega
      have elast : ((ws ++ [u]).zip (bump stk cs ++ [0])).getLast?.map (·.1) = some u := by
        rw [← ezip]; simp
      have hlen : (bump stk cs).length = ws.length := by simp [hl]
      refine Eq.trans (b := lawFrom ⟨(ws ++ [u]).zip (bump stk cs ++ [0]), stk, false, true⟩ (parted v)) ?_ ?_
      · cases v with
        | nil =>
          dsimp only
          rw [List.nil_append, if_neg hne, lawFrom_cons, estep]; rfl
        | cons c v =>
          dsimp only
          rw [List.nil_append, if_neg hne, List.cons_append, lawFrom_cons, estep]
          dsimp only
          rw [List.nil_append, parted_run (c :: v), run_sep (hhead c rfl)]
          rfl
      by_cases h40 : v.take 1 = [40] ∧ u ≠ [46]
      · rw [if_pos h40]
        obtain ⟨v', rfl⟩ := take1_eq.mp h40.1
        have ep : parted (40 :: v') = [40] :: parted v' := by rw [parted_run, run_sep (by decide)]; rfl
        rw [ep, lawFrom_cons]
        have hln : ((ws ++ [u]).zip (bump stk cs ++ [0])).length - 1 = ws.length := by rw [List.length_zip, ← hl1]; simp
        have hbp : bump (ws.length :: stk) (bump stk cs ++ [0]) = (bump stk cs ++ [0]).set ws.length 1 := by
          show (bump stk cs ++ [0]).set ws.length ((bump stk cs ++ [0])[ws.length]?.getD 0 + 1) = _
          have : (bump stk cs ++ [0])[ws.length]? = some 0 := by rw [← hlen]; simp
          rw [this]; rfl
        have e : lstep ⟨(ws ++ [u]).zip (bump stk cs ++ [0]), stk, false, true⟩ [40] = some ⟨(ws ++ [u]).zip (bump (ws.length :: stk) (bump stk cs ++ [0])), ws.length :: stk, true, true⟩ := by
          unfold lstep
          rw [if_neg (by simp), if_pos rfl, if_neg, elast, hln, hbp]
          · have hat : ((ws ++ [u]).zip (bump stk cs ++ [0]))[ws.length]? = some (u, 0) := by
              rw [← ezip, List.getElem?_append_right (by rw [List.length_zip, hlen]; omega)]
              rw [List.length_zip, hlen, Nat.min_self, Nat.sub_self]; rfl
            rw [show ((some u : Option (List Nat)).getD []) = u from rfl, zip_set hat]
          · rw [elast]
            rintro (z | z)
            · cases z
            · exact h40.2 (Option.some.inj z)
        rw [e]
        dsimp only
        simp at hlr
        refine ih v' (ws.length :: stk) (ws ++ [u]) (bump stk cs ++ [0]) f true (by omega) (by omega) hl1 (fun i hi => ?_) (fun c hc => ?_)
        · rcases List.mem_cons.mp hi with rfl | hi
          · simp [hlen]
          · exact hs1 i hi
        · rw [hbp] at hc
          rcases List.mem_or_eq_of_mem_set hc with hc | rfl
          · exact h41 c hc
          · omega
      · rw [if_neg h40]
        refine aft_eq ih v stk (ws ++ [u]) (bump stk cs ++ [0]) true (by omega) (by omega) hl1 hs1 h41 (fun _ hh => ?_)
        rw [elast]
        congr 1
        exact Decidable.of_not_not fun z => h40 ⟨by cases v with | nil => cases hh | cons c v => cases hh; rfl, z⟩
theorem lawRead_eq (l : List Nat) : lawRead l = zipO (parse l) := by
  have := main_all (l.length + 1) l [] [] [] (l.length + 1) false (by omega) (by omega) rfl (fun _ h => nomatch h) (fun _ h => nomatch h)
  exact this
end K65
/-! ## Sp8 -/
set_option Elab.async false
set_option linter.all false
set_option maxRecDepth 100000
set_option maxHeartbeats 4000000
namespace K65
open PySem L2 SX Mi
variable {st : Store} {l a : List Nat} {c : Nat}
/-! ### trees as texts -/
def node (w : List Nat) (n : Nat) (ts : List (List Nat)) : List Nat := if 0 < n then w ++ [40] ++ TL.joinL [44] (ts.take n) ++ [41] else w
def sh : List (List Nat × Nat) → List (List Nat)
  | [] => []
  | (w, n) :: r => node w n (sh r) :: (sh r).drop n
def okSh : List (List Nat × Nat) → Prop
  | [] => True
  | (_, n) :: r => okSh r ∧ n ≤ (sh r).length
def wt : List (List Nat × Nat) → Nat
  | [] => 0
  | (w, n) :: r => w.length + n + 2 + wt r
def tot (ts : List (List Nat)) : Nat := (ts.map List.length).sum
theorem tot_app (a b : List (List Nat)) : tot (a ++ b) = tot a + tot b := by simp [tot]
theorem joinL_len (ts : List (List Nat)) : (TL.joinL [44] ts).length ≤ tot ts + ts.length := by
  have e := join_S [44] ts
  have h := StrLaws.join_length_le (S [44]) (ts.map S)
  rw [lens] at h
  have e2 : Str.join (S [44]) (ts.map S) = S (TL.joinL [44] ts) := by
    rw [← join_S]; unfold Txt.join; rw [StrLaws.glued_eq_join]
  rw [e2, S_len] at h
  simp at h
  exact h
theorem tot_split (ts : List (List Nat)) (n : Nat) : tot ts = tot (ts.take n) + tot (ts.drop n) := by rw [← tot_app, List.take_append_drop]
theorem sh_wt : ∀ row : List (List Nat × Nat), tot (sh row) ≤ wt row ∧ (sh row).length ≤ row.length
  | [] => ⟨Nat.le_refl _, Nat.le_refl _⟩
  | (w, n) :: r => by
    obtain ⟨h1, h2⟩ := sh_wt r
    have h3 := joinL_len ((sh r).take n)
    have h4 := tot_split (sh r) n
    have h5 : ((sh r).take n).length ≤ n := by simp; omega
    refine ⟨?_, ?_⟩
    · show tot (node w n (sh r) :: (sh r).drop n) ≤ w.length + n + 2 + wt r
      have : tot (node w n (sh r) :: (sh r).drop n) = (node w n (sh r)).length + tot ((sh r).drop n) := by simp [tot]
      rw [this]
      unfold node
      split
      · simp; omega
      · omega
    · show ((sh r).drop n).length + 1 ≤ r.length + 1
      simp; omega
@[simp] theorem wp_joinS {m : ME} {ms : List ME} {acc : Str} {env : Mi.Env} {K : D → Store → Prop} {E : Str → Fs → Store → Prop} : wp (joinS (m :: ms) acc env st) K E = wp (m env st) (fun d st => match d with | .str y => if (acc ++ y).length ≤ 1000000 then wp (joinS ms (acc ++ y) env st) K E else False | _ => False) E := by
  rw [joinS, wp_bind]
  congr 1
  funext d s
  cases d <;> try rfl
  simp only [wp_ite]; rfl
@[simp] theorem wp_joinS0 {acc : Str} {env : Mi.Env} {K : D → Store → Prop} {E : Str → Fs → Store → Prop} : wp (joinS [] acc env st) K E = K (.str acc) st := rfl
@[simp] theorem wp_fmt {m : ME} {env : Mi.Env} {K : D → Store → Prop} {E : Str → Fs → Store → Prop} : wp (mFmt m env st) K E = wp (m env st) (fun d st => wp (fmtS d st) K E) E := by simp [mFmt]
@[simp] theorem wp_fmtS {K : D → Store → Prop} {E : Str → Fs → Store → Prop} : wp (fmtS (.str (S a)) st) K E = if a.length ≤ 1000000 then K (.str (S a)) st else False := by simp only [fmtS, S_len, wp_ite, wp_ok]; rfl
@[simp] theorem emp_S : Str.empty = S [] := rfl
theorem strs_sL (ts : List (List Nat)) : strsOf (sL ts) = some (ts.map S) := by
  induction ts with
  | nil => rfl
  | cons t ts ih => show (strsOf (sL ts)).map (S t :: ·) = _; rw [ih]; rfl
theorem f_join {s : Store} {r : Nat} {ts : List (List Nat)} {x : List Nat} (h : s[r]? = some (.lst (sL ts))) (hz : tot ts + ts.length * x.length ≤ 1000000) : fJoin (.str (S x)) [.ref r] s = .ok (.str (S (TL.joinL x ts))) s := by
  unfold fJoin
  simp only [items_l h, strs_sL]
  rw [if_pos (by rw [lens, S_len]; simpa [tot] using hz), join_S]
theorem rowD_get {row : List (List Nat × Nat)} {i : Nat} : (rowD row)[i]? = row[i]?.map fun p => D.tup [.str (S p.1), .int (p.2 : Nat)] := List.getElem?_map ..
@[simp] theorem rowD_len {row : List (List Nat × Nat)} : (rowD row).length = row.length := List.length_map ..
/-- popping many -/
theorem pops {s : Store} {A B many : Nat} {env : Mi.Env} {ts : List (List Nat)} (hAB : A ≠ B) (hA : s[A]? = some (.lst (sL ts.reverse))) (hB : s[B]? = some (.lst [])) (hn : many ≤ ts.length) (hts : ts.length < 1000000) {N : Mi.Env → Store → Prop} {R : D → Store → Prop} {E : Str → Fs → Mi.Env → Store → Prop} {m : MI}
    (hm : Ev (m env s) (sItems (rng 0 many)) s) (h5 : 5 < env.length) (hv : ∀ x s', mVar 4 (env.set 5 (some x)) s' = .ok (.ref B) s') (hv1 : ∀ x s', mVar 1 (env.set 5 (some x)) s' = .ok (.ref A) s')
    (k : ∀ (x : Option D) (s' : Store), s'[A]? = some (.lst (sL (ts.drop many).reverse)) → s'[B]? = some (.lst (sL (ts.take many))) → (∀ S0 st0, Fr S0 st0 s → (st0.length ≤ A ∨ A ∈ S0) → (st0.length ≤ B ∨ B ∈ S0) → Fr S0 st0 s') → (x = env[5]?.getD none ∨ ∃ d, x = some d) → N (env.set 5 x) s') :
    wpS (kFor m (gN 5) (kExpr (mM fAppend (mRecv "list" (mVar 4)) (mCons (mM0 fPop (mRecv "list" (mVar 1))) mNil))) env s) N R E := by
  refine s_for (src := sItems (rng 0 many)) (st' := s) (rng 0 many) (fun j env' s' => ∃ x, env' = env.set 5 x ∧ (x = env[5]?.getD none ∨ ∃ d, x = some d) ∧ s'[A]? = some (.lst (sL (ts.drop j).reverse)) ∧ s'[B]? = some (.lst (sL (ts.take j))) ∧ ∀ S0 st0, Fr S0 st0 s → (st0.length ≤ A ∨ A ∈ S0) → (st0.length ≤ B ∨ B ∈ S0) → Fr S0 st0 s') hm rfl
    ⟨env[5]?.getD none, ?_, .inl rfl, hA, hB, fun _ _ h _ _ => h⟩ (fun _ _ _ _ => rfl) ?_ ?_
  · apply List.ext_getElem?
    intro i
    by_cases hi : 5 = i
    · subst hi
      rw [List.getElem?_set_self h5, List.getElem?_eq_getElem h5]; rfl
    · rw [List.getElem?_set_ne hi]
  · rintro j d env' s' hd ⟨x, rfl, hx, hA', hB', fr⟩
    have hj : j < many := by
      have := (List.getElem?_eq_some_iff.mp hd).1
      simpa [rng] using this
    have hjl : j < ts.length := by omega
    refine ⟨(env.set 5 x).set 5 (some d), rfl, ?_⟩
    rw [List.set_set]
    have e1 : ts.drop j = ts[j] :: ts.drop (j + 1) := List.drop_eq_getElem_cons hjl
    have hA2 : s'[A]? = some (.lst (sL (ts.drop (j + 1)).reverse ++ [.str (S ts[j])])) := by rw [hA', e1, List.reverse_cons, sL_app]; rfl
    have hB2 : (s'.set A (.lst (sL (ts.drop (j + 1)).reverse)))[B]? = some (.lst (sL (ts.take j))) := by rw [set_no hAB]; exact hB'
    have ea := f_append (y := .str (S ts[j])) hB2 (show (sL (ts.take j)).length < 1000000 by simp; omega)
    refine s_expr (v := .non) (st' := (s'.set A (.lst (sL (ts.drop (j + 1)).reverse))).set B (.lst (sL (ts.take j) ++ [.str (S ts[j])]))) ?_ ⟨some d, rfl, .inr ⟨d, rfl⟩, ?_, ?_, ?_⟩
    · intro K E' kk
      rw [wp_mM, wp_mRecv, hv, wp_ok, if_pos (rec_l hB'), wp_mCons, wp_mM0, wp_mRecv, hv1, wp_ok, if_pos (rec_l hA2), f_pop hA2, wp_ok, wp_mNil, ea, wp_ok]
      exact kk
    · rw [set_no hAB.symm]; exact set_at hA'
    · rw [set_at hB2]
      have : ts.take (j + 1) = ts.take j ++ [ts[j]] := by rw [List.take_succ, List.getElem?_eq_getElem hjl]; rfl
      rw [this, sL_app]; rfl
    · intro S0 st0 h1 h2 h3
      exact ((fr S0 st0 h1 h2 h3).set h2).set h3
  · rintro env' s' ⟨x, rfl, hx, hA', hB', fr⟩
    have : (rng 0 many).length = many := by simp [rng]
    rw [this] at hA' hB'
    exact k x s' hA' hB' fr hx
theorem okSh_drop : ∀ (j : Nat) (row : List (List Nat × Nat)), okSh row → okSh (row.drop j)
  | 0, _, h => h
  | _ + 1, [], h => h
  | j + 1, _ :: r, h => okSh_drop j r h.1
theorem wt_drop : ∀ (j : Nat) (row : List (List Nat × Nat)), wt (row.drop j) ≤ wt row
  | 0, _ => Nat.le_refl _
  | _ + 1, [] => Nat.le_refl _
  | j + 1, (w, n) :: r => Nat.le_trans (wt_drop j r) (Nat.le_add_left _ _)
theorem drop_step {row : List (List Nat × Nat)} {k : Nat} (hk : k < row.length) : ∃ w n, row[row.length - 1 - k]? = some (w, n) ∧ row.drop (row.length - (k + 1)) = (w, n) :: row.drop (row.length - k) := by
  have hi : row.length - 1 - k < row.length := by omega
  refine ⟨row[row.length - 1 - k].1, row[row.length - 1 - k].2, List.getElem?_eq_getElem hi, ?_⟩
  rw [show row.length - (k + 1) = row.length - 1 - k by omega, List.drop_eq_getElem_cons hi, show row.length - 1 - k + 1 = row.length - k by omega]
theorem node_len (w : List Nat) (n : Nat) (ts : List (List Nat)) : (node w n ts).length ≤ w.length + tot ts + ts.length + 2 := by
  have h3 := joinL_len (ts.take n)
  have h4 := tot_split ts n
  have h5 : (ts.take n).length ≤ ts.length := by simp; omega
  unfold node
  split
  · simp; omega
  · omega
theorem shown_eq {row : List (List Nat × Nat)} {t : List Nat} (ok : okSh row) (h1 : sh row = [t]) (hz : wt row ≤ 200000) (hr : row.length ≤ 200000) : ∃ st', m_shown [.tup (rowD row)] st = .ok (.str (S t)) st' ∧ Fr [] st st' := by
  have key : wp (m_shown [.tup (rowD row)] st) (fun d s => d = .str (S t) ∧ Fr [] st s) fun _ _ _ => False := by
    refine wp_def (show wpS (b_shown [some (.tup (rowD row)), none, none, none, none, none, none] st) _ _ _ from ?_)
    refine s_seq (s_set (v := .ref st.length) (st' := st ++ [.lst []]) (fun K E k => by simp; exact k) ?_)
    refine s_seq ?_
    refine s_for (src := sItems (rowD row).reverse) (st' := st ++ [.lst []]) (rowD row).reverse (fun k env s => ∃ x2 x3 x4 x5 x6 : Option D, env = [some (.tup (rowD row)), some (.ref st.length), x2, x3, x4, x5, x6] ∧ s[st.length]? = some (.lst (sL (sh (row.drop (row.length - k))).reverse)) ∧ Fr [] st s)
      (fun K E k => by simp [iRevM, fRev]; exact k) rfl ⟨none, none, none, none, none, rfl, ?_, Fr.refl.app⟩ (fun _ _ _ _ => rfl) ?_ ?_
    · rw [Nat.sub_zero, List.drop_length]; exact app_new
    · rintro k d env s hd ⟨x2, x3, x4, x5, x6, rfl, hs, fr⟩
      have hk : k < row.length := by
        have := (List.getElem?_eq_some_iff.mp hd).1
        simpa using this
      rw [List.getElem?_reverse (by simpa using hk), rowD_len, rowD_get] at hd
      obtain ⟨w, n, hrow, edr⟩ := drop_step hk
      rw [hrow] at hd
      have hd := (Option.some.inj hd).symm
      subst hd
      have okk := okSh_drop (row.length - (k + 1)) row ok
      rw [edr] at okk
      obtain ⟨_, hn⟩ := okk
      have hwk := wt_drop (row.length - (k + 1)) row
      rw [edr] at hwk
      obtain ⟨hw1, hw2⟩ := sh_wt (row.drop (row.length - k))
      have hrl : (row.drop (row.length - k)).length ≤ row.length := by simp
      rw [edr]
      have esh : sh ((w, n) :: row.drop (row.length - k)) = node w n (sh (row.drop (row.length - k))) :: (sh (row.drop (row.length - k))).drop n := rfl
      rw [esh]
      have ewt : w.length + n + 2 + wt (row.drop (row.length - k)) ≤ 200000 := Nat.le_trans hwk hz
      generalize sh (row.drop (row.length - k)) = ts at *
      have hnl := node_len w n ts
      refine ⟨_, rfl, ?_⟩
      refine s_seq (s_set (v := .ref s.length) (st' := s ++ [.lst []]) (fun K E k => by simp; exact k) ?_)
      have hsl := (List.getElem?_eq_some_iff.mp hs).1
      have hs1 : (s ++ [Ob.lst []])[st.length]? = some (.lst (sL ts.reverse)) := app_at hs
      have hB1 : (s ++ [Ob.lst []])[s.length]? = some (.lst []) := app_new
      have fr1 : Fr [] st (s ++ [Ob.lst []]) := fr.app
      have hneq : st.length ≠ s.length := by omega
      have hle : st.length ≤ s.length := by omega
      generalize s ++ [Ob.lst []] = s1 at *
      generalize hsB : s.length = B at *
      refine s_seq (pops (A := st.length) (B := B) (many := n) (ts := ts) hneq hs1 hB1 hn (by omega) (ev_rng1 rfl (by omega)) (by simp) (fun _ _ => rfl) (fun _ _ => rfl) (fun x s2 hA2 hB2 frr hx => ?_))
      have fr2 := frr [] st fr1 (.inl (Nat.le_refl _)) (.inl hle)
      have h3 := joinL_len (ts.take n)
      have h4 := tot_split ts n
      have h5 : (ts.take n).length ≤ ts.length := by simp; omega
      have ej := f_join (x := [44]) hB2 (by simp; omega)
      refine s_seq (s_set (v := .str (S (TL.joinL [44] (ts.take n)))) (st' := s2) (fun K E k => by simp [ej]; exact k) ?_)
      have ea := f_append (y := .str (S (node w n ts))) hA2 (show (sL (ts.drop n).reverse).length < 1000000 by simp; omega)
      refine s_expr (v := .non) (st' := s2.set st.length (.lst (sL (ts.drop n).reverse ++ [.str (S (node w n ts))]))) (fun K E k => ?_) ⟨_, _, _, _, _, rfl, ?_, fr2.set (.inl (Nat.le_refl _))⟩
      · by_cases hn0 : 0 < n
        · have hn0' : (0 : Int) < (n : Int) := by omega
          have e1 : node w n ts = w ++ [40] ++ TL.joinL [44] (ts.take n) ++ [41] := by unfold node; rw [if_pos hn0]
          rw [e1] at ea
          have g1 : w.length ≤ 1000000 := by omega
          have g2 : (TL.joinL [44] (ts.take n)).length ≤ 1000000 := by omega
          have g3 : w.length + 1 ≤ 1000000 := by omega
          have g4 : w.length + (1 + (TL.joinL [44] (ts.take n)).length) ≤ 1000000 := by omega
          have g5 : w.length + (1 + ((TL.joinL [44] (ts.take n)).length + 1)) ≤ 1000000 := by omega
          have g6 : w.length + 1 + (TL.joinL [44] (ts.take n)).length ≤ 1000000 := by omega
          have g7 : w.length + 1 + (TL.joinL [44] (ts.take n)).length + 1 ≤ 1000000 := by omega
          have g8 : w.length + ((TL.joinL [44] (ts.take n)).length + 1) ≤ 1000000 := by omega
          have g9 : w.length + ((TL.joinL [44] (ts.take n)).length + 2) ≤ 1000000 := by omega
          rw [e1] at k
          simp [hn0, g8, g9, mJoined, rec_l hA2, g1, g2, g3, g4, g5, g6, g7, Nat.add_assoc] at ea k ⊢
          rw [ea]
          exact k
        · have hn0' : ¬ (0 : Int) < (n : Int) := by omega
          have e1 : node w n ts = w := by unfold node; rw [if_neg hn0]
          rw [e1] at ea k
          simp [hn0, rec_l hA2, ea]
          exact k
      · rw [set_at hA2, List.reverse_cons, sL_app]; rfl
    · rintro env s ⟨x2, x3, x4, x5, x6, rfl, hs, fr⟩
      have e0 : row.length - (rowD row).reverse.length = 0 := by simp
      rw [e0, List.drop_zero, h1] at hs
      have ei : fIx (.ref st.length) (.int 0) s = .ok (.str (S t)) s := by
        unfold fIx; simp only [items_l hs]; rfl
      exact s_ret (v := .str (S t)) (st' := s) (fun K E k => by simp [ei]; exact k) ⟨rfl, fr⟩
  obtain ⟨d, s, e, rfl, fr⟩ := wp_get key
  exact ⟨s, e, fr⟩
end K65
/-! ## Sp9 -/
set_option Elab.async false
set_option linter.all false
set_option maxRecDepth 100000
set_option maxHeartbeats 4000000
namespace K65
open PySem L2 SX Mi
variable {st : Store} {l a : List Nat} {c : Nat}
theorem lshow_eq {row : List (List Nat × Nat)} {t : List Nat} (ok : okSh row) (h1 : sh row = [t]) (hz : wt row ≤ 200000) (hr : row.length ≤ 200000) : ∃ st', m_law_show [.tup (rowD row)] st = .ok (.str (S t)) st' ∧ Fr [] st st' := by
  have key : wp (m_law_show [.tup (rowD row)] st) (fun d s => d = .str (S t) ∧ Fr [] st s) fun _ _ _ => False := by
    refine wp_def (show wpS (b_law_show [some (.tup (rowD row)), none, none, none, none, none] st) _ _ _ from ?_)
    refine s_seq (s_set (v := .ref st.length) (st' := st ++ [.lst []]) (fun K E k => by simp; exact k) ?_)
    refine s_seq ?_
    refine s_for (src := sItems (rng 0 row.length)) (st' := st ++ [.lst []]) (rng 0 row.length) (fun k env s => ∃ x2 x3 x4 x5 : Option D, env = [some (.tup (rowD row)), some (.ref st.length), x2, x3, x4, x5] ∧ s[st.length]? = some (.lst (sL (sh (row.drop (row.length - k))).reverse)) ∧ Fr [] st s)
      (ev_rng1 (Ev.eq (fun K E k => by simp; exact k)) (by omega)) rfl ⟨none, none, none, none, rfl, ?_, Fr.refl.app⟩ (fun _ _ _ _ => rfl) ?_ ?_
    · rw [Nat.sub_zero, List.drop_length]; exact app_new
    · rintro k d env s hd ⟨x2, x3, x4, x5, rfl, hs, fr⟩
      obtain ⟨hk, rfl⟩ := rng_get hd
      obtain ⟨w, n, hrow, edr⟩ := drop_step hk
      have okk := okSh_drop (row.length - (k + 1)) row ok
      rw [edr] at okk
      obtain ⟨_, hn⟩ := okk
      have hwk := wt_drop (row.length - (k + 1)) row
      rw [edr] at hwk
      obtain ⟨hw1, hw2⟩ := sh_wt (row.drop (row.length - k))
      have hrl : (row.drop (row.length - k)).length ≤ row.length := by simp
      rw [edr]
      have esh : sh ((w, n) :: row.drop (row.length - k)) = node w n (sh (row.drop (row.length - k))) :: (sh (row.drop (row.length - k))).drop n := rfl
      rw [esh]
      have ewt : w.length + n + 2 + wt (row.drop (row.length - k)) ≤ 200000 := Nat.le_trans hwk hz
      generalize sh (row.drop (row.length - k)) = ts at *
      have hnl := node_len w n ts
      refine ⟨_, rfl, ?_⟩
      have ei : fIx (.tup (rowD row)) (.int ((row.length : Int) - 1 - (0 + (k : Int)))) s = .ok (.tup [.str (S w), .int (n : Nat)]) s := by
        unfold fIx
        have e2 : (row.length : Int) - 1 - (0 + (k : Int)) = ((row.length - 1 - k : Nat) : Int) := by omega
        rw [e2]
        simp only [atI_k, rowD_get, hrow]
        rfl
      refine s_seq (s_set (v := .tup [.str (S w), .int (n : Nat)]) (st' := s) (fun K E kk => ?_) ?_)
      · simp only [Int.zero_add] at ei
        simp only [wp_mBin, wp_mVar, wp_mFn, wp_mCons, wp_mNil, wp_mC, List.getElem?_cons_zero, List.getElem?_cons_succ, List.set_cons_succ, List.set_cons_zero, f_len_t, wp_ok, f_sub, rowD_len, Int.zero_add, ei]
        exact kk
      have hsl := (List.getElem?_eq_some_iff.mp hs).1
      have hneq : st.length ≠ s.length := by omega
      obtain ⟨acc, s2, e2, h2, hB2, hA2, fr2⟩ := c_lc (env := [some (.tup (rowD row)), some (.ref st.length), some (.int (0 + (k : Int))), some (.tup [.str (S w), .int (n : Nat)]), x4, x5]) (st := s) (st' := s) (mi := iRng1 (mCons (mBin fIx (mVar 3) (mC (.int 1))) mNil)) (src := sItems (rng 0 n)) (own := [5]) (g := gN 5) (t := mYes) (m := mM0 fPop (mRecv "list" (mVar 1)))
        (rng 0 n) (fun j acc s' => acc = sL (ts.take j) ∧ s'[s.length]? = some (.lst acc) ∧ s'[st.length]? = some (.lst (sL (ts.drop j).reverse)) ∧ Fr [] st s') (ev_rng1 (Ev.eq fun K E k => by simp [atI, ixN]; exact k) (by omega)) rfl
        ⟨rfl, app_new, app_at hs, fr.app⟩ (fun _ _ _ _ => rfl) (fun _ _ _ h => h.2.1) (fun j d acc s' hd h => by
          obtain ⟨rfl, hB', hA', fr'⟩ := h
          obtain ⟨hj, rfl⟩ := rng_get hd
          have hjl : j < ts.length := by omega
          have e1 : ts.drop j = ts[j] :: ts.drop (j + 1) := List.drop_eq_getElem_cons hjl
          have hA3 : s'[st.length]? = some (.lst (sL (ts.drop (j + 1)).reverse ++ [.str (S ts[j])])) := by rw [hA', e1, List.reverse_cons, sL_app]; rfl
          refine ⟨_, true, s', rfl, rfl, (fun h => by cases h), fun _ => ⟨.str (S ts[j]), s'.set st.length (.lst (sL (ts.drop (j + 1)).reverse)), ?_, by rw [set_no hneq]; exact hB', by simp; omega, ?_, set_at (by rw [set_no hneq]; exact hB'), by rw [set_no hneq.symm]; exact set_at hA', (fr'.set (.inl (Nat.le_refl _))).set (.inl (by omega))⟩⟩
          · exact Ev.eq fun K E kk => by
              simp [wipeE, rec_l hA3, f_pop hA3]; exact kk
          · have : ts.take (j + 1) = ts.take j ++ [ts[j]] := by rw [List.take_succ, List.getElem?_eq_getElem hjl]; rfl
            rw [this, sL_app]; rfl)
      rw [rng_len] at h2 hA2
      subst h2
      refine s_seq (s_set (v := .ref s.length) (st' := s2) (fun K E kk => ?_) ?_)
      · have e2' := e2
        simp only [List.set_cons_succ, List.set_cons_zero]
        rw [e2']; exact kk
      have h3 := joinL_len (ts.take n)
      have h4 := tot_split ts n
      have h5 : (ts.take n).length ≤ ts.length := by simp; omega
      have ej := f_join (x := [44]) hB2 (by simp; omega)
      have ea := f_append (y := .str (S (node w n ts))) hA2 (show (sL (ts.drop n).reverse).length < 1000000 by simp; omega)
      have fin : ∃ y2 y3 y4 y5 : Option D, [some (D.tup (rowD row)), some (D.ref st.length), some (.int (0 + (k : Int))), some (.tup [.str (S w), .int (n : Nat)]), some (.ref s.length), x5] = [some (D.tup (rowD row)), some (D.ref st.length), y2, y3, y4, y5] ∧
          (s2.set st.length (.lst (sL (ts.drop n).reverse ++ [.str (S (node w n ts))])))[st.length]? = some (.lst (sL (node w n ts :: ts.drop n).reverse)) ∧ Fr [] st (s2.set st.length (.lst (sL (ts.drop n).reverse ++ [.str (S (node w n ts))]))) := by
        refine ⟨_, _, _, _, rfl, ?_, fr2.set (.inl (Nat.le_refl _))⟩
        rw [set_at hA2, List.reverse_cons, sL_app]; rfl
      refine s_if (b := decide (n = 0)) (st' := s2) (fun K E kk => by simp [atI, ixN]; simpa using kk) (fun hb => ?_) fun hb => ?_
      · have hb := of_decide_eq_true hb
        have e1 : node w n ts = w := by unfold node; rw [if_neg (by omega)]
        rw [e1] at ea fin
        rw [e1]
        refine s_expr (v := .non) (st' := s2.set st.length (Ob.lst (sL (ts.drop n).reverse ++ [D.str (S w)]))) (fun K E kk => ?_) (by rw [e1] at *; exact fin)
        simp [rec_l hA2, atI, ixN, ea]
        exact kk
      · have hb := of_decide_eq_false hb
        have e1 : node w n ts = w ++ [40] ++ TL.joinL [44] (ts.take n) ++ [41] := by unfold node; rw [if_pos (by omega)]
        refine s_expr (v := .non) (st' := s2.set st.length (Ob.lst (sL (ts.drop n).reverse ++ [D.str (S (node w n ts))]))) (fun K E kk => ?_) fin
        rw [e1] at ea kk
        have g3 : w.length + 1 ≤ 1000000 := by omega
        have g6 : w.length + (1 + (TL.joinL [44] (ts.take n)).length) ≤ 1000000 := by omega
        have g7 : w.length + (1 + ((TL.joinL [44] (ts.take n)).length + 1)) ≤ 1000000 := by omega
        have g8 : w.length + ((TL.joinL [44] (ts.take n)).length + 1) ≤ 1000000 := by omega
        have g9 : w.length + ((TL.joinL [44] (ts.take n)).length + 2) ≤ 1000000 := by omega
        simp [rec_l hA2, atI, ixN, ej, g3, g6, g7, g8, g9, Nat.add_assoc] at ea kk ⊢
        rw [ea]
        exact kk
    · rintro env s ⟨x2, x3, x4, x5, rfl, hs, fr⟩
      rw [rng_len, Nat.sub_self, List.drop_zero, h1] at hs
      have ei : fIx (.ref st.length) (.int 0) s = .ok (.str (S t)) s := by
        unfold fIx; simp only [items_l hs]; rfl
      exact s_ret (v := .str (S t)) (st' := s) (fun K E k => by simp [ei]; exact k) ⟨rfl, fr⟩
  obtain ⟨d, s, e, rfl, fr⟩ := wp_get key
  exact ⟨s, e, fr⟩
end K65
/-! ## Sp10 -/
set_option Elab.async false
set_option linter.all false
set_option maxRecDepth 100000
set_option maxHeartbeats 4000000
namespace K65
open PySem L2 SX Mi
theorem mod_get {cs : List Nat} {i j : Nat} {f : Nat → Nat} : (cs.modify i f)[j]? = if i = j then cs[j]?.map f else cs[j]? := by
  rw [List.getElem?_modify]
  by_cases h : i = j
  · simp [h]
  · simp [h]
theorem mod_app {cs : List Nat} {i k : Nat} {f : Nat → Nat} (h : i < cs.length) : (cs ++ [k]).modify i f = cs.modify i f ++ [k] := by
  apply List.ext_getElem?
  intro j
  rw [mod_get]
  by_cases hj : j < cs.length
  · rw [List.getElem?_append_left hj, List.getElem?_append_left (by simpa using hj), mod_get]
  · rw [if_neg (by omega), List.getElem?_append_right (by omega), List.getElem?_append_right (by simp; omega)]; simp
theorem joinL_cons (t : List Nat) (M : List (List Nat)) : TL.joinL [44] (t :: M) = t ++ (if M = [] then [] else 44 :: TL.joinL [44] M) := by
  cases M with
  | nil => simp [TL.joinL]
  | cons m M => simp [TL.joinL]
def tl : List (List (List Nat)) → List Nat
  | [] => []
  | L :: r => 41 :: ((if L = [] then [] else 44 :: TL.joinL [44] L) ++ tl r)
def adds : List Nat → List (List (List Nat)) → List Nat → List Nat
  | i :: stk, L :: Ls, cs => adds stk Ls (cs.modify i (· + L.length))
  | _, _, cs => cs
@[simp] theorem adds_nil (Ls : List (List (List Nat))) (cs : List Nat) : adds [] Ls cs = cs := by unfold adds; rfl
theorem adds_cons (i : Nat) (stk : List Nat) (L : List (List Nat)) (Ls : List (List (List Nat))) (cs : List Nat) : adds (i :: stk) (L :: Ls) cs = adds stk Ls (cs.modify i (· + L.length)) := by rw [adds]
@[simp] theorem adds_len : ∀ (stk : List Nat) (Ls : List (List (List Nat))) (cs : List Nat), (adds stk Ls cs).length = cs.length
  | [], Ls, cs => by simp
  | i :: stk, [], cs => by unfold adds; rfl
  | i :: stk, L :: Ls, cs => by rw [adds_cons, adds_len stk Ls]; simp
theorem adds_app : ∀ (stk : List Nat) (Ls : List (List (List Nat))) (cs : List Nat) (k : Nat), (∀ i ∈ stk, i < cs.length) → adds stk Ls (cs ++ [k]) = adds stk Ls cs ++ [k]
  | [], Ls, cs, k, _ => by simp
  | i :: stk, [], cs, k, _ => by unfold adds; rfl
  | i :: stk, L :: Ls, cs, k, h => by
    rw [adds_cons, adds_cons, mod_app (h i List.mem_cons_self)]
    exact adds_app stk Ls _ k (fun j hj => by simpa using h j (List.mem_cons_of_mem _ hj))
theorem bump_modify (i : Nat) (stk cs : List Nat) (h : i < cs.length) : bump (i :: stk) cs = cs.modify i (· + 1) := by
  show cs.set i (cs[i]?.getD 0 + 1) = _
  apply List.ext_getElem?
  intro j
  rw [mod_get]
  by_cases hj : i = j
  · subst hj
    rw [List.getElem?_set_self h, if_pos rfl, List.getElem?_eq_getElem h]; rfl
  · rw [List.getElem?_set_ne hj, if_neg hj]
theorem adds_bump (stk : List Nat) (t : List Nat) (M : List (List Nat)) (Ms : List (List (List Nat))) (cs : List Nat) (h : ∀ i ∈ stk, i < cs.length) : adds stk (M :: Ms) (bump stk cs) = adds stk ((t :: M) :: Ms) cs := by
  cases stk with
  | nil => simp [bump]
  | cons i stk =>
    rw [adds_cons, adds_cons, bump_modify i stk cs (h i List.mem_cons_self)]
    congr 1
    apply List.ext_getElem?
    intro j
    rw [mod_get, mod_get, mod_get]
    by_cases hj : i = j
    · subst hj
      cases cs[i]? with
      | none => simp
      | some c => simp; omega
    · simp [hj]
/-- what a reading to the end tells -/
def Told (r stk : List Nat) (ws : List (List Nat)) (cs : List Nat) (out : List (List Nat × Nat)) : Prop := ∃ (L : List (List Nat)) (Ls : List (List (List Nat))) (new : List (List Nat × Nat)), L ≠ [] ∧ Ls.length = stk.length ∧ r = TL.joinL [44] L ++ tl Ls ∧ okSh new ∧ sh new = L ++ Ls.flatten ∧
  out = ws.zip (adds stk (L :: Ls) cs) ++ new ∧ (stk = [] → L.length = 1) ∧ (stk ≠ [] → Ls.getLast? = some [])
def Told2 (r1 stk : List Nat) (ws : List (List Nat)) (cs : List Nat) (out : List (List Nat × Nat)) : Prop := ∃ (M : List (List Nat)) (Ms : List (List (List Nat))) (new : List (List Nat × Nat)), Ms.length = stk.length ∧ r1 = (if M = [] then [] else 44 :: TL.joinL [44] M) ++ tl Ms ∧ okSh new ∧ sh new = M ++ Ms.flatten ∧
  out = ws.zip (adds stk (M :: Ms) cs) ++ new ∧ (stk = [] → M = []) ∧ (stk ≠ [] → Ms.getLast? = some [])
theorem modify_zero (cs : List Nat) (i : Nat) : cs.modify i (· + ([] : List (List Nat)).length) = cs := by
  apply List.ext_getElem?
  intro j
  rw [mod_get]
  split <;> simp
theorem aft_told {f : Nat} (ih : ∀ (r stk : List Nat) (ws : List (List Nat)) (cs : List Nat) (p : List (List Nat) × List Nat), ws.length = cs.length → (∀ i ∈ stk, i < cs.length) → parseF f r stk ws cs = some p → Told r stk ws cs (p.1.zip p.2)) :
    ∀ (stk r1 : List Nat) (ws : List (List Nat)) (cs : List Nat) (p : List (List Nat) × List Nat), ws.length = cs.length → (∀ i ∈ stk, i < cs.length) → aft f stk r1 ws cs = some p → Told2 r1 stk ws cs (p.1.zip p.2) := by
  intro stk
  induction stk with
  | nil =>
    intro r1 ws cs p hl hs h
    unfold aft at h
    rw [closes_nil] at h
    dsimp only at h
    by_cases hr : r1 = []
    · rw [if_pos hr] at h; cases h
      exact ⟨[], [], [], rfl, by rw [hr]; rfl, trivial, rfl, by simp, fun _ => rfl, fun z => absurd rfl z⟩
    · rw [if_neg hr] at h; cases h
  | cons i stk ihs =>
    intro r1 ws cs p hl hs h
    cases r1 with
    | nil =>
      unfold aft at h
      rw [closes_no] at h
      dsimp only at h
      rw [if_neg (fun z => by simp at z)] at h; cases h
    | cons x v =>
      by_cases hx : x = 41
      · subst hx
        have ec : closes (i :: stk) (41 :: v) = closes stk v := by rw [closes_cons, if_pos rfl]
        have h' : aft f stk v ws cs = some p := by
          unfold aft at h ⊢
          rw [ec] at h
          exact h
        obtain ⟨M, Ms, new, h1, h2, h3, h4, h5, h6, h7⟩ := ihs v ws cs p hl (fun j hj => hs j (List.mem_cons_of_mem _ hj)) h'
        refine ⟨[], M :: Ms, new, by simp [h1], ?_, h3, by simpa using h4, ?_, (fun z => by cases z), fun _ => ?_⟩
        · rw [if_pos rfl, h2]; rfl
        · rw [adds_cons, modify_zero]; exact h5
        · cases stk with
          | nil =>
            have : Ms = [] := List.length_eq_zero_iff.mp (by simpa using h1)
            subst this
            rw [h6 rfl]; rfl
          | cons j stk =>
            have hne : Ms ≠ [] := fun z => by rw [z] at h1; simp at h1
            have := h7 (by simp)
            rw [List.getLast?_cons, this]; rfl
      · by_cases hy : x = 44
        · subst hy
          have ec : closes (i :: stk) (44 :: v) = (i :: stk, 44 :: v) := by rw [closes_cons, if_neg (by decide)]
          unfold aft at h
          rw [ec] at h
          dsimp only at h
          split at h
          · obtain ⟨L, Ls, new, h0, h1, h2, h3, h4, h5, h6, h7⟩ := ih v (i :: stk) ws cs p hl hs h
            exact ⟨L, Ls, new, h1, by rw [if_neg h0, h2]; rfl, h3, h4, h5, (fun z => by cases z), h7⟩
          · cases h
        · rw [aft_odd hx hy] at h; cases h
theorem told_all : ∀ (f : Nat) (r stk : List Nat) (ws : List (List Nat)) (cs : List Nat) (p : List (List Nat) × List Nat), ws.length = cs.length → (∀ i ∈ stk, i < cs.length) → parseF f r stk ws cs = some p → Told r stk ws cs (p.1.zip p.2)
  | 0 => fun r stk ws cs p _ _ h => by cases h
  | f + 1 => by
    intro r stk ws cs p hl hs h
    cases hw : wordAt r with
    | none => rw [parseF, hw] at h; cases h
    | some w =>
    rw [parseF_word hw] at h
    obtain ⟨⟨r1, hr1⟩, _⟩ := word_pre hw
    subst hr1
    rw [List.drop_left] at h
    have hbl : (bump stk cs).length = cs.length := by simp
    have hsb : ∀ i ∈ stk, i < (bump stk cs).length := fun i hi => by rw [hbl]; exact hs i hi
    have finish : ∀ (t : List Nat) (k : Nat) (M : List (List Nat)) (Ms : List (List (List Nat))) (new' : List (List Nat × Nat)) (tail : List Nat), Ms.length = stk.length → w ++ r1 = t ++ ((if M = [] then [] else 44 :: TL.joinL [44] M) ++ tl Ms) → okSh ((w, k) :: new') → sh ((w, k) :: new') = t :: (M ++ Ms.flatten) →
        p.1.zip p.2 = (ws ++ [w]).zip (adds stk (M :: Ms) (bump stk cs) ++ [k]) ++ new' → (stk = [] → M = []) → (stk ≠ [] → Ms.getLast? = some []) → Told (w ++ r1) stk ws cs (p.1.zip p.2) := by
      intro t k M Ms new' _ h1 h2 h3 h4 h5 h6 h7
      refine ⟨t :: M, Ms, (w, k) :: new', by simp, h1, ?_, h3, by rw [h4]; rfl, ?_, (fun z => by rw [h6 z]; rfl), h7⟩
      · rw [joinL_cons, h2, List.append_assoc]
      · rw [h5, ← adds_bump stk t M Ms cs hs, List.zip_append (by simp [hl])]
        simp
    split at h
    · rename_i hc
      obtain ⟨r2, hr2⟩ := take1_eq.mp hc.1
      subst hr2
      have h : parseF f r2 (ws.length :: stk) (ws ++ [w]) (bump stk cs ++ [0]) = some p := h
      obtain ⟨L, Ls, new, h0, h1, h2, h3, h4, h5, h6, h7⟩ := told_all f r2 (ws.length :: stk) (ws ++ [w]) (bump stk cs ++ [0]) p (by simp [hl]) (fun i hi => by
        rcases List.mem_cons.mp hi with rfl | hi
        · simp [hl]
        · have := hs i hi; simp; omega) h
      cases Ls with
      | nil => simp at h1
      | cons M Ms =>
        have hL : 0 < L.length := List.length_pos_iff.mpr h0
        refine finish (w ++ [40] ++ TL.joinL [44] L ++ [41]) L.length M Ms new [] (by simpa using h1) ?_ ⟨h3, by rw [h4]; simp⟩ ?_ ?_ (fun z => ?_) (fun z => ?_)
        · rw [h2]; simp [tl]
        · show node w L.length (sh new) :: (sh new).drop L.length = _
          rw [h4, List.drop_left, List.flatten_cons]
          congr 1
          unfold node
          rw [if_pos hL, List.take_left]
        · rw [h5, adds_cons]
          congr 2
          have e : (bump stk cs ++ [0]).modify ws.length (· + L.length) = bump stk cs ++ [L.length] := by
            rw [hl, ← hbl]
            apply List.ext_getElem?
            intro j
            rw [mod_get]
            rcases Nat.lt_trichotomy j (bump stk cs).length with q | q | q
            · rw [List.getElem?_append_left q, List.getElem?_append_left q, if_neg (by omega)]
            · subst q; simp
            · rw [List.getElem?_eq_none (by simp; omega), List.getElem?_eq_none (by simp; omega)]; simp
          rw [e, adds_app stk _ _ _ hsb]
        · subst z
          have : Ms = [] := List.length_eq_zero_iff.mp (by simpa using h1)
          subst this
          have := h7 (by simp)
          simpa using this
        · have hne : Ms ≠ [] := fun q => by rw [q] at h1; simp at h1; exact z h1
          have := h7 (by simp)
          obtain ⟨M2, Ms2, rfl⟩ := List.exists_cons_of_ne_nil hne
          rw [List.getLast?_cons_cons] at this
          exact this
    · obtain ⟨M, Ms, new, h1, h2, h3, h4, h5, h6, h7⟩ := aft_told (fun r stk ws cs p => told_all f r stk ws cs p) stk r1 (ws ++ [w]) (bump stk cs ++ [0]) p (by simp [hl]) (fun i hi => by have := hs i hi; simp; omega) h
      refine finish w 0 M Ms new [] h1 (by rw [h2]) ⟨h3, Nat.zero_le _⟩ ?_ ?_ h6 h7
      · show node w 0 (sh new) :: (sh new).drop 0 = _
        rw [h4]; rfl
      · rw [h5, adds_app stk _ _ _ hsb]
theorem parse_told {l : List Nat} {ws : List (List Nat)} {cs : List Nat} (h : parse l = some (ws, cs)) : okSh (ws.zip cs) ∧ sh (ws.zip cs) = [l] := by
  obtain ⟨L, Ls, new, h0, h1, h2, h3, h4, h5, h6, h7⟩ := told_all _ l [] [] [] (ws, cs) rfl (fun _ h => nomatch h) h
  have e1 : Ls = [] := List.length_eq_zero_iff.mp (by simpa using h1)
  subst e1
  obtain ⟨t, rfl⟩ : ∃ t, L = [t] := by
    have := h6 rfl
    match L, this with
    | [t], _ => exact ⟨t, rfl⟩
  have e2 : l = t := by rw [h2]; simp [TL.joinL, tl]
  have e3 : ws.zip cs = new := by simpa using h5
  rw [e3]
  exact ⟨h3, by rw [h4, e2]; rfl⟩
end K65
/-! ## Sp11 -/
set_option Elab.async false
set_option linter.all false
set_option maxRecDepth 100000
set_option maxHeartbeats 4000000
namespace K65
open PySem L2 SX Mi
variable {st : Store} {l a : List Nat} {c : Nat}
theorem parseF_bounds : ∀ (f : Nat) (r stk : List Nat) (ws : List (List Nat)) (cs : List Nat) (p : List (List Nat) × List Nat), parseF f r stk ws cs = some p → ws.length = cs.length → (∀ i ∈ stk, i < cs.length) → (∀ w ∈ ws, w.length ≤ 16) → (∀ c ∈ bump stk cs, c ≤ 4) →
    p.1.length = p.2.length ∧ p.1.length ≤ ws.length + r.length ∧ (∀ w ∈ p.1, w.length ≤ 16) ∧ ∀ c ∈ p.2, c ≤ 4
  | 0 => fun r stk ws cs p h => by cases h
  | f + 1 => by
    intro r stk ws cs p h hl hs hw16 h4
    cases hw : wordAt r with
    | none => rw [parseF, hw] at h; cases h
    | some w =>
    rw [parseF_word hw] at h
    obtain ⟨hpre, hw1, hw2, _⟩ := word_pre hw
    have hlen := hpre.length_le
    have hl1 : (ws ++ [w]).length = (bump stk cs ++ [0]).length := by simp [hl]
    have hw' : ∀ v ∈ ws ++ [w], v.length ≤ 16 := fun v hv => by
      rcases List.mem_append.mp hv with hv | hv
      · exact hw16 v hv
      · simp at hv; subst hv; exact hw2
    have h4' : ∀ c ∈ bump stk cs ++ [0], c ≤ 4 := fun c hc => by
      rcases List.mem_append.mp hc with hc | hc
      · exact h4 c hc
      · simp at hc; omega
    have hs' : ∀ i ∈ stk, i < (bump stk cs ++ [0]).length := fun i hi => by have := hs i hi; simp; omega
    split at h
    · rename_i hc
      have hb : bump (ws.length :: stk) (bump stk cs ++ [0]) = (bump stk cs ++ [0]).set ws.length 1 := by
        show (bump stk cs ++ [0]).set ws.length ((bump stk cs ++ [0])[ws.length]?.getD 0 + 1) = _
        have : (bump stk cs ++ [0])[ws.length]? = some 0 := by
          rw [hl, show cs.length = (bump stk cs).length by simp]; simp
        rw [this]; rfl
      obtain ⟨g1, g2, g3, g4⟩ := parseF_bounds f _ _ _ _ p h hl1 (fun i hi => by
        rcases List.mem_cons.mp hi with rfl | hi
        · simp [hl]
        · exact hs' i hi) hw' (fun c hc => by
        rw [hb] at hc
        rcases List.mem_or_eq_of_mem_set hc with hc | rfl
        · exact h4' c hc
        · omega)
      refine ⟨g1, ?_, g3, g4⟩
      simp at g2; omega
    · unfold aft at h
      obtain ⟨q1, q2⟩ := closes_sub stk (r.drop w.length)
      generalize closes stk (r.drop w.length) = cc at *
      obtain ⟨stk', r2⟩ := cc
      dsimp only at h q1 q2
      have hr2 := q2.length_le
      simp at hr2
      cases stk' with
      | nil =>
        dsimp only at h
        split at h
        · cases h
          exact ⟨by simpa using hl1, by simp; omega, hw', h4'⟩
        · cases h
      | cons i stk' =>
        dsimp only at h
        split at h
        · rename_i hc
          have hi := hs' i (q1.subset List.mem_cons_self)
          obtain ⟨g1, g2, g3, g4⟩ := parseF_bounds f _ _ _ _ p h hl1 (fun j hj => hs' j (q1.subset hj)) hw' (fun c hc' => by
            have e : bump (i :: stk') (bump stk cs ++ [0]) = (bump stk cs ++ [0]).set i ((bump stk cs ++ [0])[i]?.getD 0 + 1) := rfl
            rw [e] at hc'
            rcases List.mem_or_eq_of_mem_set hc' with hc' | rfl
            · exact h4' c hc'
            · obtain ⟨k, hk⟩ := getD_lt hi
              rw [hk]
              have z := h4' k (List.mem_of_getElem? hk)
              have z2 := hc.2
              rw [hk] at z2
              have : k ≠ 4 := fun e => z2 (by rw [e])
              simp; omega)
          refine ⟨g1, ?_, g3, g4⟩
          simp at g2; omega
        · cases h
theorem wt_le : ∀ (ws : List (List Nat)) (cs : List Nat), (∀ w ∈ ws, w.length ≤ 16) → (∀ c ∈ cs, c ≤ 4) → wt (ws.zip cs) ≤ 22 * ws.length
  | [], cs, _, _ => by simp [wt]
  | w :: ws, [], _, _ => by simp [wt]
  | w :: ws, c :: cs, h1, h2 => by
    have := wt_le ws cs (fun v hv => h1 v (List.mem_cons_of_mem _ hv)) (fun v hv => h2 v (List.mem_cons_of_mem _ hv))
    have q1 := h1 w List.mem_cons_self
    have q2 := h2 c List.mem_cons_self
    show w.length + c + 2 + wt (ws.zip cs) ≤ 22 * (ws.length + 1)
    omega
theorem lread_bounds {row : List (List Nat × Nat)} (h : lawRead l = some row) : okSh row ∧ sh row = [l] ∧ wt row ≤ 22 * l.length ∧ row.length ≤ l.length := by
  rw [lawRead_eq] at h
  unfold zipO at h
  obtain ⟨⟨ws, cs⟩, hp, rfl⟩ := Option.map_eq_some_iff.mp h
  obtain ⟨h1, h2⟩ := parse_told hp
  obtain ⟨g1, g2, g3, g4⟩ := parseF_bounds _ _ _ _ _ _ hp rfl (fun _ h => nomatch h) (fun _ h => nomatch h) (fun _ h => nomatch h)
  have g5 := wt_le ws cs g3 g4
  refine ⟨h1, h2, ?_, ?_⟩
  · refine Nat.le_trans g5 ?_
    simp at g2
    omega
  · simp at g2 g1 ⊢
    omega
/-- a tree's field -/
def treeD (l : List Nat) : D := lrD (lawRead l)
theorem rtree_wp (hl : l.length ≤ 900000) : wp (m_read_tree [.str (S l)] st) (fun d s => d = treeD l ∧ lawRead l ≠ none ∧ Fr [] st s) (fun c fs s => lawRead l = none ∧ c = "InvalidText" ∧ Fr [] st s) := by
  refine wp_def (show wpS (b_read_tree [some (.str (S l))] st) _ _ _ from ?_)
  refine w_ret ?_
  have := read_wp (st := st) hl
  simp only [wp_mCall, wp_mCons, wp_mVar, wp_mNil, wp_mC, List.getElem?_cons_zero]
  rcases wp_cases this with ⟨d, s, e, ws, cs, h1, rfl, fr⟩ | ⟨c, fs, s, e, h1, rfl, ⟨n, rfl⟩, fr⟩
  · rw [e]
    have e2 : lawRead l = some (ws.zip cs) := by rw [lawRead_eq, h1]; rfl
    refine ⟨?_, by rw [e2]; simp, fr⟩
    unfold treeD
    rw [e2]; rfl
  · rw [e]
    have e2 : lawRead l = none := by rw [lawRead_eq, h1]; rfl
    exact ⟨e2, rfl, fr⟩
theorem s_try {N : Mi.Env → Store → Prop} {R : D → Store → Prop} {E : Str → Fs → Mi.Env → Store → Prop} {env : Mi.Env} {cs : List Str} {hs : List MCl} {b : MS} (h : wpS (b env st) N R fun c fs env' st' => c ∈ cs ∧ wpS (kHand hs c fs env' st') N R E) : wpS (kTry cs hs b env st) N R E := by
  unfold kTry
  cases e : b env st with
  | ex c fs env' st' =>
    rw [e] at h
    dsimp only
    rw [if_pos h.1]; exact h.2
  | no => rw [e] at h; exact h
  | nx _ _ => rw [e] at h; exact h
  | bk _ _ => rw [e] at h; exact h
  | ct _ _ => rw [e] at h; exact h
  | rt _ _ => rw [e] at h; exact h
theorem tree_in_eq (hl : l.length ≤ 900000) : ∃ st', m_tree_in [.str (S l)] st = .ok (treeD l) st' ∧ Fr [] st st' := by
  have key : wp (m_tree_in [.str (S l)] st) (fun d s => d = treeD l ∧ Fr [] st s) fun _ _ _ => False := by
    refine wp_def (show wpS (b_tree_in [some (.str (S l))] st) _ _ _ from ?_)
    refine s_try (w_ret ?_)
    simp only [wp_mCall, wp_mCons, wp_mVar, wp_mNil, List.getElem?_cons_zero]
    rcases wp_cases (rtree_wp (st := st) hl) with ⟨d, s, e, rfl, _, fr⟩ | ⟨c, fs, s, e, h1, rfl, fr⟩
    · rw [e]; exact ⟨rfl, fr⟩
    · rw [e]
      refine ⟨by decide +kernel, ?_⟩
      unfold kHand
      rw [if_pos rfl, if_pos (show okN none _ = true from rfl)]
      refine ⟨?_, fr⟩
      unfold treeD; rw [h1]; rfl
  obtain ⟨d, s, e, rfl, fr⟩ := wp_get key
  exact ⟨s, e, fr⟩
/-! numbers -/
def Asc (w : List Nat) : Prop := ∀ c ∈ w, c < 128
theorem dig_ascii : ∀ c : Nat, c < 128 → Unicode.isDigit c = decide (c ∈ DIG) := by decide +kernel
def numD (w : List Nat) : D := if figs w = true then .int ((NumText.digitsVal w : Nat) : Int) else .non
theorem isdigit_S {w : List Nat} (h : Asc w) : Txt.isdigit (S w) = (decide (0 < w.length) && w.all fun c => decide (c ∈ DIG)) := by
  unfold Txt.isdigit
  have e : (S w).cps.all Unicode.isDigit = w.all fun c => decide (c ∈ DIG) := by
    show w.toArray.all Unicode.isDigit = _
    rw [List.all_toArray]
    rw [Bool.eq_iff_iff, List.all_eq_true, List.all_eq_true]
    constructor
    · intro q c hc; rw [← dig_ascii c (h c hc)]; exact q c hc
    · intro q c hc; rw [dig_ascii c (h c hc)]; exact q c hc
  rw [e, S_len]
theorem figs_int {w : List Nat} (h : figs w = true) : intText? (S w) = some ((NumText.digitsVal w : Nat) : Int) ∧ w.length ≤ 60 ∧ 1 ≤ w.length ∧ (∀ c ∈ w, c ∈ DIG) ∧ (w.head? = some 48 → w.length ≤ 1) := by
  unfold figs at h
  simp only [Bool.and_eq_true, decide_eq_true_eq, Bool.not_eq_true', List.all_eq_true] at h
  obtain ⟨⟨⟨h1, h2⟩, h3⟩, h4⟩ := h
  refine ⟨int_S ?_ (List.ne_nil_of_length_pos h1) (by omega), h2, h1, h4, fun hh => ?_⟩
  · rw [List.all_eq_true]
    intro c hc
    have := h4 c hc
    unfold DIG at this
    simp at this ⊢
    omega
  · rw [hh] at h3
    simp at h3
    omega
theorem fint_eq {w : List Nat} (h : figs w = true) : fInt [.str (S w)] st = .ok (numD w) st := by
  obtain ⟨h1, h2, _⟩ := figs_int h
  unfold fInt numD
  simp only [h1]
  rw [if_pos (by rw [S_len]; omega), if_pos h]
theorem number_eq {w : List Nat} (ha : Asc w) (hw : w.length ≤ 900000) : m_number_in [.str (S w)] st = .ok (numD w) st := by
  refine wp_ok_eq (wp_def (show wpS (b_number_in [some (.str (S w))] st) _ _ _ from ?_))
  have ed : fIsdigit (.str (S w)) [] st = .ok (.bl (decide (0 < w.length) && w.all fun c => decide (c ∈ DIG))) st := by
    show Out.ok (D.bl (Txt.isdigit (S w))) st = _
    rw [isdigit_S ha]
  generalize hq : (w.all fun c => decide (c ∈ DIG)) = q at ed
  refine s_seq (s_if (b := !(decide (0 < w.length) && q) || decide (60 < w.length)) (st' := st) (fun K E k => ?_) (fun hb => ?_) fun hb => s_skip ?_)
  · have e60 : decide ((60 : Int) < (w.length : Int)) = decide (60 < w.length) := by
      by_cases q : 60 < w.length
      · rw [decide_eq_true q, decide_eq_true (by omega)]
      · rw [decide_eq_false q, decide_eq_false (by omega)]
    simp only [wp_mOrT, wp_mNotT, wp_mTru, wp_mM0, wp_mRecv, wp_mVar, List.getElem?_cons_zero, rec_s, if_true, ed, wp_ok, wp_tru, tru_b]
    cases hz : (decide (0 < w.length) && q)
    · rw [hz] at k; simp at k ⊢; exact k
    · rw [hz] at k; simp [show w.length ≤ 1000000 by omega, e60] at k ⊢; exact k
  · refine s_ret (v := .non) (st' := st) (fun K E k => by simp; exact k) ⟨?_, rfl⟩
    unfold numD
    rw [if_neg]
    intro hf
    obtain ⟨_, h2, h3, h4, _⟩ := figs_int hf
    have : q = true := by rw [← hq, List.all_eq_true]; intro c hc; simpa using h4 c hc
    rw [this, decide_eq_true (show 0 < w.length by omega), decide_eq_false (show ¬ 60 < w.length by omega)] at hb
    simp at hb
  · simp at hb
    obtain ⟨⟨h1, rfl⟩, h2⟩ := hb
    have hall : ∀ c ∈ w, c ∈ DIG := fun c hc => by
      have := List.all_eq_true.mp hq c hc
      exact of_decide_eq_true this
    cases w with
    | nil => simp at h1
    | cons c w =>
      have h0 : atI (c :: w) 0 = some c := atI_k (k := 0)
      have hw' : w.length + 1 ≤ 1000000 := by simp at hw; omega
      refine s_seq (s_if (b := decide (c = 48) && !decide (c :: w = [48])) (st' := st) (fun K E k => ?_) (fun hb => ?_) fun hb => s_skip ?_)
      · by_cases hc : c = 48
        · subst hc; simp [h0, hw'] at k ⊢; exact k
        · simp [h0, hc, hw'] at k ⊢; exact k
      · refine s_ret (v := .non) (st' := st) (fun K E k => by simp; exact k) ⟨?_, rfl⟩
        unfold numD
        rw [if_neg]
        intro hf
        obtain ⟨_, _, _, _, h5⟩ := figs_int hf
        simp at hb
        obtain ⟨rfl, hne⟩ := hb
        have := h5 rfl
        simp at this
        rcases hne with z | z
        · exact z rfl
        · exact z this
      · have hf : figs (c :: w) = true := by
          unfold figs
          simp only [Bool.and_eq_true, decide_eq_true_eq, Bool.not_eq_true', List.all_eq_true]
          refine ⟨⟨⟨by simp, h2⟩, ?_⟩, fun d hd => hall d hd⟩
          by_cases hc : c = 48
          · subst hc
            simp at hb
            subst hb
            rfl
          · simp [hc]
        exact s_ret (v := numD (c :: w)) (st' := st) (fun K E k => by simp [fint_eq hf]; exact k) ⟨rfl, rfl⟩
end K65
/-! ## Sp12 -/
set_option Elab.async false
set_option linter.all false
set_option maxRecDepth 100000
set_option maxHeartbeats 4000000
namespace K65
open PySem L2 SX Mi
variable {st : Store} {l a : List Nat} {c : Nat}
def sortW (b : Bool) : List Nat := if b then [110, 117, 109, 98, 101, 114] else [116, 114, 101, 101]
def sortsD (ks : List Bool) : List D := ks.map fun b => .str (S (sortW b))
def entD (b : Bool) (w : List Nat) : D := if b = true then numD w else treeD w
def ents : List Bool → List (List Nat) → Nat → Nat ⊕ List D
  | [], [], _ => .inr []
  | [], _ :: _, k => .inl k
  | _ :: _, [], k => .inl k
  | b :: bs, w :: ws, k => if isN (entD b w) = true then .inl k else match ents bs ws (k + 1) with
    | .inl j => .inl j
    | .inr ds => .inr (entD b w :: ds)
def pre (es : List D) : Nat ⊕ List D → Nat ⊕ List D
  | .inl j => .inl j
  | .inr ds => .inr (es ++ ds)
def Good (fs : List (List Nat)) : Prop := ∀ f ∈ fs, Asc f ∧ f.length ≤ 100000
theorem ix_fs {s : Store} {F k : Nat} {fs : List (List Nat)} {f : List Nat} (h : s[F]? = some (.lst (sL fs))) (hk : fs[k]? = some f) : fIx (.ref F) (.int (k : Nat)) s = .ok (.str (S f)) s := by
  unfold fIx
  simp only [items_l h, atI_k, sL_get, hk]
  rfl
theorem ent_eq {b : Bool} {f : List Nat} (ha : Asc f) (hf : f.length ≤ 100000) : ∃ st', (if b = true then m_number_in [.str (S f)] st else m_tree_in [.str (S f)] st) = .ok (entD b f) st' ∧ Fr [] st st' := by
  cases b
  · obtain ⟨s, e, fr⟩ := tree_in_eq (st := st) (l := f) (by omega)
    exact ⟨s, e, fr⟩
  · exact ⟨st, number_eq ha (by omega), Fr.refl⟩
theorem sort_ne (b : Bool) : decide (sortW b = [116, 114, 101, 101]) = !b := by cases b <;> rfl
def entsQ (ks : List Bool) (rest : List (List Nat)) (st : Store) (d : D) (s : Store) : Prop := ∃ ds, ents ks rest 1 = .inr ds ∧ d = .tup ds ∧ Fr [] st s
def entsE (ks : List Bool) (rest : List (List Nat)) (line : D) (st : Store) (c : Str) (fs : Fs) (s : Store) : Prop := ∃ j : Nat, ents ks rest 1 = .inl j ∧ c = "InvalidText" ∧ fs = eIT line (.int (j : Nat)) ∧ Fr [] st s
theorem entries_wp {F : Nat} {f0 : List Nat} {rest : List (List Nat)} {ks : List Bool} {line : D} (hF : st[F]? = some (.lst (sL (f0 :: rest)))) (hg : Good (f0 :: rest)) (hks : ks.length ≤ 10) :
    wp (m_entries_in [.ref F, .tup (sortsD ks), line] st) (entsQ ks rest st) (entsE ks rest line st) := by
  refine wp_def (show wpS (b_entries_in [some (.ref F), some (.tup (sortsD ks)), some line, none, none, none, none, none] st) _ _ _ from ?_)
  refine s_seq (s_set (v := .ref st.length) (st' := st ++ [.lst []]) (fun K E k => by simp; exact k) ?_)
  have hFl := (List.getElem?_eq_some_iff.mp hF).1
  have hlen : (sortsD ks).length = ks.length := List.length_map ..
  refine s_seq ?_
  refine s_for (src := sEnumT (sortsD ks)) (st' := st ++ [.lst []]) ((sortsD ks).zipIdx.map fun p => D.tup [.int (p.2 : Nat), p.1]) (fun k env s => ∃ (es : List D) (x4 x5 x6 x7 : Option D), env = [some (.ref F), some (.tup (sortsD ks)), some line, some (.ref st.length), x4, x5, x6, x7] ∧ s[st.length]? = some (.lst es) ∧ es.length = k ∧
    ents ks rest 1 = pre es (ents (ks.drop k) (rest.drop k) (k + 1)) ∧ k ≤ rest.length ∧ Fr [] st s)
    (fun K E k => by simp [iEnumA, fEnumA]; exact k) (by simp [sEnumT]) ⟨[], none, none, none, none, rfl, app_new, rfl, ?_, Nat.zero_le _, Fr.refl.app⟩ ?_ ?_ ?_
  · rw [List.drop_zero, List.drop_zero]
    cases ents ks rest 1 <;> rfl
  · intro i env s _
    show some ((sortsD ks)[i]?.map fun d => D.tup [.int (i : Nat), d]) = _
    congr 1
    rw [List.getElem?_map, List.getElem?_zipIdx]
    cases (sortsD ks)[i]? with
    | none => rfl
    | some d => simp
  · rintro k d env s hd ⟨es, x4, x5, x6, x7, rfl, hs, hek, hents, hkr, fr⟩
    rw [List.getElem?_map, List.getElem?_zipIdx] at hd
    unfold sortsD at hd
    rw [List.getElem?_map] at hd
    have hkl : k < ks.length := by
      cases q : ks[k]? with
      | none => rw [q] at hd; cases hd
      | some b => exact (List.getElem?_eq_some_iff.mp q).1
    rw [List.getElem?_eq_getElem hkl] at hd
    simp at hd
    subst hd
    have edk : ks.drop k = ks[k] :: ks.drop (k + 1) := List.drop_eq_getElem_cons hkl
    generalize ks[k] = b at *
    have hFs := fr.get hF (by simp)
    refine ⟨_, rfl, ?_⟩
    refine s_seq (s_set (v := .int ((k + 1 : Nat) : Int)) (st' := s) (fun K E kk => by simp; exact kk) ?_)
    have eL : fLen [.ref F] s = .ok (.int ((rest.length + 1 : Nat) : Int)) s := by rw [lenL hFs]; simp
    refine s_seq (s_if (b := decide (k = rest.length)) (st' := s) (fun K E kk => ?_) (fun hb => ?_) fun hb => s_skip ?_)
    · have : decide ((k : Int) = (rest.length : Int)) = decide (k = rest.length) := by
        by_cases q : k = rest.length
        · rw [decide_eq_true q, decide_eq_true (by omega)]
        · rw [decide_eq_false q, decide_eq_false (by omega)]
      simp [eL]
      rw [this]
      exact kk
    · have hb := of_decide_eq_true hb
      refine s_raise (d1 := line) (d2 := .int ((k + 1 : Nat) : Int)) (st' := s) (fun K E kk => by simp at kk ⊢; exact kk) ⟨k + 1, ?_, rfl, rfl, fr⟩
      rw [hents, edk, hb, List.drop_length]; rfl
    have hlt : k < rest.length := by
      have := of_decide_eq_false hb
      omega
    have hf : (f0 :: rest)[k + 1]? = some rest[k] := by simp [hlt]
    have edr : rest.drop k = rest[k] :: rest.drop (k + 1) := List.drop_eq_getElem_cons hlt
    obtain ⟨ha, hfl⟩ := hg rest[k] (List.mem_of_getElem? hf)
    have ei := ix_fs hFs hf
    generalize rest[k] = f at *
    obtain ⟨s1, e1, fr1⟩ := ent_eq (st := s) (b := b) ha hfl
    refine s_seq (s_set (v := entD b f) (st' := s1) (fun K E kk => ?_) ?_)
    · have ei' : fIx (.ref F) (.int ((k : Int) + 1)) s = .ok (.str (S f)) s := by
        have : ((k : Int) + 1) = ((k + 1 : Nat) : Int) := by omega
        rw [this]; exact ei
      have q := sort_ne b
      simp [q, ei']
      cases b
      · simp at e1 ⊢; rw [e1]; exact kk
      · simp at e1 ⊢; rw [e1]; exact kk
    have hs1 := fr1.get hs (by simp)
    have fr01 := fr.trans fr1
    have eents : ents (ks.drop k) (rest.drop k) (k + 1) = if isN (entD b f) = true then .inl (k + 1) else match ents (ks.drop (k + 1)) (rest.drop (k + 1)) (k + 1 + 1) with
        | .inl j => .inl j
        | .inr ds => .inr (entD b f :: ds) := by
      rw [edk, edr, ents]
    refine s_seq (s_if (b := isN (entD b f)) (st' := s1) (fun K E kk => by simp; exact kk) (fun hb => ?_) fun hb => s_skip ?_)
    · refine s_raise (d1 := line) (d2 := .int ((k + 1 : Nat) : Int)) (st' := s1) (fun K E kk => by simp at kk ⊢; exact kk) ⟨k + 1, ?_, rfl, rfl, fr01⟩
      rw [hents, eents, if_pos hb]; rfl
    · have ea := f_append (y := entD b f) hs1 (show es.length < 1000000 by omega)
      refine s_expr (v := .non) (st' := s1.set st.length (.lst (es ++ [entD b f]))) (fun K E kk => by simp [rec_l hs1, ea]; exact kk) ⟨es ++ [entD b f], _, _, _, _, rfl, set_at hs1, by simp [hek], ?_, by omega, fr01.set (.inl (Nat.le_refl _))⟩
      rw [hents, eents, if_neg (by rw [hb]; simp)]
      cases ents (ks.drop (k + 1)) (rest.drop (k + 1)) (k + 1 + 1) with
      | inl j => rfl
      | inr ds => show Sum.inr _ = Sum.inr _; congr 1; simp
  · rintro env s ⟨es, x4, x5, x6, x7, rfl, hs, hek, hents, hkr, fr⟩
    have hz : ((sortsD ks).zipIdx.map fun p => D.tup [.int (p.2 : Nat), p.1]).length = ks.length := by simp [hlen]
    rw [hz] at hek hents hkr
    rw [List.drop_length] at hents
    have hFs := fr.get hF (by simp)
    have eL : fLen [.ref F] s = .ok (.int ((rest.length + 1 : Nat) : Int)) s := by rw [lenL hFs]; simp
    refine s_seq (s_if (b := decide (ks.length < rest.length)) (st' := s) (fun K E kk => ?_) (fun hb => ?_) fun hb => s_skip ?_)
    · have : decide ((ks.length : Int) + 1 < (rest.length : Int) + 1) = decide (ks.length < rest.length) := by
        by_cases q : ks.length < rest.length
        · rw [decide_eq_true q, decide_eq_true (by omega)]
        · rw [decide_eq_false q, decide_eq_false (by omega)]
      simp [eL, hlen, this]
      simpa using kk
    · have hb := of_decide_eq_true hb
      refine s_raise (d1 := line) (d2 := .int ((ks.length + 1 : Nat) : Int)) (st' := s) (fun K E kk => by simp [hlen] at kk ⊢; exact kk) ⟨ks.length + 1, ?_, rfl, rfl, fr⟩
      rw [hents, List.drop_eq_getElem_cons hb]; rfl
    · have hb := of_decide_eq_false hb
      have e : rest.length = ks.length := by omega
      rw [← e, List.drop_length] at hents
      have et : fTuple [.ref st.length] s = .ok (.tup es) s := by unfold fTuple; simp only [items_l hs]
      refine s_ret (v := .tup es) (st' := s) (fun K E kk => by simp [et]; exact kk) ⟨es, ?_, rfl, fr⟩
      rw [hents]
      show Sum.inr (es ++ []) = _
      rw [List.append_nil]
end K65
/-! ## Sp13 -/
set_option Elab.async false
set_option linter.all false
set_option maxRecDepth 100000
set_option maxHeartbeats 4000000
namespace K65
open PySem L2 SX Mi
variable {st : Store} {l a : List Nat} {c : Nat}
abbrev wGiven : List Nat := [103, 105, 118, 101, 110]
abbrev wPut : List Nat := [112, 117, 116]
abbrev wDown : List Nat := [100, 111, 119, 110]
abbrev wRoot : List Nat := [114, 111, 111, 116]
abbrev wUp : List Nat := [117, 112]
def k5 : List Bool := [true, true, true, true, true]
def lineC : List (List Nat) → Nat ⊕ D
  | [] => .inl 0
  | f0 :: rest => if f0 = wGiven then (match ents [false] rest 1 with
      | .inl j => .inl j
      | .inr ds => .inr (.tup (.str (S wGiven) :: ds)))
    else if f0 = wPut then (match ents k5 rest 1 with
      | .inl j => .inl j
      | .inr ds => .inr (.tup (.str (S wPut) :: ds)))
    else .inl 0
def lineJ : List (List Nat) → Nat ⊕ D
  | [] => .inl 0
  | f0 :: rest => if f0 = wDown then (match ents [true, false, false] rest 1 with
      | .inl j => .inl j
      | .inr ds => .inr (.tup [.str (S f0), ds.getD 1 .non, ds.getD 2 .non, ds.getD 0 .non]))
    else if f0 = wRoot ∨ f0 = wUp then (match ents [false, false] rest 1 with
      | .inl j => .inl j
      | .inr ds => .inr (.tup [.str (S f0), ds.getD 0 .non, ds.getD 1 .non, .int 0]))
    else .inl 0
theorem ents_len : ∀ (ks : List Bool) (fs : List (List Nat)) (k : Nat) (ds : List D), ents ks fs k = .inr ds → ds.length = ks.length
  | [], [], k, ds, h => by cases h; rfl
  | [], _ :: _, k, ds, h => by cases h
  | _ :: _, [], k, ds, h => by cases h
  | b :: ks, w :: fs, k, ds, h => by
    rw [ents] at h
    split at h
    · cases h
    · split at h
      · cases h
      · rename_i ds' e
        cases h
        simp [ents_len ks fs (k + 1) ds' e]
def entQ (sp : Nat ⊕ D) (st : Store) (d : D) (s : Store) : Prop := sp = .inr d ∧ Fr [] st s
def entE (sp : Nat ⊕ D) (line : D) (st : Store) (c : Str) (fs : Fs) (s : Store) : Prop := ∃ j : Nat, sp = .inl j ∧ c = "InvalidText" ∧ fs = eIT line (.int (j : Nat)) ∧ Fr [] st s
theorem ix0 {F : Nat} {f0 : List Nat} {rest : List (List Nat)} (hF : st[F]? = some (.lst (sL (f0 :: rest)))) : fIx (.ref F) (.int 0) st = .ok (.str (S f0)) st := ix_fs (k := 0) hF rfl
theorem centry_wp {F : Nat} {f0 : List Nat} {rest : List (List Nat)} {line : D} (hF : st[F]? = some (.lst (sL (f0 :: rest)))) (hg : Good (f0 :: rest)) : wp (m_chain_entry [.ref F, line] st) (entQ (lineC (f0 :: rest)) st) (entE (lineC (f0 :: rest)) line st) := by
  refine wp_def (show wpS (b_chain_entry [some (.ref F), some line] st) _ _ _ from ?_)
  have e0 := ix0 hF
  refine s_seq (s_if (b := decide (f0 = wGiven)) (st' := st) (fun K E k => by simp [e0]; exact k) (fun hb => ?_) fun hb => s_skip ?_)
  · have hb := of_decide_eq_true hb
    have := entries_wp (ks := [false]) (line := line) hF hg (by decide)
    refine w_ret ?_
    simp only [wp_mBin, wp_mTup, wp_mCons, wp_mC, wp_mNil, lit_14, lit_65, List.length_cons, List.length_nil, wp_mCall, wp_mVar, List.getElem?_cons_zero, List.getElem?_cons_succ]
    simp only [show (0 + 1 ≤ 1000000) = True from by simp, if_true]
    rcases wp_cases this with ⟨d, s, e, ds, h1, rfl, fr⟩ | ⟨c, fs, s, e, j, h1, rfl, rfl, fr⟩
    · have e : m_entries_in [D.ref F, D.tup [D.str (S [116, 114, 101, 101])], line] st = .ok (.tup ds) s := e
      rw [e]
      have hdl := ents_len _ _ _ _ h1
      simp only [wp_ok, f_add_t, List.length_cons, List.length_nil]
      rw [if_pos (by rw [hdl]; decide)]
      refine ⟨?_, fr⟩
      show (if f0 = wGiven then _ else _) = _
      rw [if_pos hb, h1]; rfl
    · have e : m_entries_in [D.ref F, D.tup [D.str (S [116, 114, 101, 101])], line] st = .ex _ _ s := e
      rw [e]
      refine ⟨j, ?_, rfl, rfl, fr⟩
      show (if f0 = wGiven then _ else _) = _
      rw [if_pos hb, h1]
  have hb1 := of_decide_eq_false hb
  refine s_seq (s_if (b := decide (f0 = wPut)) (st' := st) (fun K E k => by simp [e0]; exact k) (fun hb => ?_) fun hb => s_skip ?_)
  · have hb := of_decide_eq_true hb
    have := entries_wp (ks := k5) (line := line) hF hg (by decide)
    refine w_ret ?_
    simp only [wp_mBin, wp_mTup, wp_mCons, wp_mC, wp_mNil, lit_10, lit_15, d_PUT_SORTS, List.length_cons, List.length_nil, wp_mCall, wp_mVar, List.getElem?_cons_zero, List.getElem?_cons_succ]
    simp only [show (0 + 1 ≤ 1000000) = True from by simp, if_true]
    rcases wp_cases this with ⟨d, s, e, ds, h1, rfl, fr⟩ | ⟨c, fs, s, e, j, h1, rfl, rfl, fr⟩
    · have e : m_entries_in [D.ref F, D.tup [D.str (S [110, 117, 109, 98, 101, 114]), D.str (S [110, 117, 109, 98, 101, 114]), D.str (S [110, 117, 109, 98, 101, 114]), D.str (S [110, 117, 109, 98, 101, 114]), D.str (S [110, 117, 109, 98, 101, 114])], line] st = .ok (.tup ds) s := e
      rw [e]
      have hdl := ents_len _ _ _ _ h1
      simp only [wp_ok, f_add_t, List.length_cons, List.length_nil]
      rw [if_pos (by rw [hdl]; decide)]
      refine ⟨?_, fr⟩
      show (if f0 = wGiven then _ else if f0 = wPut then _ else _) = _
      rw [if_neg hb1, if_pos hb, h1]; rfl
    · have e : m_entries_in [D.ref F, D.tup [D.str (S [110, 117, 109, 98, 101, 114]), D.str (S [110, 117, 109, 98, 101, 114]), D.str (S [110, 117, 109, 98, 101, 114]), D.str (S [110, 117, 109, 98, 101, 114]), D.str (S [110, 117, 109, 98, 101, 114])], line] st = .ex _ _ s := e
      rw [e]
      refine ⟨j, ?_, rfl, rfl, fr⟩
      show (if f0 = wGiven then _ else if f0 = wPut then _ else _) = _
      rw [if_neg hb1, if_pos hb, h1]
  have hb2 := of_decide_eq_false hb
  refine s_raise (d1 := line) (d2 := .int 0) (st' := st) (fun K E k => by simp; exact k) ⟨0, ?_, rfl, rfl, Fr.refl⟩
  show (if f0 = wGiven then _ else if f0 = wPut then _ else _) = _
  rw [if_neg hb1, if_neg hb2]
theorem jentry_wp {F : Nat} {f0 : List Nat} {rest : List (List Nat)} {line : D} (hF : st[F]? = some (.lst (sL (f0 :: rest)))) (hg : Good (f0 :: rest)) : wp (m_join_entry [.ref F, line] st) (entQ (lineJ (f0 :: rest)) st) (entE (lineJ (f0 :: rest)) line st) := by
  refine wp_def (show wpS (b_join_entry [some (.ref F), some line, none, none, none, none] st) _ _ _ from ?_)
  have e0 := ix0 hF
  refine s_seq (s_set (v := .str (S f0)) (st' := st) (fun K E k => by simp [e0]; exact k) ?_)
  refine s_seq (s_if (b := decide (f0 = wDown)) (st' := st) (fun K E k => by simp; exact k) (fun hb => ?_) fun hb => s_skip ?_)
  · have hb := of_decide_eq_true hb
    have := entries_wp (ks := [true, false, false]) (line := line) hF hg (by decide)
    refine s_seq ?_
    refine w_asg ?_
    simp only [wp_mTup, wp_mCons, wp_mC, wp_mNil, lit_10, lit_65, List.length_cons, List.length_nil, wp_mCall, wp_mVar, List.set_cons_succ, List.set_cons_zero, List.getElem?_cons_zero, List.getElem?_cons_succ]
    simp only [show (0 + 1 + 1 + 1 ≤ 1000000) = True from by simp, if_true]
    rcases wp_cases this with ⟨d, s, e, ds, h1, rfl, fr⟩ | ⟨c, fs, s, e, j, h1, rfl, rfl, fr⟩
    · have e : m_entries_in [D.ref F, D.tup [D.str (S [110, 117, 109, 98, 101, 114]), D.str (S [116, 114, 101, 101]), D.str (S [116, 114, 101, 101])], line] st = .ok (.tup ds) s := e
      rw [e]
      have hdl := ents_len _ _ _ _ h1
      match ds, hdl with
      | [p, t, o], _ =>
        refine ⟨_, rfl, ?_⟩
        refine s_ret (v := .tup [.str (S f0), t, o, p]) (st' := s) (fun K E k => by simp; exact k) ⟨?_, fr⟩
        show (if f0 = wDown then _ else _) = _
        rw [if_pos hb, h1]; rfl
    · have e : m_entries_in [D.ref F, D.tup [D.str (S [110, 117, 109, 98, 101, 114]), D.str (S [116, 114, 101, 101]), D.str (S [116, 114, 101, 101])], line] st = .ex _ _ s := e
      rw [e]
      refine ⟨j, ?_, rfl, rfl, fr⟩
      show (if f0 = wDown then _ else _) = _
      rw [if_pos hb, h1]
  have hb1 := of_decide_eq_false hb
  refine s_seq (s_if (b := decide (f0 = wRoot ∨ f0 = wUp)) (st' := st) (fun K E k => by by_cases h : f0 = wRoot <;> simp [h] at k ⊢ <;> exact k) (fun hb => ?_) fun hb => s_skip ?_)
  · have hb := of_decide_eq_true hb
    have := entries_wp (ks := [false, false]) (line := line) hF hg (by decide)
    refine s_seq ?_
    refine w_asg ?_
    simp only [wp_mTup, wp_mCons, wp_mC, wp_mNil, lit_10, lit_65, List.length_cons, List.length_nil, wp_mCall, wp_mVar, List.set_cons_succ, List.set_cons_zero, List.getElem?_cons_zero, List.getElem?_cons_succ]
    simp only [show (0 + 1 + 1 ≤ 1000000) = True from by simp, if_true]
    rcases wp_cases this with ⟨d, s, e, ds, h1, rfl, fr⟩ | ⟨c, fs, s, e, j, h1, rfl, rfl, fr⟩
    · have e : m_entries_in [D.ref F, D.tup [D.str (S [116, 114, 101, 101]), D.str (S [116, 114, 101, 101])], line] st = .ok (.tup ds) s := e
      rw [e]
      have hdl := ents_len _ _ _ _ h1
      match ds, hdl with
      | [t, o], _ =>
        refine ⟨_, rfl, ?_⟩
        refine s_ret (v := .tup [.str (S f0), t, o, .int 0]) (st' := s) (fun K E k => by simp; exact k) ⟨?_, fr⟩
        show (if f0 = wDown then _ else if f0 = wRoot ∨ f0 = wUp then _ else _) = _
        rw [if_neg hb1, if_pos hb, h1]; rfl
    · have e : m_entries_in [D.ref F, D.tup [D.str (S [116, 114, 101, 101]), D.str (S [116, 114, 101, 101])], line] st = .ex _ _ s := e
      rw [e]
      refine ⟨j, ?_, rfl, rfl, fr⟩
      show (if f0 = wDown then _ else if f0 = wRoot ∨ f0 = wUp then _ else _) = _
      rw [if_neg hb1, if_pos hb, h1]
  have hb2 := of_decide_eq_false hb
  refine s_raise (d1 := line) (d2 := .int 0) (st' := st) (fun K E k => by simp; exact k) ⟨0, ?_, rfl, rfl, Fr.refl⟩
  show (if f0 = wDown then _ else if f0 = wRoot ∨ f0 = wUp then _ else _) = _
  rw [if_neg hb1, if_neg hb2]
end K65
/-! ## Sp14 -/
set_option Elab.async false
set_option linter.all false
set_option maxRecDepth 100000
set_option maxHeartbeats 4000000
namespace K65
open PySem L2 SX Mi
variable {st : Store} {l a : List Nat} {c : Nat}
def spl1 (c : Nat) (l : List Nat) : List (List Nat) := TL.spl [c] 0 [] l
theorem split_ok (hc : c < 256) (hl : l.length ≤ 1000000) : fSplit (.str (S l)) [.str (S [c])] st = .ok (.ref st.length) (st ++ [.lst (sL (spl1 c l))]) := by
  unfold fSplit
  dsimp only
  rw [if_pos ⟨by rw [S_len]; rfl, by rw [S_len]; exact hl⟩, split_S (by simp) (by simp [hc])]
  unfold sL spl1
  rw [List.map_map]; rfl
theorem spl_gen (c : Nat) : ∀ (l acc : List Nat), TL.spl [c] 0 acc l ≠ []
  | [], acc => by rw [TL.spl_nil]; simp
  | d :: l, acc => by
    cases h : TL.pre [c] (d :: l) with
    | true => rw [TL.spl_hit h]; simp
    | false => rw [TL.spl_miss h]; exact spl_gen c l _
theorem spl1_ne (c : Nat) (l : List Nat) : spl1 c l ≠ [] := spl_gen c l []
theorem spl1_join (hc : c < 256) (l : List Nat) : TL.joinL [c] (spl1 c l) = l := by
  have h := StrLaws.join_split (S l) (S [c])
  rw [split_S (by simp) (by simp [hc])] at h
  have e : Str.join (S [c]) ((spl1 c l).map S) = S (TL.joinL [c] (spl1 c l)) := by
    rw [← join_S]; unfold Txt.join; rw [StrLaws.glued_eq_join]
  exact S_inj (e.symm.trans h)
theorem joinL_sub (c : Nat) : ∀ (ps : List (List Nat)) (p : List Nat), p ∈ ps → (∀ d ∈ p, d ∈ TL.joinL [c] ps) ∧ p.length ≤ (TL.joinL [c] ps).length
  | [], p, h => by cases h
  | [q], p, h => by simp at h; subst h; exact ⟨fun d hd => hd, Nat.le_refl _⟩
  | q :: r :: ps, p, h => by
    have e : TL.joinL [c] (q :: r :: ps) = q ++ ([c] ++ TL.joinL [c] (r :: ps)) := rfl
    rw [e]
    rcases List.mem_cons.mp h with rfl | h
    · exact ⟨fun d hd => List.mem_append_left _ hd, by simp⟩
    · obtain ⟨h1, h2⟩ := joinL_sub c (r :: ps) p h
      exact ⟨fun d hd => List.mem_append_right _ (List.mem_append_right _ (h1 d hd)), by simp; omega⟩
theorem joinL_cnt (c : Nat) : ∀ (ps : List (List Nat)), ps.length ≤ (TL.joinL [c] ps).length + 1
  | [] => by simp
  | [q] => by simp
  | q :: r :: ps => by
    have e : TL.joinL [c] (q :: r :: ps) = q ++ ([c] ++ TL.joinL [c] (r :: ps)) := rfl
    have := joinL_cnt c (r :: ps)
    rw [e]; simp at this ⊢; omega
theorem spl1_sub (hc : c < 256) {p : List Nat} (h : p ∈ spl1 c l) : (∀ d ∈ p, d ∈ l) ∧ p.length ≤ l.length := by
  have := joinL_sub c (spl1 c l) p h
  rw [spl1_join hc] at this
  exact this
theorem spl1_cnt (hc : c < 256) (l : List Nat) : (spl1 c l).length ≤ l.length + 1 := by
  have := joinL_cnt c (spl1 c l)
  rw [spl1_join hc] at this
  exact this
theorem good_fields {l : List Nat} (ha : Asc l) (hl : l.length ≤ 100000) : Good (spl1 32 l) := fun f hf => by
  obtain ⟨h1, h2⟩ := spl1_sub (by decide) hf
  exact ⟨fun c hc => ha c (h1 c hc), by omega⟩
def linesOf (l : List Nat) : List (List Nat) := if l = [] then [] else spl1 10 l
theorem lines_eq (hl : l.length ≤ 900000) : m_lines_of [.str (S l)] st = .ok (.ref st.length) (st ++ [.lst (sL (linesOf l))]) := by
  refine wp_ok_eq (wp_def (show wpS (b_lines_of [some (.str (S l))] st) _ _ _ from ?_))
  refine s_seq (s_if (b := decide (l = [])) (st' := st) (fun K E k => by simp; exact k) (fun hb => ?_) fun hb => s_skip ?_)
  · have hb := of_decide_eq_true hb
    refine s_ret (v := .ref st.length) (st' := st ++ [.lst []]) (fun K E k => by simp; exact k) ⟨rfl, ?_⟩
    unfold linesOf; rw [if_pos hb]; rfl
  · have hb := of_decide_eq_false hb
    refine s_ret (v := .ref st.length) (st' := st ++ [.lst (sL (spl1 10 l))]) (fun K E k => by simp [split_ok (st := st) (show (10 : Nat) < 256 by decide) (show l.length ≤ 1000000 by omega)]; exact k) ⟨rfl, ?_⟩
    unfold linesOf; rw [if_neg hb]
theorem lines_sub {p : List Nat} (h : p ∈ linesOf l) : (∀ d ∈ p, d ∈ l) ∧ p.length ≤ l.length := by
  unfold linesOf at h
  split at h
  · cases h
  · exact spl1_sub (by decide) h
theorem lines_cnt (l : List Nat) : (linesOf l).length ≤ l.length + 1 := by
  unfold linesOf
  split
  · simp
  · exact spl1_cnt (by decide) l
def rows (sp : List (List Nat) → Nat ⊕ D) : List (List Nat) → Nat → (Nat × Nat) ⊕ List D
  | [], _ => .inr []
  | l :: ls, k => match sp (spl1 32 l) with
    | .inl j => .inl (k, j)
    | .inr d => match rows sp ls (k + 1) with
      | .inl e => .inl e
      | .inr ds => .inr (d :: ds)
def preR (es : List D) : (Nat × Nat) ⊕ List D → (Nat × Nat) ⊕ List D
  | .inl j => .inl j
  | .inr ds => .inr (es ++ ds)
def readBody (ent : MF) : MS := kFor (iEnumA (mCons (mCall m_lines_of (mCons (mVar 0) mNil)) mNil)) (gTupM (gsCons (gN 2) (gsCons (gN 3) gsNil))) (kExpr (mM fAppend (mRecv "list" (mVar 1)) (mCons (mCall ent (mCons (mM fSplit (mRecv "str" (mVar 3)) (mCons (mC (.str " ")) mNil)) (mCons (mVar 2) mNil))) mNil)))
def readGQ (sp : (Nat × Nat) ⊕ List D) (st : Store) (d : D) (s : Store) : Prop := ∃ ds, sp = .inr ds ∧ d = .tup ds ∧ Fr [] st s
def readGE (sp : (Nat × Nat) ⊕ List D) (st : Store) (c : Str) (fs : Fs) (s : Store) : Prop := ∃ k j : Nat, sp = .inl (k, j) ∧ c = "InvalidText" ∧ fs = eIT (.int (k : Nat)) (.int (j : Nat)) ∧ Fr [] st s
abbrev EntOk (ent : MF) (sp : List (List Nat) → Nat ⊕ D) : Prop := ∀ (st : Store) (F : Nat) (f0 : List Nat) (rest : List (List Nat)) (line : D), st[F]? = some (.lst (sL (f0 :: rest))) → Good (f0 :: rest) → wp (ent [.ref F, line] st) (entQ (sp (f0 :: rest)) st) (entE (sp (f0 :: rest)) line st)
theorem read_body {ent : MF} {sp : List (List Nat) → Nat ⊕ D} (he : EntOk ent sp) (ha : Asc l) (hl : l.length ≤ 100000) : wpS (kSeq (readBody ent) (kRet (mFn fTuple (mCons (mVar 1) mNil))) [some (.str (S l)), some (.ref st.length), none, none] (st ++ [.lst []]))
    (fun _ _ => False) (readGQ (rows sp (linesOf l) 0) st) (fun c fs _ s => readGE (rows sp (linesOf l) 0) st c fs s) := by
  have hT : (st ++ [Ob.lst []] ++ [.lst (sL (linesOf l))])[st.length + 1]? = some (.lst (sL (linesOf l))) := by simp
  have hA : (st ++ [Ob.lst []] ++ [.lst (sL (linesOf l))])[st.length]? = some (.lst []) := app_at app_new
  have fr0 : Fr [] st (st ++ [Ob.lst []] ++ [.lst (sL (linesOf l))]) := Fr.refl.app.app
  have e1 := lines_eq (st := st ++ [Ob.lst []]) (l := l) (by omega)
  rw [show (st ++ [Ob.lst []]).length = st.length + 1 by simp] at e1
  have hcnt := lines_cnt l
  refine s_seq ?_
  unfold readBody
  generalize st ++ [Ob.lst []] ++ [.lst (sL (linesOf l))] = s1 at *
  generalize hls : linesOf l = ls at *
  refine s_for (src := sEnum (st.length + 1)) (st' := s1) ((sL ls).zipIdx.map fun p => D.tup [.int (p.2 : Nat), p.1]) (fun k env s => ∃ (es : List D) (x2 x3 : Option D), env = [some (.str (S l)), some (.ref st.length), x2, x3] ∧ s[st.length]? = some (.lst es) ∧ es.length = k ∧ s[st.length + 1]? = some (.lst (sL ls)) ∧
    rows sp ls 0 = preR es (rows sp (ls.drop k) k) ∧ Fr [] st s) (fun K E k => ?_) ?_ ⟨[], none, none, rfl, hA, rfl, hT, ?_, fr0⟩ ?_ ?_ ?_
  · have : fEnumA [.ref (st.length + 1)] s1 = .ok (sEnum (st.length + 1)) s1 := by
      show fEnum [.ref (st.length + 1)] s1 = _
      unfold fEnum; simp only [items_l hT]
    simp only [iEnumA, wp_bind, wp_mCons, wp_mCall, wp_mVar, wp_mNil, List.getElem?_cons_zero, e1, wp_ok, this]
    exact k
  · show ((itemsAt s1 (st.length + 1)).getD []).length = _
    rw [items_l hT]; simp
  · rw [List.drop_zero]
    cases rows sp ls 0 <;> rfl
  · rintro i env s ⟨es, x2, x3, rfl, _, _, hs, _⟩
    show (itemsAt s (st.length + 1)).map (fun ds => ds[i]?.map fun d => D.tup [.int (i : Nat), d]) = _
    rw [items_l hs, Option.map_some]
    congr 1
    rw [List.getElem?_map, List.getElem?_zipIdx]
    cases (sL ls)[i]? with
    | none => rfl
    | some d => simp
  · rintro k d env s hd ⟨es, x2, x3, rfl, hs, hek, hTs, hrows, fr⟩
    rw [List.getElem?_map, List.getElem?_zipIdx, sL_get] at hd
    have hkl : k < ls.length := by
      cases q : ls[k]? with
      | none => rw [q] at hd; cases hd
      | some b => exact (List.getElem?_eq_some_iff.mp q).1
    rw [List.getElem?_eq_getElem hkl] at hd
    simp at hd
    subst hd
    have edk : ls.drop k = ls[k] :: ls.drop (k + 1) := List.drop_eq_getElem_cons hkl
    have hmem : ls[k] ∈ linesOf l := by rw [hls]; exact List.getElem_mem hkl
    obtain ⟨hsub, hlen⟩ := lines_sub hmem
    generalize ls[k] = row at *
    have hga : Asc row := fun c hc => ha c (hsub c hc)
    have hgf := good_fields hga (by omega)
    refine ⟨_, rfl, ?_⟩
    have esp := split_ok (st := s) (l := row) (c := 32) (by decide) (by omega)
    obtain ⟨f0, rest, ef⟩ := List.exists_cons_of_ne_nil (spl1_ne 32 row)
    have hF : (s ++ [.lst (sL (spl1 32 row))])[s.length]? = some (.lst (sL (f0 :: rest))) := by rw [← ef]; exact app_new
    rw [ef] at hgf
    have hent := he (s ++ [.lst (sL (spl1 32 row))]) s.length f0 rest (.int (k : Nat)) hF hgf
    have hs1 : (s ++ [.lst (sL (spl1 32 row))])[st.length]? = some (.lst es) := app_at hs
    have hT1 : (s ++ [.lst (sL (spl1 32 row))])[st.length + 1]? = some (.lst (sL ls)) := app_at hTs
    have fr1 : Fr [] st (s ++ [.lst (sL (spl1 32 row))]) := fr.app
    generalize s ++ [.lst (sL (spl1 32 row))] = s2 at *
    have erow : rows sp (row :: ls.drop (k + 1)) k = match sp (spl1 32 row) with
        | .inl j => .inl (k, j)
        | .inr d => match rows sp (ls.drop (k + 1)) (k + 1) with
          | .inl e => .inl e
          | .inr ds => .inr (d :: ds) := rfl
    refine w_expr ?_
    have er := rec_l hs
    simp only [wp_mM, wp_mRecv, wp_mVar, wp_mCons, wp_mCall, wp_mNil, wp_mC, List.getElem?_cons_zero, List.getElem?_cons_succ, List.set_cons_zero, List.set_cons_succ, er, if_true, rec_s, lit_18, esp, wp_ok]
    rcases wp_cases hent with ⟨d, s3, e, h1, fr3⟩ | ⟨c, fs, s3, e, j, h1, rfl, rfl, fr3⟩
    · rw [e, wp_ok]
      have hs3 := fr3.get hs1 (by simp)
      have hT3 := fr3.get hT1 (by simp)
      have ea := f_append (y := d) hs3 (show es.length < 1000000 by omega)
      rw [ea, wp_ok]
      refine ⟨es ++ [d], _, _, rfl, set_at hs3, by simp [hek], by rw [set_no (show st.length ≠ st.length + 1 by omega)]; exact hT3, ?_, (fr1.trans fr3).set (.inl (Nat.le_refl _))⟩
      rw [hrows, edk, erow, ef, h1]
      dsimp only
      cases rows sp (ls.drop (k + 1)) (k + 1) with
      | inl e => rfl
      | inr ds => show Sum.inr _ = Sum.inr _; congr 1; simp
    · rw [e, wp_ex]
      refine ⟨k, j, ?_, rfl, rfl, fr1.trans fr3⟩
      rw [hrows, edk, erow, ef, h1]; rfl
  · rintro env s ⟨es, x2, x3, rfl, hs, hek, hTs, hrows, fr⟩
    have hz : ((sL ls).zipIdx.map fun p => D.tup [.int (p.2 : Nat), p.1]).length = ls.length := by simp
    rw [hz, List.drop_length] at hrows
    have et : fTuple [.ref st.length] s = .ok (.tup es) s := by unfold fTuple; simp only [items_l hs]
    refine s_ret (v := .tup es) (st' := s) (fun K E kk => by simp [et]; exact kk) ⟨es, ?_, rfl, fr⟩
    rw [hrows]
    show Sum.inr (es ++ []) = _
    rw [List.append_nil]
def lineX (chain : Bool) : List (List Nat) → Nat ⊕ D := if chain = true then lineC else lineJ
theorem read_chain_wp (ha : Asc l) (hl : l.length ≤ 100000) : wp (m_read_chain [.str (S l)] st) (readGQ (rows lineC (linesOf l) 0) st) (readGE (rows lineC (linesOf l) 0) st) := by
  refine wp_def (show wpS (b_read_chain [some (.str (S l)), none, none, none] st) _ _ _ from ?_)
  refine s_seq (s_if (b := false) (st' := st) (fun K E k => by simp [isi_ss]; exact k) (fun h => by cases h) fun _ => s_skip ?_)
  refine s_seq (s_set (v := .ref st.length) (st' := st ++ [.lst []]) (fun K E k => by simp; exact k) ?_)
  exact wpS_mono (read_body (ent := m_chain_entry) (sp := lineC) (fun st F f0 rest line h1 h2 => centry_wp h1 h2) ha hl) (fun _ _ h => h.elim) (fun _ _ h => h) (fun _ _ _ _ h => h)
theorem read_joins_wp (ha : Asc l) (hl : l.length ≤ 100000) : wp (m_read_joins [.str (S l)] st) (readGQ (rows lineJ (linesOf l) 0) st) (readGE (rows lineJ (linesOf l) 0) st) := by
  refine wp_def (show wpS (b_read_joins [some (.str (S l)), none, none, none] st) _ _ _ from ?_)
  refine s_seq (s_if (b := false) (st' := st) (fun K E k => by simp [isi_ss]; exact k) (fun h => by cases h) fun _ => s_skip ?_)
  refine s_seq (s_set (v := .ref st.length) (st' := st ++ [.lst []]) (fun K E k => by simp; exact k) ?_)
  exact wpS_mono (read_body (ent := m_join_entry) (sp := lineJ) (fun st F f0 rest line h1 h2 => jentry_wp h1 h2) ha hl) (fun _ _ h => h.elim) (fun _ _ h => h) (fun _ _ _ _ h => h)
end K65
/-! ## Sp15 -/
set_option Elab.async false
set_option linter.all false
set_option maxRecDepth 100000
set_option maxHeartbeats 4000000
namespace K65
open PySem L2 SX Mi
variable {st : Store} {l a : List Nat} {c : Nat}
def dueOf (o : (Nat × Nat) ⊕ List D) : D := match o with
  | .inl (k, j) => .tup [.str (S [102, 97, 117, 108, 116]), .int (k : Nat), .int (j : Nat)]
  | .inr ds => .tup [.str (S [116, 111, 108, 100]), .tup ds]
def dueD (chain : Bool) (l : List Nat) : D := dueOf (rows (lineX chain) (linesOf l) 0)
theorem told_eq {chain : Bool} (ha : Asc l) (hl : l.length ≤ 100000) : ∃ st', m_law_told [.str (S l), .bl chain] st = .ok (dueD chain l) st' ∧ Fr [] st st' := by
  have key : wp (m_law_told [.str (S l), .bl chain] st) (fun d s => d = dueD chain l ∧ Fr [] st s) fun _ _ _ => False := by
    refine wp_def (show wpS (b_law_told [some (.str (S l)), some (.bl chain), none] st) _ _ _ from ?_)
    have fault : ∀ (k j : Nat) (s : Store), Fr [] st s → dueD chain l = dueOf (.inl (k, j)) → (Str.ofString "InvalidText" ∈ errs) ∧ wpS (kHand [("InvalidText", some 2, fun fs => (kRet (mTup (mCons (mC (.str "fault")) (mCons (mXf fs "line") (mCons (mXf fs "at") mNil)))))), ("NotUsable", some 2, fun fs => (kRet (mTup (mCons (mC (.str "refused")) (mCons (mXf fs "word") (mCons (mXf fs "at") mNil))))))] "InvalidText" (eIT (.int (k : Nat)) (.int (j : Nat))) [some (.str (S l)), some (.bl chain), none] s)
        (fun _ s' => D.non = dueD chain l ∧ Fr [] st s') (fun d s => d = dueD chain l ∧ Fr [] st s) (fun _ _ _ _ => False) := by
      intro k j s fr he
      refine ⟨by decide +kernel, ?_⟩
      unfold kHand
      rw [if_pos rfl, if_pos (show okN (some 2) [some (.str (S l)), some (.bl chain), none] = true from rfl)]
      have e1 : (eIT (.int (k : Nat)) (.int (j : Nat))).lookup (Str.ofString "line") = some (D.int (k : Nat)) := by
        unfold eIT
        rw [List.lookup_cons, show ((Str.ofString "line") == (Str.ofString "at")) = false from by decide +kernel]
        rw [List.lookup_cons, show ((Str.ofString "line") == (Str.ofString "line")) = true from by decide +kernel]
      have e2 : (eIT (.int (k : Nat)) (.int (j : Nat))).lookup (Str.ofString "at") = some (D.int (j : Nat)) := by
        unfold eIT
        rw [List.lookup_cons, show ((Str.ofString "at") == (Str.ofString "at")) = true from by decide +kernel]
      have e3 : (kRet (mTup (mCons (mC (.str "fault")) (mCons (mXf (eIT (.int (k : Nat)) (.int (j : Nat))) "line") (mCons (mXf (eIT (.int (k : Nat)) (.int (j : Nat))) "at") mNil)))) (setN (some 2) [some (.str (S l)), some (.bl chain), none]) s) = .rt (dueD chain l) s := by
        unfold kRet
        have : mTup (mCons (mC (.str "fault")) (mCons (mXf (eIT (.int (k : Nat)) (.int (j : Nat))) "line") (mCons (mXf (eIT (.int (k : Nat)) (.int (j : Nat))) "at") mNil))) (setN (some 2) [some (.str (S l)), some (.bl chain), none]) s = .ok (dueD chain l) s := by
          refine Ev.eq fun K E kk => ?_
          simp only [wp_mTup, wp_mCons, wp_mC, wp_mXf, e1, e2, wp_mNil, lit_69, List.length_cons, List.length_nil]
          rw [if_pos (by decide)]
          rw [he] at kk
          exact kk
        rw [this]; rfl
      dsimp only
      rw [e3]
      exact ⟨rfl, fr⟩
    refine s_try ?_
    refine s_seq (s_if (b := chain) (st' := st) (fun K E k => by simp; exact k) (fun hb => ?_) fun hb => s_skip ?_)
    · subst hb
      refine w_ret ?_
      simp only [wp_mTup, wp_mCons, wp_mC, wp_mNil, lit_19, wp_mCall, wp_mVar, List.getElem?_cons_zero, List.length_cons, List.length_nil]
      rcases wp_cases (read_chain_wp (st := st) ha hl) with ⟨d, s, e, ds, h1, rfl, fr⟩ | ⟨c, fs, s, e, k, j, h1, rfl, rfl, fr⟩
      · rw [e, wp_ok, if_pos (by decide)]
        refine ⟨?_, fr⟩
        show _ = dueOf (rows lineC (linesOf l) 0)
        rw [h1]; rfl
      · rw [e, wp_ex]
        have := fault k j s fr (by show dueOf (rows lineC (linesOf l) 0) = _; rw [h1])
        exact ⟨this.1, wpS_mono this.2 (fun _ _ h => h) (fun _ _ h => h) (fun _ _ _ _ h => h)⟩
    · subst hb
      refine w_ret ?_
      simp only [wp_mTup, wp_mCons, wp_mC, wp_mNil, lit_19, wp_mCall, wp_mVar, List.getElem?_cons_zero, List.length_cons, List.length_nil]
      rcases wp_cases (read_joins_wp (st := st) ha hl) with ⟨d, s, e, ds, h1, rfl, fr⟩ | ⟨c, fs, s, e, k, j, h1, rfl, rfl, fr⟩
      · rw [e, wp_ok, if_pos (by decide)]
        refine ⟨?_, fr⟩
        show _ = dueOf (rows lineJ (linesOf l) 0)
        rw [h1]; rfl
      · rw [e, wp_ex]
        have := fault k j s fr (by show dueOf (rows lineJ (linesOf l) 0) = _; rw [h1])
        exact ⟨this.1, wpS_mono this.2 (fun _ _ h => h) (fun _ _ h => h) (fun _ _ _ _ h => h)⟩
  obtain ⟨d, s, e, rfl, fr⟩ := wp_get key
  exact ⟨s, e, fr⟩
end K65
/-! ## Sp16 -/
set_option Elab.async false
set_option linter.all false
set_option maxRecDepth 100000
set_option maxHeartbeats 4000000
namespace K65
open PySem L2 SX Mi
variable {st : Store} {l a : List Nat} {c : Nat}
def kstr (ks : List Bool) : List Nat := ks.map fun b => if b = true then 110 else 116
@[simp] theorem kstr_len {ks : List Bool} : (kstr ks).length = ks.length := List.length_map ..
def shapesD (sh : List (List Nat × List Bool)) : List D := sh.map fun p => .tup [.str (S p.1), .str (S (kstr p.2))]
def kindsOf (sh : List (List Nat × List Bool)) (f0 : List Nat) : List Bool := sh.foldl (fun k p => if p.1 = f0 then p.2 else k) []
def lawF (ks : List Bool) (f0 : List Nat) (rest : List (List Nat)) : D := if ks = [] then .tup [.non, .int 0] else match ents ks rest 1 with
  | .inl j => .tup [.non, .int (j : Nat)]
  | .inr ds => .tup [.tup (.str (S f0) :: ds), .int (-1)]
theorem rng2_ok {n : Nat} {s : Store} (h : n ≤ 1000000000) (h1 : 1 ≤ n) : fRng2 [.int 1, .int (n : Nat)] s = .ok (sItems (rng 1 (n - 1))) s := by
  unfold fRng2
  dsimp only
  rw [if_pos (by omega)]
  congr 3
  omega
theorem ev_rng2 {n : Nat} {s : Store} {env : Mi.Env} {r : MA} (hr : r env s = .ok [.int 1, .int ((n + 1 : Nat) : Int)] s) (h : n + 1 ≤ 1000000000) : Ev (Mi.iRng2 r env s) (sItems (rng 1 n)) s := fun K E k => by
  have e := rng2_ok (s := s) h (Nat.le_add_left 1 n)
  rw [Nat.add_sub_cancel] at e
  unfold Mi.iRng2
  rw [hr, Out.bind_ok, e]; exact k
theorem ents_cons (b : Bool) (bs : List Bool) (w : List Nat) (ws : List (List Nat)) (k : Nat) : ents (b :: bs) (w :: ws) k = if isN (entD b w) = true then .inl k else match ents bs ws (k + 1) with
    | .inl j => .inl j
    | .inr ds => .inr (entD b w :: ds) := by first | (rw [ents]; done) | (rw [ents]; rfl)
theorem Fr.loc {st s2 s3 : Store} {V : Nat} (a : Fr [] st s2) (b : Fr [V] s2 s3) (h : st.length ≤ V) : Fr [] st s3 := ⟨Nat.le_trans a.1 b.1, fun i hi _ => (b.2 i (Nat.lt_of_lt_of_le hi a.1) (by simp; omega)).trans (a.2 i hi (by simp))⟩
theorem lfields_eq {row : List Nat} {SH : Nat} {sh : List (List Nat × List Bool)} {f0 : List Nat} {rest : List (List Nat)} (hsh : st[SH]? = some (.lst (shapesD sh))) (ha : Asc row) (hl : row.length ≤ 100000) (hf : spl1 32 row = f0 :: rest) (hk : ∀ p ∈ sh, p.2.length ≤ 10 ∧ p.2 ≠ []) :
    ∃ st', m_law_fields [.str (S row), .ref SH] st = .ok (lawF (kindsOf sh f0) f0 rest) st' ∧ Fr [] st st' := by
  have key : wp (m_law_fields [.str (S row), .ref SH] st) (fun d s => d = lawF (kindsOf sh f0) f0 rest ∧ Fr [] st s) fun _ _ _ => False := by
    refine wp_def (show wpS (b_law_fields [some (.str (S row)), some (.ref SH), none, none, none, none, none] st) _ _ _ from ?_)
    have esp := split_ok (st := st) (l := row) (c := 32) (by decide) (by omega)
    rw [hf] at esp
    refine s_seq (s_set (v := .ref st.length) (st' := st ++ [.lst (sL (f0 :: rest))]) (fun K E k => by simp [esp]; exact k) ?_)
    have hg := good_fields ha hl
    have hcnt := spl1_cnt (show 32 < 256 by decide) row
    rw [hf] at hg hcnt
    simp at hcnt
    have hF : (st ++ [Ob.lst (sL (f0 :: rest))])[st.length]? = some (.lst (sL (f0 :: rest))) := app_new
    have hS1 : (st ++ [Ob.lst (sL (f0 :: rest))])[SH]? = some (.lst (shapesD sh)) := app_at hsh
    have fr0 : Fr [] st (st ++ [Ob.lst (sL (f0 :: rest))]) := Fr.refl.app
    generalize st ++ [Ob.lst (sL (f0 :: rest))] = s1 at *
    refine s_seq (s_set (v := .str (S [])) (st' := s1) (fun K E k => by simp; exact k) ?_)
    have e0 : fIx (.ref st.length) (.int 0) s1 = .ok (.str (S f0)) s1 := ix0 hF
    refine s_seq (s_for (src := sLive SH) (st' := s1) (shapesD sh) (fun i env s => ∃ x : Option D, s = s1 ∧ env = [some (.str (S row)), some (.ref SH), some (.ref st.length), some (.str (S (kstr ((sh.take i).foldl (fun k p => if p.1 = f0 then p.2 else k) [])))), x, none, none])
      (fun K E k => by simp [src_l hS1]; exact k) (by show ((itemsAt s1 SH).getD []).length = _; rw [items_l hS1]; rfl) ⟨none, rfl, rfl⟩ ?_ ?_ ?_)
    · rintro i env s ⟨x, rfl, rfl⟩
      show (itemsAt s SH).map (fun ds => ds[i]?) = _
      rw [items_l hS1]; rfl
    · rintro i d env s hd ⟨x, rfl, rfl⟩
      unfold shapesD at hd
      rw [List.getElem?_map] at hd
      obtain ⟨p, hp, rfl⟩ := Option.map_eq_some_iff.mp hd
      have etake : sh.take (i + 1) = sh.take i ++ [p] := by rw [List.take_succ, hp]; rfl
      rw [etake, List.foldl_append]
      generalize (sh.take i).foldl (fun k p => if p.1 = f0 then p.2 else k) [] = kk
      refine ⟨_, rfl, ?_⟩
      have ip0 : fIx (.tup [.str (S p.1), .str (S (kstr p.2))]) (.int 0) s = .ok (.str (S p.1)) s := rfl
      have ip1 : fIx (.tup [.str (S p.1), .str (S (kstr p.2))]) (.int 1) s = .ok (.str (S (kstr p.2))) s := rfl
      refine s_if (b := decide (p.1 = f0)) (st' := s) (fun K E k => by simp [ip0, e0]; exact k) (fun hb => ?_) fun hb => s_skip ?_
      · have hb := of_decide_eq_true hb
        refine s_set (v := .str (S (kstr p.2))) (st' := s) (fun K E k => by simp [ip1]; exact k) ⟨some (.tup [.str (S p.1), .str (S (kstr p.2))]), rfl, ?_⟩
        simp [hb]
      · have hb := of_decide_eq_false hb
        refine ⟨some (.tup [.str (S p.1), .str (S (kstr p.2))]), rfl, ?_⟩
        simp [hb]
    rintro env s ⟨x, rfl, rfl⟩
    have ek : (sh.take (shapesD sh).length).foldl (fun k p => if p.1 = f0 then p.2 else k) [] = kindsOf sh f0 := by
      unfold shapesD kindsOf; rw [List.length_map, List.take_length]
    rw [ek]
    have hklen : (kindsOf sh f0).length ≤ 10 := by
      unfold kindsOf
      have : ∀ (sh : List (List Nat × List Bool)) (k : List Bool), k.length ≤ 10 → (∀ p ∈ sh, p.2.length ≤ 10 ∧ p.2 ≠ []) → (sh.foldl (fun k p => if p.1 = f0 then p.2 else k) k).length ≤ 10 := by
        intro sh
        induction sh with
        | nil => intro k h _; exact h
        | cons p sh ih =>
          intro k h hh
          rw [List.foldl_cons]
          refine ih _ ?_ (fun q hq => hh q (List.mem_cons_of_mem _ hq))
          split
          · exact (hh p List.mem_cons_self).1
          · exact h
      exact this sh [] (by simp) hk
    generalize kindsOf sh f0 = ks at *
    have eks : (kstr ks = []) = (ks = []) := by unfold kstr; simp
    refine s_seq (s_if (b := decide (ks = [])) (st' := s) (fun K E k => by simp [eks]; exact k) (fun hb => ?_) fun hb => s_skip ?_)
    · have hb := of_decide_eq_true hb
      refine s_ret (v := .tup [.non, .int 0]) (st' := s) (fun K E k => by simp; exact k) ⟨?_, fr0⟩
      unfold lawF; rw [if_pos hb]
    have hkne : ks ≠ [] := of_decide_eq_false hb
    have elF : lawF ks f0 rest = match ents ks rest 1 with
        | .inl j => .tup [.non, .int (j : Nat)]
        | .inr ds => .tup [.tup (.str (S f0) :: ds), .int (-1)] := by unfold lawF; rw [if_neg hkne]
    refine s_seq (s_set (v := .ref s.length) (st' := s ++ [.lst [.str (S f0)]]) (fun K E k => by simp [e0]; exact k) ?_)
    have hV : (s ++ [Ob.lst [D.str (S f0)]])[s.length]? = some (.lst [.str (S f0)]) := app_new
    have hF2 : (s ++ [Ob.lst [D.str (S f0)]])[st.length]? = some (.lst (sL (f0 :: rest))) := app_at hF
    have fr2 : Fr [] st (s ++ [Ob.lst [D.str (S f0)]]) := fr0.app
    have hle : st.length ≤ s.length := fr0.1
    have hltF : st.length < s.length := (List.getElem?_eq_some_iff.mp hF).1
    generalize hVn : s.length = V at *
    generalize s ++ [Ob.lst [D.str (S f0)]] = s2 at *
    have eL : fLen [.ref st.length] s2 = .ok (.int ((rest.length + 1 : Nat) : Int)) s2 := by rw [lenL hF2]; simp
    refine s_seq (s_for (src := sItems (rng 1 rest.length)) (st' := s2) (rng 1 rest.length) (fun i env s3 => ∃ (es : List D) (x y : Option D), env = [some (.str (S row)), some (.ref SH), some (.ref st.length), some (.str (S (kstr ks))), x, some (.ref V), y] ∧ s3[V]? = some (.lst (.str (S f0) :: es)) ∧ es.length = i ∧ i ≤ ks.length ∧
        ents ks rest 1 = pre es (ents (ks.drop i) (rest.drop i) (i + 1)) ∧ Fr [V] s2 s3) (ev_rng2 (Ev.eq fun K E k => by simp only [wp_mCons, wp_mC, wp_mFn, wp_mVar, wp_mNil, List.getElem?_cons_zero, List.getElem?_cons_succ, List.set_cons_succ, List.set_cons_zero, eL, wp_ok]; exact k) (by omega)) rfl ⟨[], x, none, rfl, hV, rfl, Nat.zero_le _, ?_, Fr.refl⟩ (fun _ _ _ _ => rfl) ?_ ?_)
    · rw [List.drop_zero, List.drop_zero]
      cases ents ks rest 1 <;> rfl
    · rintro i d env s3 hd ⟨es, x', y', rfl, hV3, hes, hik, hents, fr3⟩
      obtain ⟨hi, rfl⟩ := rng_get hd
      have edr : rest.drop i = rest[i] :: rest.drop (i + 1) := List.drop_eq_getElem_cons hi
      have hfi : (f0 :: rest)[i + 1]? = some rest[i] := by simp [hi]
      obtain ⟨hfa, hfl⟩ := hg rest[i] (List.mem_of_getElem? hfi)
      have hF3 := fr3.get hF2 (by simp; omega)
      have ei := ix_fs hF3 hfi
      have ec : (1 : Int) + (i : Int) = ((i + 1 : Nat) : Int) := by omega
      rw [ec]
      generalize rest[i] = f at *
      refine ⟨_, rfl, ?_⟩
      have frs : Fr [] st s3 := Fr.loc fr2 fr3 hle
      refine s_seq (s_if (b := decide (ks.length ≤ i)) (st' := s3) (fun K E k => ?_) (fun hb => ?_) fun hb => s_skip ?_)
      · have : decide ((ks.length : Int) < ((i + 1 : Nat) : Int)) = decide (ks.length ≤ i) := by
          by_cases q : ks.length ≤ i
          · rw [decide_eq_true q, decide_eq_true (by omega)]
          · rw [decide_eq_false q, decide_eq_false (by omega)]
        simp only [wp_mB, wp_mBin, wp_mVar, wp_mFn, wp_mCons, wp_mNil, List.getElem?_cons_zero, List.getElem?_cons_succ, List.set_cons_succ, List.set_cons_zero, f_len_s, kstr_len, f_gt, wp_ok, this]
        rw [if_pos (by omega)]
        exact k
      · have hb := of_decide_eq_true hb
        have e : i = ks.length := by omega
        refine s_ret (v := .tup [.non, .int ((i + 1 : Nat) : Int)]) (st' := s3) (fun K E k => by simp at k ⊢; exact k) ⟨?_, frs⟩
        rw [elF, hents, e, List.drop_length, ← e, edr]; rfl
      have hik2 : i < ks.length := by
        have := of_decide_eq_false hb
        omega
      have edk : ks.drop i = ks[i] :: ks.drop (i + 1) := List.drop_eq_getElem_cons hik2
      have ekc : atI (kstr ks) (((i + 1 : Nat) : Int) - 1) = some (if ks[i] = true then 110 else 116) := by
        rw [show ((i + 1 : Nat) : Int) - 1 = ((i : Nat) : Int) by omega, atI_k]
        unfold kstr
        rw [List.getElem?_map, List.getElem?_eq_getElem hik2]; rfl
      generalize ks[i] = b at *
      have eents := ents_cons b (ks.drop (i + 1)) f (rest.drop (i + 1)) (i + 1)
      rw [← edk, ← edr] at eents
      have fine : isN (entD b f) = false → ents ks rest 1 = pre (es ++ [entD b f]) (ents (ks.drop (i + 1)) (rest.drop (i + 1)) (i + 1 + 1)) := fun hn => by
        rw [hents, eents, if_neg (by rw [hn]; simp)]
        cases ents (ks.drop (i + 1)) (rest.drop (i + 1)) (i + 1 + 1) with
        | inl j => rfl
        | inr ds => show Sum.inr _ = Sum.inr _; congr 1; simp
      have bad : isN (entD b f) = true → lawF ks f0 rest = .tup [.non, .int ((i + 1 : Nat) : Int)] := fun hn => by
        rw [elF, hents, eents, if_pos hn]; rfl
      refine s_if (b := b) (st' := s3) (fun K E k => ?_) (fun hb => ?_) fun hb => ?_
      · simp only [wp_mB, wp_mBin, wp_mVar, wp_mC, List.getElem?_cons_zero, List.getElem?_cons_succ, List.set_cons_succ, List.set_cons_zero, f_sub, wp_ok, f_ix_s, kstr_len, ekc]
        rw [if_pos (by omega)]
        cases b <;> simp <;> exact k
      · subst hb
        obtain ⟨s4, e4, fr4⟩ := lfig_eq (st := s3) (w := f) (by omega)
        refine s_seq (s_if (b := !figs f) (st' := s4) (fun K E k => ?_) (fun hb => ?_) fun hb => s_skip ?_)
        · simp only [wp_mNotT, wp_mTru, wp_mCall, wp_mCons, wp_mBin, wp_mVar, wp_mC, wp_mNil, List.getElem?_cons_zero, List.getElem?_cons_succ, List.set_cons_succ, List.set_cons_zero, ei, wp_ok, e4, wp_tru, tru_b]
          exact k
        · have hb : figs f = false := by simpa using hb
          refine s_ret (v := .tup [.non, .int ((i + 1 : Nat) : Int)]) (st' := s4) (fun K E k => by simp at k ⊢; exact k) ⟨?_, frs.trans fr4⟩
          rw [bad ?_]
          show isN (numD f) = true
          unfold numD; rw [if_neg (by rw [hb]; simp)]; rfl
        · have hb : figs f = true := by simpa using hb
          have hV4 := fr4.get hV3 (by simp)
          have hF4 := fr4.get hF3 (by simp)
          have ei4 := ix_fs hF4 hfi
          have en : entD true f = numD f := rfl
          have ea := f_append (y := numD f) hV4 (show (D.str (S f0) :: es).length < 1000000 by simp; omega)
          refine s_expr (v := .non) (st' := s4.set V (.lst (.str (S f0) :: es ++ [numD f]))) (fun K E k => ?_) ⟨es ++ [numD f], _, _, rfl, set_at hV4, by simp [hes], by omega, ?_, (fr3.trans fr4.nil).set (.inr (by simp))⟩
          · have er := rec_l hV4
            have eif := fint_eq (st := s4) hb
            simp only [wp_mM, wp_mRecv, wp_mCons, wp_mFn, wp_mBin, wp_mVar, wp_mNil, List.getElem?_cons_zero, List.getElem?_cons_succ, List.set_cons_succ, List.set_cons_zero, er, if_true, ei4, wp_ok, eif, ea]
            exact k
          · rw [← en]
            refine fine ?_
            show isN (numD f) = false
            unfold numD; rw [if_pos hb]; rfl
      · subst hb
        obtain ⟨s4, e4, fr4⟩ := lread_eq (st := s3) (l := f) (by omega)
        have hV4 := fr4.get hV3 (by simp)
        have ea := f_append (y := lrD (lawRead f)) hV4 (show (D.str (S f0) :: es).length < 1000000 by simp; omega)
        refine s_seq (s_expr (v := .non) (st' := s4.set V (.lst (.str (S f0) :: es ++ [lrD (lawRead f)]))) (fun K E k => ?_) ?_)
        · have er := rec_l hV3
          simp only [wp_mM, wp_mRecv, wp_mCons, wp_mCall, wp_mBin, wp_mVar, wp_mNil, List.getElem?_cons_zero, List.getElem?_cons_succ, List.set_cons_succ, List.set_cons_zero, er, if_true, ei, wp_ok, e4, ea]
          exact k
        have hV5 := set_at (o' := .lst (.str (S f0) :: es ++ [lrD (lawRead f)])) hV4
        have en : entD false f = lrD (lawRead f) := rfl
        have elast : fIx (.ref V) (.int (-1)) (s4.set V (.lst (.str (S f0) :: es ++ [lrD (lawRead f)]))) = .ok (lrD (lawRead f)) (s4.set V (.lst (.str (S f0) :: es ++ [lrD (lawRead f)]))) := by
          unfold fIx
          simp only [items_l hV5, atI_end]
        refine s_if (b := isN (lrD (lawRead f))) (st' := s4.set V (.lst (.str (S f0) :: es ++ [lrD (lawRead f)]))) (fun K E k => ?_) (fun hb => ?_) fun hb => s_skip ?_
        · simp only [wp_mB, wp_mBin, wp_mVar, wp_mNeg, wp_mC, List.getElem?_cons_zero, List.getElem?_cons_succ, List.set_cons_succ, List.set_cons_zero, elast, wp_ok, f_isN]
          exact k
        · refine s_ret (v := .tup [.non, .int ((i + 1 : Nat) : Int)]) (st' := s4.set V (.lst (.str (S f0) :: es ++ [lrD (lawRead f)]))) (fun K E k => by simp at k ⊢; exact k) ⟨(bad hb).symm, (frs.trans fr4).set (.inl hle)⟩
        · refine ⟨es ++ [lrD (lawRead f)], _, _, rfl, hV5, by simp [hes], by omega, ?_, (fr3.trans fr4.nil).set (.inr (by simp))⟩
          rw [← en]; exact fine hb
    · rintro env s3 ⟨es, x', y', rfl, hV3, hes, hik, hents, fr3⟩
      rw [rng_len] at hes hik hents
      rw [List.drop_length] at hents
      have frs : Fr [] st s3 := Fr.loc fr2 fr3 hle
      have eV : fLen [.ref V] s3 = .ok (.int ((es.length + 1 : Nat) : Int)) s3 := by rw [lenL hV3]; simp
      refine s_seq (s_if (b := decide (rest.length < ks.length)) (st' := s3) (fun K E k => ?_) (fun hb => ?_) fun hb => s_skip ?_)
      · have : decide (((es.length + 1 : Nat) : Int) < (ks.length : Int) + 1) = decide (rest.length < ks.length) := by
          by_cases q : rest.length < ks.length
          · rw [decide_eq_true q, decide_eq_true (by omega)]
          · rw [decide_eq_false q, decide_eq_false (by omega)]
        simp only [wp_mB, wp_mBin, wp_mVar, wp_mFn, wp_mCons, wp_mNil, wp_mC, List.getElem?_cons_zero, List.getElem?_cons_succ, eV, wp_ok, f_len_s, kstr_len, f_add_i, f_lt, this]
        rw [if_pos (by omega)]
        exact k
      · have hb := of_decide_eq_true hb
        refine s_ret (v := .tup [.non, .int ((es.length + 1 : Nat) : Int)]) (st' := s3) (fun K E k => ?_) ⟨?_, frs⟩
        · simp only [wp_mTup, wp_mCons, wp_mC, wp_mFn, wp_mVar, wp_mNil, List.getElem?_cons_zero, List.getElem?_cons_succ, eV, wp_ok, List.length_cons, List.length_nil]
          rw [if_pos (by decide)]
          exact k
        · rw [elF, hents, List.drop_eq_getElem_cons hb, hes]; rfl
      · have hb := of_decide_eq_false hb
        have e : ks.length = rest.length := by omega
        rw [← e, List.drop_length] at hents
        have et : fTuple [.ref V] s3 = .ok (.tup (.str (S f0) :: es)) s3 := by unfold fTuple; simp only [items_l hV3]
        refine s_ret (v := .tup [.tup (.str (S f0) :: es), .int (-1)]) (st' := s3) (fun K E k => ?_) ⟨?_, frs⟩
        · simp only [wp_mTup, wp_mCons, wp_mC, wp_mFn, wp_mNeg, wp_mVar, wp_mNil, List.getElem?_cons_zero, List.getElem?_cons_succ, et, wp_ok, List.length_cons, List.length_nil]
          rw [if_pos (by decide)]
          exact k
        · rw [elF, hents]
          show _ = (match Sum.inr (es ++ []) with
            | .inl j => D.tup [.non, .int (j : Nat)]
            | .inr ds => .tup [.tup (.str (S f0) :: ds), .int (-1)])
          rw [List.append_nil]
  obtain ⟨d, s, e, rfl, fr⟩ := wp_get key
  exact ⟨s, e, fr⟩
end K65
/-! ## Sp17 -/
set_option Elab.async false
set_option linter.all false
set_option maxRecDepth 100000
set_option maxHeartbeats 4000000
namespace K65
open PySem L2 SX Mi
variable {st : Store} {l a : List Nat} {c : Nat}
def shp (chain : Bool) : List (List Nat × List Bool) := if chain = true then [(wGiven, [false]), (wPut, k5)] else [(wRoot, [false, false]), (wUp, [false, false]), (wDown, [true, false, false])]
theorem shp_ok (chain : Bool) : ∀ p ∈ shp chain, p.2.length ≤ 10 ∧ p.2 ≠ [] := by cases chain <;> decide
def arr (chain : Bool) (f0 : List Nat) (ds : List D) : D := if chain = true then .tup (.str (S f0) :: ds) else if f0 = wDown then .tup [.str (S f0), ds.getD 1 .non, ds.getD 2 .non, ds.getD 0 .non] else .tup [.str (S f0), ds.getD 0 .non, ds.getD 1 .non, .int 0]
theorem lineX_eq (chain : Bool) (f0 : List Nat) (rest : List (List Nat)) : lineX chain (f0 :: rest) = if kindsOf (shp chain) f0 = [] then .inl 0 else match ents (kindsOf (shp chain) f0) rest 1 with
    | .inl j => .inl j
    | .inr ds => .inr (arr chain f0 ds) := by
  cases chain
  · show lineJ (f0 :: rest) = _
    by_cases h1 : f0 = wDown
    · subst h1
      have e : kindsOf (shp false) wDown = [true, false, false] := by decide
      rw [e]; rfl
    · by_cases h2 : f0 = wRoot
      · subst h2
        have e : kindsOf (shp false) wRoot = [false, false] := by decide
        rw [e]; rfl
      · by_cases h3 : f0 = wUp
        · subst h3
          have e : kindsOf (shp false) wUp = [false, false] := by decide
          rw [e]; rfl
        · have e : kindsOf (shp false) f0 = [] := by
            unfold kindsOf shp
            simp [Ne.symm h1, Ne.symm h2, Ne.symm h3]
          rw [e, if_pos rfl]
          show (if f0 = wDown then _ else if f0 = wRoot ∨ f0 = wUp then _ else _) = _
          rw [if_neg h1, if_neg (by rintro (z | z) <;> contradiction)]
  · show lineC (f0 :: rest) = _
    by_cases h1 : f0 = wGiven
    · subst h1
      have e : kindsOf (shp true) wGiven = [false] := by decide
      rw [e]; rfl
    · by_cases h2 : f0 = wPut
      · subst h2
        have e : kindsOf (shp true) wPut = k5 := by decide
        rw [e]; rfl
      · have e : kindsOf (shp true) f0 = [] := by
          unfold kindsOf shp
          simp [Ne.symm h1, Ne.symm h2]
        rw [e, if_pos rfl]
        show (if f0 = wGiven then _ else if f0 = wPut then _ else _) = _
        rw [if_neg h1, if_neg h2]
theorem kinds_len (chain : Bool) (f0 : List Nat) : kindsOf (shp chain) f0 = [] ∨ (chain = false → ((f0 = wDown → (kindsOf (shp chain) f0).length = 3) ∧ (f0 ≠ wDown → (kindsOf (shp chain) f0).length = 2))) := by
  cases chain
  · by_cases h1 : f0 = wDown
    · subst h1; right; intro _; exact ⟨fun _ => by decide, fun h => absurd rfl h⟩
    · by_cases h2 : f0 = wRoot
      · subst h2; right; intro _; exact ⟨fun h => absurd h (by decide), fun _ => by decide⟩
      · by_cases h3 : f0 = wUp
        · subst h3; right; intro _; exact ⟨fun h => absurd h (by decide), fun _ => by decide⟩
        · left
          unfold kindsOf shp
          simp [Ne.symm h1, Ne.symm h2, Ne.symm h3]
  · right; intro h; cases h
theorem ix_t0 {d : D} {ds : List D} {s : Store} : fIx (.tup (d :: ds)) (.int 0) s = .ok d s := by
  show (match atI (d :: ds) ((0 : Nat) : Int) with | some d => Out.ok d s | none => .no) = _
  rw [atI_k]; rfl
def tailDue : MS := (kSeq (kIf (mB (mBin fEq (mVar 0) (mC (.str "")))) (kRet (mTup (mCons (mC (.str "told")) (mCons (mTup mNil) mNil)))) kSkip)
  (kSeq (kSet 3 (mLst mNil))
  (kSeq (kSet 4 (mM fSplit (mRecv "str" (mVar 0)) (mCons (mC (.str "\n")) mNil)))
  (kSeq (kFor (iRng1 (mCons (mFn fLen (mCons (mVar 4) mNil)) mNil)) (gN 5) (kSeq (kSet 6 (mCall m_law_fields (mCons (mBin fIx (mVar 4) (mVar 5)) (mCons (mVar 2) mNil))))
  (kSeq (kIf (mB (mBin fIsN (mBin fIx (mVar 6) (mC (.int 0))) (mC .non))) (kRet (mTup (mCons (mC (.str "fault")) (mCons (mVar 5) (mCons (mBin fIx (mVar 6) (mC (.int 1))) mNil))))) kSkip)
  (kSeq (kSet 7 (mBin fIx (mVar 6) (mC (.int 0))))
  (kSeq (kIf (mAndT (mNotT (mTru (mVar 1))) (mB (mBin fEq (mBin fIx (mVar 7) (mC (.int 0))) (mC (.str "down"))))) (kSet 7 (mTup (mCons (mBin fIx (mVar 7) (mC (.int 0))) (mCons (mBin fIx (mVar 7) (mC (.int 2))) (mCons (mBin fIx (mVar 7) (mC (.int 3))) (mCons (mBin fIx (mVar 7) (mC (.int 1))) mNil)))))) (kIf (mNotT (mTru (mVar 1))) (kSet 7 (mTup (mCons (mBin fIx (mVar 7) (mC (.int 0))) (mCons (mBin fIx (mVar 7) (mC (.int 1))) (mCons (mBin fIx (mVar 7) (mC (.int 2))) (mCons (mC (.int 0)) mNil)))))) kSkip))
  (kExpr (mM fAppend (mRecv "list" (mVar 3)) (mCons (mVar 7) mNil))))))))
  (kRet (mTup (mCons (mC (.str "told")) (mCons (mFn fTuple (mCons (mVar 3) mNil)) mNil))))))))
theorem due_tail {chain : Bool} {SH : Nat} {s0 : Store} (hsh : s0[SH]? = some (.lst (shapesD (shp chain)))) (fr0 : Fr [] st s0) (ha : Asc l) (hl : l.length ≤ 100000) :
    wpS (tailDue [some (.str (S l)), some (.bl chain), some (.ref SH), none, none, none, none, none] s0) (fun _ _ => False) (fun d s => d = dueD chain l ∧ Fr [] st s) (fun _ _ _ _ => False) := by
  unfold tailDue
  refine s_seq (s_if (b := decide (l = [])) (st' := s0) (fun K E k => by simp; exact k) (fun hb => ?_) fun hb => s_skip ?_)
  · have hb := of_decide_eq_true hb
    refine s_ret (v := .tup [.str (S [116, 111, 108, 100]), .tup []]) (st' := s0) (fun K E k => by simp; exact k) ⟨?_, fr0⟩
    unfold dueD linesOf; rw [if_pos hb]; rfl
  have hne := of_decide_eq_false hb
  refine s_seq (s_set (v := .ref s0.length) (st' := s0 ++ [.lst []]) (fun K E k => by simp; exact k) ?_)
  have esp := split_ok (st := s0 ++ [Ob.lst []]) (l := l) (c := 10) (by decide) (by omega)
  have hlen1 : (s0 ++ [Ob.lst []]).length = s0.length + 1 := by simp
  rw [hlen1] at esp
  refine s_seq (s_set (v := .ref (s0.length + 1)) (st' := s0 ++ [.lst []] ++ [.lst (sL (spl1 10 l))]) (fun K E k => by simp [esp] at k ⊢; exact k) ?_)
  have hR : (s0 ++ [Ob.lst []] ++ [.lst (sL (spl1 10 l))])[s0.length]? = some (.lst []) := app_at app_new
  have hL : (s0 ++ [Ob.lst []] ++ [.lst (sL (spl1 10 l))])[s0.length + 1]? = some (.lst (sL (spl1 10 l))) := by simp
  have hS1 : (s0 ++ [Ob.lst []] ++ [.lst (sL (spl1 10 l))])[SH]? = some (.lst (shapesD (shp chain))) := app_at (app_at hsh)
  have fr1 : Fr [] s0 (s0 ++ [Ob.lst []] ++ [.lst (sL (spl1 10 l))]) := Fr.refl.app.app
  have hSHl := (List.getElem?_eq_some_iff.mp hsh).1
  have els : linesOf l = spl1 10 l := by unfold linesOf; rw [if_neg hne]
  rw [← els] at hR hL hS1 fr1 ⊢
  generalize s0 ++ [Ob.lst []] ++ [.lst (sL (linesOf l))] = s1 at *
  have hsubl := fun (p : List Nat) (h : p ∈ linesOf l) => lines_sub h
  have hcnt := lines_cnt l
  have edue : dueD chain l = dueOf (rows (lineX chain) (linesOf l) 0) := rfl
  rw [edue]
  generalize linesOf l = ls at *
  have eLs := lenL hL
  rw [sL_len] at eLs
  refine s_seq (s_for (src := sItems (rng 0 ls.length)) (st' := s1) (rng 0 ls.length) (fun i env s => ∃ (es : List D) (x5 x6 x7 : Option D), env = [some (.str (S l)), some (.bl chain), some (.ref SH), some (.ref s0.length), some (.ref (s0.length + 1)), x5, x6, x7] ∧ s[s0.length]? = some (.lst es) ∧ es.length = i ∧ s[s0.length + 1]? = some (.lst (sL ls)) ∧ s[SH]? = some (.lst (shapesD (shp chain))) ∧
    rows (lineX chain) ls 0 = preR es (rows (lineX chain) (ls.drop i) i) ∧ Fr [] s0 s) (ev_rng1 (Ev.eq fun K E k => by simp [eLs]; exact k) (by omega)) rfl ⟨[], none, none, none, rfl, hR, rfl, hL, hS1, ?_, fr1⟩ (fun _ _ _ _ => rfl) ?_ ?_)
  · rw [List.drop_zero]
    cases rows (lineX chain) ls 0 <;> rfl
  · rintro i d env s hd ⟨es, x5, x6, x7, rfl, hRs, hek, hLs, hSs, hrows, fr⟩
    obtain ⟨hi, rfl⟩ := rng_get hd
    have edk : ls.drop i = ls[i] :: ls.drop (i + 1) := List.drop_eq_getElem_cons hi
    obtain ⟨hsub, hlen⟩ := hsubl ls[i] (List.getElem_mem hi)
    have eil := ix_fs hLs (List.getElem?_eq_getElem hi)
    generalize ls[i] = row at *
    have hga : Asc row := fun c hc => ha c (hsub c hc)
    obtain ⟨f0, rest, ef⟩ := List.exists_cons_of_ne_nil (spl1_ne 32 row)
    obtain ⟨s2, e2, fr2⟩ := lfields_eq (st := s) (SH := SH) hSs hga (by omega) ef (shp_ok chain)
    have hR2 := fr2.get hRs (by simp)
    have hL2 := fr2.get hLs (by simp)
    have hS2 := fr2.get hSs (by simp)
    have frs : Fr [] st s2 := fr0.trans (fr.trans fr2)
    have eX := lineX_eq chain f0 rest
    have erow : rows (lineX chain) (row :: ls.drop (i + 1)) i = match lineX chain (spl1 32 row) with
        | .inl j => .inl (i, j)
        | .inr d => match rows (lineX chain) (ls.drop (i + 1)) (i + 1) with
          | .inl e => .inl e
          | .inr ds => .inr (d :: ds) := rfl
    rw [ef] at erow
    have hkl := kinds_len chain f0
    rw [Int.zero_add] at hd ⊢
    refine ⟨_, rfl, ?_⟩
    refine s_seq (s_set (v := lawF (kindsOf (shp chain) f0) f0 rest) (st' := s2) (fun K E k => ?_) ?_)
    · simp only [wp_mCall, wp_mCons, wp_mBin, wp_mVar, wp_mNil, List.getElem?_cons_zero, List.getElem?_cons_succ, List.set_cons_succ, List.set_cons_zero, eil, wp_ok, e2]
      exact k
    unfold lawF
    generalize kindsOf (shp chain) f0 = ks at *
    have faulty : ∀ j : Nat, lineX chain (f0 :: rest) = .inl j → wpS ((kSeq (kIf (mB (mBin fIsN (mBin fIx (mVar 6) (mC (.int 0))) (mC .non))) (kRet (mTup (mCons (mC (.str "fault")) (mCons (mVar 5) (mCons (mBin fIx (mVar 6) (mC (.int 1))) mNil))))) kSkip)
  (kSeq (kSet 7 (mBin fIx (mVar 6) (mC (.int 0))))
  (kSeq (kIf (mAndT (mNotT (mTru (mVar 1))) (mB (mBin fEq (mBin fIx (mVar 7) (mC (.int 0))) (mC (.str "down"))))) (kSet 7 (mTup (mCons (mBin fIx (mVar 7) (mC (.int 0))) (mCons (mBin fIx (mVar 7) (mC (.int 2))) (mCons (mBin fIx (mVar 7) (mC (.int 3))) (mCons (mBin fIx (mVar 7) (mC (.int 1))) mNil)))))) (kIf (mNotT (mTru (mVar 1))) (kSet 7 (mTup (mCons (mBin fIx (mVar 7) (mC (.int 0))) (mCons (mBin fIx (mVar 7) (mC (.int 1))) (mCons (mBin fIx (mVar 7) (mC (.int 2))) (mCons (mC (.int 0)) mNil)))))) kSkip))
  (kExpr (mM fAppend (mRecv "list" (mVar 3)) (mCons (mVar 7) mNil)))))) [some (.str (S l)), some (.bl chain), some (.ref SH), some (.ref s0.length), some (.ref (s0.length + 1)), some (.int (i : Nat)), some (.tup [.non, .int (j : Nat)]), x7] s2)
        (fun env s => ∃ (es : List D) (x5 x6 x7 : Option D), env = [some (.str (S l)), some (.bl chain), some (.ref SH), some (.ref s0.length), some (.ref (s0.length + 1)), x5, x6, x7] ∧ s[s0.length]? = some (.lst es) ∧ es.length = i + 1 ∧ s[s0.length + 1]? = some (.lst (sL ls)) ∧ s[SH]? = some (.lst (shapesD (shp chain))) ∧
    rows (lineX chain) ls 0 = preR es (rows (lineX chain) (ls.drop (i + 1)) (i + 1)) ∧ Fr [] s0 s) (fun d s => d = dueOf (rows (lineX chain) ls 0) ∧ Fr [] st s) (fun _ _ _ _ => False) := by
      intro j hj
      have i0 : fIx (.tup [.non, .int (j : Nat)]) (.int 0) s2 = .ok .non s2 := rfl
      have i1 : fIx (.tup [.non, .int (j : Nat)]) (.int 1) s2 = .ok (.int (j : Nat)) s2 := rfl
      refine s_seq (s_if (b := true) (st' := s2) (fun K E k => by simp [i0, isN]; exact k) (fun _ => ?_) (fun h => by cases h))
      refine s_ret (v := .tup [.str (S [102, 97, 117, 108, 116]), .int (i : Nat), .int (j : Nat)]) (st' := s2) (fun K E k => by simp [i1]; exact k) ⟨?_, frs⟩
      rw [hrows, edk, erow, hj]; rfl
    by_cases hks : ks = []
    · rw [if_pos hks] at eX ⊢
      exact faulty 0 eX
    · rw [if_neg hks] at eX ⊢
      cases he : ents ks rest 1 with
      | inl j =>
        rw [he] at eX
        exact faulty j eX
      | inr ds =>
        rw [he] at eX
        have hdl := ents_len _ _ _ _ he
        dsimp only at eX ⊢
        have i0 : fIx (.tup [.tup (.str (S f0) :: ds), .int (-1)]) (.int 0) s2 = .ok (.tup (.str (S f0) :: ds)) s2 := rfl
        refine s_seq (s_if (b := false) (st' := s2) (fun K E k => by simp [i0, isN]; exact k) (fun h => by cases h) fun _ => s_skip ?_)
        refine s_seq (s_set (v := .tup (.str (S f0) :: ds)) (st' := s2) (fun K E k => by simp [i0]; exact k) ?_)
        have fin : ∀ x : Option D, x = some (arr chain f0 ds) → wpS (kExpr (mM fAppend (mRecv "list" (mVar 3)) (mCons (mVar 7) mNil)) [some (.str (S l)), some (.bl chain), some (.ref SH), some (.ref s0.length), some (.ref (s0.length + 1)), some (.int (i : Nat)), some (.tup [.tup (.str (S f0) :: ds), .int (-1)]), x] s2)
            (fun env s => ∃ (es : List D) (x5 x6 x7 : Option D), env = [some (.str (S l)), some (.bl chain), some (.ref SH), some (.ref s0.length), some (.ref (s0.length + 1)), x5, x6, x7] ∧ s[s0.length]? = some (.lst es) ∧ es.length = i + 1 ∧ s[s0.length + 1]? = some (.lst (sL ls)) ∧ s[SH]? = some (.lst (shapesD (shp chain))) ∧
    rows (lineX chain) ls 0 = preR es (rows (lineX chain) (ls.drop (i + 1)) (i + 1)) ∧ Fr [] s0 s) (fun d s => d = dueOf (rows (lineX chain) ls 0) ∧ Fr [] st s) (fun _ _ _ _ => False) := by
          rintro x rfl
          have ea := f_append (y := arr chain f0 ds) hR2 (show es.length < 1000000 by omega)
          refine s_expr (v := .non) (st' := s2.set s0.length (.lst (es ++ [arr chain f0 ds]))) (fun K E k => by simp [rec_l hR2, ea]; exact k) ⟨es ++ [arr chain f0 ds], _, _, _, rfl, set_at hR2, by simp [hek], by rw [set_no (by omega)]; exact hL2, by rw [set_no (by omega)]; exact hS2, ?_, (fr.trans fr2).set (.inl (Nat.le_refl _))⟩
          rw [hrows, edk, erow, eX]
          cases rows (lineX chain) (ls.drop (i + 1)) (i + 1) with
          | inl e => rfl
          | inr ds => show Sum.inr _ = Sum.inr _; congr 1; simp
        have j0 := ix_t0 (d := D.str (S f0)) (ds := ds) (s := s2)
        cases chain with
        | true =>
          refine s_seq (s_if (b := false) (st' := s2) (fun K E k => by simp; exact k) (fun h => by cases h) fun _ => ?_)
          refine s_if (b := false) (st' := s2) (fun K E k => by simp; exact k) (fun h => by cases h) fun _ => s_skip ?_
          exact fin _ rfl
        | false =>
          rcases hkl with hkl | hkl
          · exact absurd hkl hks
          obtain ⟨hk1, hk2⟩ := hkl rfl
          refine s_seq (s_if (b := decide (f0 = wDown)) (st' := s2) (fun K E k => by simp [show atI (D.str (S f0) :: ds) 0 = some (D.str (S f0)) from atI_k (k := 0)]; exact k) (fun hb => ?_) fun hb => ?_)
          · have hb := of_decide_eq_true hb
            rw [hk1 hb] at hdl
            match ds, hdl with
            | [p, t, o], _ =>
              have j1 : fIx (.tup [.str (S f0), p, t, o]) (.int 1) s2 = .ok p s2 := rfl
              have j2 : fIx (.tup [.str (S f0), p, t, o]) (.int 2) s2 = .ok t s2 := rfl
              have j3 : fIx (.tup [.str (S f0), p, t, o]) (.int 3) s2 = .ok o s2 := rfl
              refine s_set (v := .tup [.str (S f0), t, o, p]) (st' := s2) (fun K E k => by simp [j0, j1, j2, j3]; exact k) ?_
              refine fin _ ?_
              unfold arr
              rw [if_neg (by simp), if_pos hb]; rfl
          · have hb := of_decide_eq_false hb
            rw [hk2 hb] at hdl
            match ds, hdl with
            | [t, o], _ =>
              have j1 : fIx (.tup [.str (S f0), t, o]) (.int 1) s2 = .ok t s2 := rfl
              have j2 : fIx (.tup [.str (S f0), t, o]) (.int 2) s2 = .ok o s2 := rfl
              refine s_if (b := true) (st' := s2) (fun K E k => by simp; exact k) (fun _ => ?_) (fun h => by cases h)
              refine s_set (v := .tup [.str (S f0), t, o, .int 0]) (st' := s2) (fun K E k => by simp [j0, j1, j2]; exact k) ?_
              refine fin _ ?_
              unfold arr
              rw [if_neg (by simp), if_neg hb]; rfl
  · rintro env s ⟨es, x5, x6, x7, rfl, hRs, hek, hLs, hSs, hrows, fr⟩
    rw [rng_len, List.drop_length] at hrows
    have et : fTuple [.ref s0.length] s = .ok (.tup es) s := by unfold fTuple; simp only [items_l hRs]
    refine s_ret (v := .tup [.str (S [116, 111, 108, 100]), .tup es]) (st' := s) (fun K E k => by simp [et]; exact k) ⟨?_, fr0.trans fr⟩
    rw [hrows]
    show _ = dueOf (.inr (es ++ []))
    rw [List.append_nil]; rfl
theorem due_eq {chain : Bool} (ha : Asc l) (hl : l.length ≤ 100000) : ∃ st', m_law_due [.str (S l), .bl chain] st = .ok (dueD chain l) st' ∧ Fr [] st st' := by
  have key : wp (m_law_due [.str (S l), .bl chain] st) (fun d s => d = dueD chain l ∧ Fr [] st s) fun _ _ _ => False := by
    refine wp_def (show wpS (b_law_due [some (.str (S l)), some (.bl chain), none, none, none, none, none, none] st) _ _ _ from ?_)
    refine s_seq (s_set (v := .ref st.length) (st' := st ++ [.lst (shapesD (shp false))]) (fun K E k => by simp; exact k) ?_)
    refine s_seq (s_if (b := chain) (st' := st ++ [.lst (shapesD (shp false))]) (fun K E k => by simp; exact k) (fun hb => ?_) fun hb => s_skip ?_)
    · subst hb
      refine s_set (v := .ref (st ++ [Ob.lst (shapesD (shp false))]).length) (st' := st ++ [.lst (shapesD (shp false))] ++ [.lst (shapesD (shp true))]) (fun K E k => by simp at k ⊢; exact k) ?_
      exact wpS_mono (due_tail (chain := true) app_new Fr.refl.app.app ha hl) (fun _ _ h => h.elim) (fun _ _ h => h) (fun _ _ _ _ h => h)
    · subst hb
      exact wpS_mono (due_tail (chain := false) app_new Fr.refl.app ha hl) (fun _ _ h => h.elim) (fun _ _ h => h) (fun _ _ _ _ h => h)
  obtain ⟨d, s, e, rfl, fr⟩ := wp_get key
  exact ⟨s, e, fr⟩
end K65
/-! ## Sp18 -/
set_option Elab.async false
set_option linter.all false
set_option maxRecDepth 100000
set_option maxHeartbeats 4000000
namespace K65
open PySem L2 SX Mi
variable {st : Store} {l a : List Nat} {c : Nat}
def pureD : Nat → D → Prop
  | _, .non => True
  | _, .bl _ => True
  | _, .int _ => True
  | _, .str _ => True
  | n + 1, .tup ds => ds.length ≤ 1000000 ∧ ∀ d ∈ ds, pureD n d
  | _, _ => False
theorem kb1 : kitB "int" "int" = some true := by decide +kernel
theorem kb2 : kitB "int" "bool" = some false := by decide +kernel
theorem kb3 : kitB "bool" "bool" = some true := by decide +kernel
theorem kb4 : kitB "str" "int" = some false := by decide +kernel
theorem kb5 : kitB "str" "str" = some true := by decide +kernel
theorem kb6 : kitB "tuple" "int" = some false := by decide +kernel
theorem kb7 : kitB "tuple" "str" = some false := by decide +kernel
theorem kb8 : kitB "tuple" "tuple" = some true := by decide +kernel
theorem isi_of {d : D} {T U : String} {b : Bool} (h : tyD st d = some U) (h2 : kitB U T = some b) : fIsi [d, .ty T] st = .ok (.bl b) st := by
  unfold fIsi
  simp only [h, h2]
theorem feq_s {x : Str} : fEq (.str x) (.str x) st = .ok (.bl true) st := by
  show Out.ok (D.bl (decide (x = x))) st = _
  simp
theorem same_eq : ∀ (n : Nat) (d : D) (st : Store), pureD n d → m_law_same (n + 1) [d, d] st = .ok (.bl true) st
  | n, .non, st, h => by
    refine wp_ok_eq (wp_def (show wpS (b_law_same (m_law_same n) [some .non, some .non, none] st) _ _ _ from ?_))
    refine s_seq (s_if (b := true) (st' := st) (fun K E k => by simp [isN]; exact k) (fun _ => ?_) (fun h => by cases h))
    exact s_ret (v := .bl true) (st' := st) (fun K E k => by simp [isN]; exact k) ⟨rfl, rfl⟩
  | n, .bl b, st, h => by
    refine wp_ok_eq (wp_def (show wpS (b_law_same (m_law_same n) [some (.bl b), some (.bl b), none] st) _ _ _ from ?_))
    refine s_seq (s_if (b := false) (st' := st) (fun K E k => by simp [isN]; exact k) (fun h => by cases h) fun _ => s_skip ?_)
    refine s_seq (s_if (b := true) (st' := st) (fun K E k => by cases b <;> simp [isB] <;> exact k) (fun _ => ?_) (fun h => by cases h))
    exact s_ret (v := .bl true) (st' := st) (fun K E k => by simp [isi_of (st := st) (d := .bl b) rfl kb3]; exact k) ⟨rfl, rfl⟩
  | n, .int i, st, h => by
    refine wp_ok_eq (wp_def (show wpS (b_law_same (m_law_same n) [some (.int i), some (.int i), none] st) _ _ _ from ?_))
    refine s_seq (s_if (b := false) (st' := st) (fun K E k => by simp [isN]; exact k) (fun h => by cases h) fun _ => s_skip ?_)
    refine s_seq (s_if (b := false) (st' := st) (fun K E k => by simp [isB]; exact k) (fun h => by cases h) fun _ => s_skip ?_)
    refine s_seq (s_if (b := true) (st' := st) (fun K E k => by simp [isi_of (st := st) (d := .int i) rfl kb1]; exact k) (fun _ => ?_) (fun h => by cases h))
    exact s_ret (v := .bl true) (st' := st) (fun K E k => by simp [isi_of (st := st) (d := .int i) rfl kb1, isi_of (st := st) (d := .int i) rfl kb2]; exact k) ⟨rfl, rfl⟩
  | n, .str x, st, h => by
    refine wp_ok_eq (wp_def (show wpS (b_law_same (m_law_same n) [some (.str x), some (.str x), none] st) _ _ _ from ?_))
    refine s_seq (s_if (b := false) (st' := st) (fun K E k => by simp [isN]; exact k) (fun h => by cases h) fun _ => s_skip ?_)
    refine s_seq (s_if (b := false) (st' := st) (fun K E k => by simp [isB]; exact k) (fun h => by cases h) fun _ => s_skip ?_)
    refine s_seq (s_if (b := false) (st' := st) (fun K E k => by simp [isi_of (st := st) (d := .str x) rfl kb4]; exact k) (fun h => by cases h) fun _ => s_skip ?_)
    refine s_seq (s_if (b := true) (st' := st) (fun K E k => by simp [isi_of (st := st) (d := .str x) rfl kb5]; exact k) (fun _ => ?_) (fun h => by cases h))
    exact s_ret (v := .bl true) (st' := st) (fun K E k => by simp [isi_of (st := st) (d := .str x) rfl kb5, feq_s]; exact k) ⟨rfl, rfl⟩
  | 0, .tup ds, st, h => h.elim
  | n + 1, .tup ds, st, h => by
    obtain ⟨hl, hd⟩ := h
    refine wp_ok_eq (wp_def (show wpS (b_law_same (m_law_same (n + 1)) [some (.tup ds), some (.tup ds), none] st) _ _ _ from ?_))
    refine s_seq (s_if (b := false) (st' := st) (fun K E k => by simp [isN]; exact k) (fun h => by cases h) fun _ => s_skip ?_)
    refine s_seq (s_if (b := false) (st' := st) (fun K E k => by simp [isB]; exact k) (fun h => by cases h) fun _ => s_skip ?_)
    refine s_seq (s_if (b := false) (st' := st) (fun K E k => by simp [isi_of (st := st) (d := .tup ds) rfl kb6]; exact k) (fun h => by cases h) fun _ => s_skip ?_)
    refine s_seq (s_if (b := false) (st' := st) (fun K E k => by simp [isi_of (st := st) (d := .tup ds) rfl kb7]; exact k) (fun h => by cases h) fun _ => s_skip ?_)
    refine s_seq (s_if (b := true) (st' := st) (fun K E k => by simp [isi_of (st := st) (d := .tup ds) rfl kb8]; exact k) (fun _ => ?_) (fun h => by cases h))
    refine s_seq (s_if (b := false) (st' := st) (fun K E k => by simp [isi_of (st := st) (d := .tup ds) rfl kb8]; exact k) (fun h => by cases h) fun _ => s_skip ?_)
    refine s_seq (s_for (src := sItems (rng 0 ds.length)) (st' := st) (rng 0 ds.length) (fun k env s => s = st ∧ ∃ x, env = [some (.tup ds), some (.tup ds), x]) (ev_rng1 (Ev.eq fun K E k => by simp; exact k) (by omega)) rfl ⟨rfl, none, rfl⟩ (fun _ _ _ _ => rfl) ?_ ?_)
    · rintro k d env s hd' ⟨rfl, x, rfl⟩
      obtain ⟨hk, rfl⟩ := rng_get hd'
      refine ⟨_, rfl, ?_⟩
      rw [Int.zero_add]
      have e : fIx (.tup ds) (.int (k : Nat)) s = .ok ds[k] s := by
        show (match atI ds ((k : Nat) : Int) with | some d => Out.ok d s | none => .no) = _
        rw [atI_k, List.getElem?_eq_getElem hk]
      have es := same_eq n ds[k] s (hd _ (List.getElem_mem hk))
      refine s_if (b := false) (st' := s) (fun K E k' => ?_) (fun h => by cases h) fun _ => s_skip ⟨rfl, _, rfl⟩
      simp only [wp_mNotT, wp_mTru, wp_mCall, wp_mCons, wp_mBin, wp_mVar, wp_mNil, List.getElem?_cons_zero, List.getElem?_cons_succ, List.set_cons_succ, List.set_cons_zero, e, wp_ok, es, wp_tru, tru_b]
      exact k'
    · rintro env s ⟨rfl, x, rfl⟩
      exact s_ret (v := .bl true) (st' := s) (fun K E k => by simp; exact k) ⟨rfl, rfl⟩
  | 0, .ref _, _, h => h.elim
  | _ + 1, .ref _, _, h => h.elim
  | 0, .ty _, _, h => h.elim
  | _ + 1, .ty _, _, h => h.elim
  | 0, .fl _, _, h => h.elim
  | _ + 1, .fl _, _, h => h.elim
/-! what is due is plain data -/
theorem pure_mono : ∀ (n m : Nat) (d : D), n ≤ m → pureD n d → pureD m d
  | _, _, .non, _, _ => by unfold pureD; trivial
  | _, _, .bl _, _, _ => by unfold pureD; trivial
  | _, _, .int _, _, _ => by unfold pureD; trivial
  | _, _, .str _, _, _ => by unfold pureD; trivial
  | 0, _, .tup _, _, h => h.elim
  | n + 1, 0, .tup _, hm, _ => absurd hm (Nat.not_succ_le_zero _)
  | n + 1, m + 1, .tup ds, hm, h => ⟨h.1, fun d hd => pure_mono n m d (Nat.le_of_succ_le_succ hm) (h.2 d hd)⟩
  | 0, _, .ref _, _, h => h.elim
  | _ + 1, _, .ref _, _, h => h.elim
  | 0, _, .ty _, _, h => h.elim
  | _ + 1, _, .ty _, _, h => h.elim
  | 0, _, .fl _, _, h => h.elim
  | _ + 1, _, .fl _, _, h => h.elim
theorem pure_row {row : List (List Nat × Nat)} (h : row.length ≤ 1000000) : pureD 2 (.tup (rowD row)) := by
  refine ⟨by simpa using h, fun d hd => ?_⟩
  unfold rowD at hd
  obtain ⟨p, _, rfl⟩ := List.mem_map.mp hd
  refine ⟨by simp, fun d hd => ?_⟩
  simp at hd
  rcases hd with rfl | rfl <;> trivial
theorem pure_ent {b : Bool} {f : List Nat} (hf : f.length ≤ 100000) : pureD 2 (entD b f) := by
  cases b
  · show pureD 2 (lrD (lawRead f))
    cases h : lawRead f with
    | none => trivial
    | some row =>
      obtain ⟨_, _, _, h4⟩ := lread_bounds h
      exact pure_row (by omega)
  · show pureD 2 (numD f)
    unfold numD
    split <;> trivial
theorem pure_ents : ∀ (ks : List Bool) (fs : List (List Nat)) (k : Nat) (ds : List D), Good fs → ents ks fs k = .inr ds → ∀ d ∈ ds, pureD 2 d
  | [], [], k, ds, _, h => by cases h; intro d hd; cases hd
  | [], _ :: _, k, ds, _, h => by cases h
  | _ :: _, [], k, ds, _, h => by cases h
  | b :: ks, w :: fs, k, ds, hg, h => by
    rw [ents_cons] at h
    split at h
    · cases h
    · split at h
      · cases h
      · rename_i ds' e
        cases h
        intro d hd
        rcases List.mem_cons.mp hd with rfl | hd
        · exact pure_ent (hg w List.mem_cons_self).2
        · exact pure_ents ks fs (k + 1) ds' (fun f hf => hg f (List.mem_cons_of_mem _ hf)) e d hd
theorem pure_line {chain : Bool} {fs : List (List Nat)} {d : D} (hg : Good fs) (h : lineX chain fs = .inr d) : pureD 3 d := by
  cases fs with
  | nil => cases chain <;> cases h
  | cons f0 rest =>
    rw [lineX_eq] at h
    split at h
    · cases h
    · split at h
      · cases h
      · rename_i ds e
        cases h
        have hp := pure_ents _ _ _ _ (fun f hf => hg f (List.mem_cons_of_mem _ hf)) e
        have hl := ents_len _ _ _ _ e
        have hkl : (kindsOf (shp chain) f0).length ≤ 10 := by
          cases chain
          · rcases kinds_len false f0 with q | q
            · rw [q]; decide
            · by_cases z : f0 = wDown
              · rw [(q rfl).1 z]; decide
              · rw [(q rfl).2 z]; decide
          · unfold kindsOf shp
            simp only [if_true, List.foldl_cons, List.foldl_nil]
            (repeat' split) <;> decide
        have hget : ∀ i, pureD 2 (ds.getD i .non) := fun i => by
          rw [List.getD_eq_getElem?_getD]
          cases q : ds[i]? with
          | none => trivial
          | some d => exact hp d (List.mem_of_getElem? q)
        unfold arr
        split
        · exact ⟨by simp; omega, fun d hd => by
            rcases List.mem_cons.mp hd with rfl | hd
            · trivial
            · exact hp d hd⟩
        · split
          · exact ⟨by simp, fun d hd => by
              simp only [List.mem_cons, List.not_mem_nil, or_false] at hd
              rcases hd with rfl | rfl | rfl | rfl
              · trivial
              all_goals exact hget _⟩
          · exact ⟨by simp, fun d hd => by
              simp only [List.mem_cons, List.not_mem_nil, or_false] at hd
              rcases hd with rfl | rfl | rfl | rfl
              · trivial
              · exact hget _
              · exact hget _
              · trivial⟩
theorem pure_rows {chain : Bool} : ∀ (ls : List (List Nat)) (k : Nat) (ds : List D), (∀ r ∈ ls, Asc r ∧ r.length ≤ 100000) → rows (lineX chain) ls k = .inr ds → ds.length = ls.length ∧ ∀ d ∈ ds, pureD 3 d
  | [], k, ds, _, h => by cases h; exact ⟨rfl, fun d hd => by cases hd⟩
  | r :: ls, k, ds, hr, h => by
    rw [rows] at h
    split at h
    · cases h
    · rename_i d e
      split at h
      · cases h
      · rename_i ds' e'
        cases h
        obtain ⟨h1, h2⟩ := pure_rows ls (k + 1) ds' (fun q hq => hr q (List.mem_cons_of_mem _ hq)) e'
        obtain ⟨g1, g2⟩ := hr r List.mem_cons_self
        refine ⟨by simp [h1], fun d' hd => ?_⟩
        rcases List.mem_cons.mp hd with rfl | hd
        · exact pure_line (good_fields g1 g2) e
        · exact h2 d' hd
theorem good_lines (ha : Asc l) (hl : l.length ≤ 100000) : ∀ r ∈ linesOf l, Asc r ∧ r.length ≤ 100000 := fun r hr => by
  obtain ⟨h1, h2⟩ := lines_sub hr
  exact ⟨fun c hc => ha c (h1 c hc), by omega⟩
theorem pure_due {chain : Bool} (ha : Asc l) (hl : l.length ≤ 100000) : pureD 5 (dueD chain l) := by
  unfold dueD dueOf
  cases h : rows (lineX chain) (linesOf l) 0 with
  | inl e =>
    obtain ⟨k, j⟩ := e
    refine ⟨by simp, fun d hd => ?_⟩
    simp at hd
    rcases hd with rfl | rfl | rfl <;> trivial
  | inr ds =>
    obtain ⟨h1, h2⟩ := pure_rows _ _ _ (good_lines ha hl) h
    have := lines_cnt l
    refine ⟨by simp, fun d hd => ?_⟩
    simp only [List.mem_cons, List.not_mem_nil, or_false] at hd
    rcases hd with rfl | rfl
    · trivial
    · exact ⟨by omega, fun d hd => h2 d hd⟩
end K65
/-! ## Sp19 -/
set_option Elab.async false
set_option linter.all false
set_option maxRecDepth 100000
set_option maxHeartbeats 4000000
namespace K65
open PySem L2 SX Mi
variable {st : Store} {l a : List Nat} {c : Nat}
theorem dval_lt : ∀ (w : List Nat), (∀ c ∈ w, c ∈ DIG) → ∀ a : Nat, w.foldl (fun acc c => acc * 10 + (c - 48)) a < (a + 1) * 10 ^ w.length
  | [], _, a => by simp
  | c :: w, h, a => by
    rw [List.foldl_cons]
    have hc := h c List.mem_cons_self
    have hc9 : c - 48 ≤ 9 := by
      unfold DIG at hc; simp at hc; omega
    refine Nat.lt_of_lt_of_le (dval_lt w (fun d hd => h d (List.mem_cons_of_mem _ hd)) _) ?_
    rw [List.length_cons, Nat.pow_succ, Nat.mul_comm (10 ^ w.length) 10, ← Nat.mul_assoc]
    exact Nat.mul_le_mul_right _ (by omega)
theorem figs_str {w : List Nat} (h : figs w = true) : fStr [numD w] st = .ok (.str (S w)) st := by
  obtain ⟨h1, h2, h3, h4, h5⟩ := figs_int h
  have hn : numD w = .int ((NumText.digitsVal w : Nat) : Int) := by unfold numD; rw [if_pos h]
  rw [hn]
  have hlt : NumText.digitsVal w < 2 ^ 200 := by
    have q := dval_lt w h4 0
    have : 10 ^ w.length ≤ 10 ^ 60 := Nat.pow_le_pow_right (by decide) h2
    have : (10 : Nat) ^ 60 < 2 ^ 200 := by decide +kernel
    unfold NumText.digitsVal
    omega
  have hlog : (((NumText.digitsVal w : Nat) : Int)).natAbs.log2 < 1920 := by
    rw [Int.natAbs_natCast]
    by_cases z : NumText.digitsVal w = 0
    · rw [z]; decide
    · rw [Nat.log2_lt z]
      exact Nat.lt_of_lt_of_le hlt (Nat.pow_le_pow_right (by decide) (by decide))
  show (if _ then _ else _) = _
  rw [if_pos hlog]
  have e := num_S (NumText.digitsVal w)
  show Out.ok (D.str (Str.ofString (toString ((NumText.digitsVal w : Nat) : Int)))) st = _
  rw [e]
  have had : NumText.AllDigits w := fun c hc => by
    have := h4 c hc
    unfold DIG at this; simp at this; omega
  have ed := NumText.toDigits_digitsVal (w.length - 1) w (by omega) had (by
    cases w with
    | nil => simp at h3
    | cons c w =>
      by_cases hc : c = 48
      · left
        subst hc
        have := h5 rfl
        simp at this ⊢
        simp [this]
      · right
        refine ⟨c, w, rfl, ?_⟩
        have := had c List.mem_cons_self
        omega)
  have en : TL.numL (NumText.digitsVal w) = w := by
    unfold TL.numL
    rw [ed, List.map_map]
    have hcc : ∀ c : Nat, c < 128 → (Char.ofNat c).toNat = c := by decide
    have : ∀ (w : List Nat), (∀ c ∈ w, c ∈ DIG) → w.map (Char.toNat ∘ Char.ofNat) = w := by
      intro w
      induction w with
      | nil => intro _; rfl
      | cons c w ih =>
        intro h
        have hc := h c List.mem_cons_self
        rw [List.map_cons, ih fun d hd => h d (List.mem_cons_of_mem _ hd)]
        show (Char.ofNat c).toNat :: w = _
        rw [hcc c (by unfold DIG at hc; simp at hc; omega)]
    exact this w h4
  rw [en]
theorem ents_inv0 {fs : List (List Nat)} {k : Nat} {ds : List D} (h : ents [] fs k = .inr ds) : fs = [] ∧ ds = [] := by
  cases fs with
  | nil => cases h; exact ⟨rfl, rfl⟩
  | cons _ _ => cases h
theorem ents_inv {b : Bool} {bs : List Bool} {fs : List (List Nat)} {k : Nat} {ds : List D} (h : ents (b :: bs) fs k = .inr ds) : ∃ f fs' ds', fs = f :: fs' ∧ ds = entD b f :: ds' ∧ isN (entD b f) = false ∧ ents bs fs' (k + 1) = .inr ds' := by
  cases fs with
  | nil => cases h
  | cons f fs =>
    rw [ents_cons] at h
    split at h
    · cases h
    · rename_i hn
      split at h
      · cases h
      · rename_i ds' e
        cases h
        exact ⟨f, fs, ds', rfl, rfl, by simpa using hn, e⟩
theorem shown_of {f : List Nat} (h : isN (entD false f) = false) (hf : f.length ≤ 4000) : ∃ st', m_shown [entD false f] st = .ok (.str (S f)) st' ∧ Fr [] st st' := by
  have e : entD false f = lrD (lawRead f) := rfl
  rw [e] at h ⊢
  cases hr : lawRead f with
  | none => rw [hr] at h; cases h
  | some row =>
    obtain ⟨h1, h2, h3, h4⟩ := lread_bounds hr
    exact shown_eq h1 h2 (by omega) (by omega)
theorem num_of {f : List Nat} (h : isN (entD true f) = false) : fStr [entD true f] st = .ok (.str (S f)) st := by
  refine figs_str ?_
  cases hf : figs f with
  | true => rfl
  | false =>
    have e : entD true f = numD f := rfl
    rw [e] at h
    unfold numD at h
    rw [hf] at h
    cases h
theorem tot_join (c : Nat) : ∀ ps : List (List Nat), tot ps + ps.length ≤ (TL.joinL [c] ps).length + 1
  | [] => by simp [tot]
  | [p] => by simp [tot, TL.joinL]
  | p :: q :: ps => by
    have e : TL.joinL [c] (p :: q :: ps) = p ++ ([c] ++ TL.joinL [c] (q :: ps)) := rfl
    have := tot_join c (q :: ps)
    rw [e]
    simp [tot] at this ⊢
    omega
theorem cline_eq {f0 : List Nat} {rest : List (List Nat)} {d : D} (h : lineC (f0 :: rest) = .inr d) (hl : (TL.joinL [32] (f0 :: rest)).length ≤ 4000) : ∃ st', m_chain_line [d] st = .ok (.str (S (TL.joinL [32] (f0 :: rest)))) st' ∧ Fr [] st st' := by
  have hsub := joinL_sub 32 (f0 :: rest)
  have htot := tot_join 32 (f0 :: rest)
  have key : wp (m_chain_line [d] st) (fun d s => d = .str (S (TL.joinL [32] (f0 :: rest))) ∧ Fr [] st s) fun _ _ _ => False := by
    refine wp_def (show wpS (b_chain_line [some d, none] st) _ _ _ from ?_)
    unfold lineC at h
    dsimp only at h
    by_cases h1 : f0 = wGiven
    · rw [if_pos h1] at h
      split at h
      · cases h
      · rename_i ds e
        cases h
        obtain ⟨f, fs', ds', rfl, rfl, hn, e2⟩ := ents_inv e
        obtain ⟨rfl, rfl⟩ := ents_inv0 e2
        have hfl := (hsub f (by simp)).2
        obtain ⟨s1, e1, fr1⟩ := shown_of (st := st) hn (by omega)
        have i0 : atI [D.str (S wGiven), entD false f] 0 = some (.str (S wGiven)) := rfl
        have i1 : atI [D.str (S wGiven), entD false f] 1 = some (entD false f) := rfl
        refine s_seq (s_if (b := true) (st' := st) (fun K E k => by simp [i0]; exact k) (fun _ => ?_) (fun h => by cases h))
        refine s_ret (v := .str (S (wGiven ++ [32] ++ f))) (st' := s1) (fun K E k => by simp [i1, e1, show f.length + 6 ≤ 1000000 by omega, show 6 + f.length ≤ 1000000 by omega] at k ⊢; exact k) ⟨?_, fr1⟩
        rw [h1]
        simp [TL.joinL]
    · rw [if_neg h1] at h
      by_cases h2 : f0 = wPut
      · rw [if_pos h2] at h
        split at h
        · cases h
        · rename_i ds e
          cases h
          obtain ⟨a1, r1, d1, rfl, rfl, n1, e1⟩ := ents_inv e
          obtain ⟨a2, r2, d2, rfl, rfl, n2, e2⟩ := ents_inv e1
          obtain ⟨a3, r3, d3, rfl, rfl, n3, e3⟩ := ents_inv e2
          obtain ⟨a4, r4, d4, rfl, rfl, n4, e4⟩ := ents_inv e3
          obtain ⟨a5, r5, d5, rfl, rfl, n5, e5⟩ := ents_inv e4
          obtain ⟨rfl, rfl⟩ := ents_inv0 e5
          subst h2
          have i0 : atI [D.str (S wPut), entD true a1, entD true a2, entD true a3, entD true a4, entD true a5] 0 = some (.str (S wPut)) := rfl
          refine s_seq (s_if (b := false) (st' := st) (fun K E k => by simp [i0]; exact k) (fun h => by cases h) fun _ => s_skip ?_)
          obtain ⟨acc, s2, e2', q2, q3, q4⟩ := c_lc (env := [some (.tup [.str (S wPut), entD true a1, entD true a2, entD true a3, entD true a4, entD true a5]), none]) (st := st) (st' := st) (mi := iVal (mVar 0)) (src := sItems [.str (S wPut), entD true a1, entD true a2, entD true a3, entD true a4, entD true a5]) (own := [1]) (g := gN 1) (t := mYes) (m := mFn fStr (mCons (mVar 1) mNil))
            [.str (S wPut), entD true a1, entD true a2, entD true a3, entD true a4, entD true a5] (fun j acc s => acc = sL ([wPut, a1, a2, a3, a4, a5].take j) ∧ s[st.length]? = some (.lst acc) ∧ Fr [] st s) (fun K E k => by simp [srcOf]; exact k) rfl
            ⟨rfl, app_new, Fr.refl.app⟩ (fun _ _ _ _ => rfl) (fun _ _ _ h => h.2.1) (fun j x acc s hd h => by
              obtain ⟨rfl, hs, fr⟩ := h
              have hjl : j < 6 := (List.getElem?_eq_some_iff.mp hd).1
              have hstr : ∃ w, [wPut, a1, a2, a3, a4, a5][j]? = some w ∧ fStr [x] s = .ok (.str (S w)) s := by
                match j, hjl, hd with
                | 0, _, hd => cases hd; exact ⟨_, rfl, rfl⟩
                | 1, _, hd => cases hd; exact ⟨_, rfl, num_of n1⟩
                | 2, _, hd => cases hd; exact ⟨_, rfl, num_of n2⟩
                | 3, _, hd => cases hd; exact ⟨_, rfl, num_of n3⟩
                | 4, _, hd => cases hd; exact ⟨_, rfl, num_of n4⟩
                | 5, _, hd => cases hd; exact ⟨_, rfl, num_of n5⟩
              obtain ⟨w, hw, es⟩ := hstr
              refine ⟨_, true, s, rfl, rfl, (fun h => by cases h), fun _ => ⟨.str (S w), s, Ev.eq fun K E kk => by simp [wipeE, es]; exact kk, hs, by simp; omega, ?_, set_at hs, fr.set (.inl (Nat.le_refl _))⟩⟩
              rw [List.take_succ, hw, sL_app]; rfl)
          have q2 : acc = sL [wPut, a1, a2, a3, a4, a5] := q2
          subst q2
          have ej := f_join (x := [32]) q3 (by simp at htot ⊢; omega)
          refine s_ret (v := .str (S (TL.joinL [32] [wPut, a1, a2, a3, a4, a5]))) (st' := s2) (fun K E k => by simp [e2', ej]; exact k) ⟨rfl, q4⟩
      · rw [if_neg h2] at h; cases h
  obtain ⟨d', s, e, rfl, fr⟩ := wp_get key
  exact ⟨s, e, fr⟩
theorem jline_eq {f0 : List Nat} {rest : List (List Nat)} {d : D} (h : lineJ (f0 :: rest) = .inr d) (hl : (TL.joinL [32] (f0 :: rest)).length ≤ 4000) : ∃ st', m_join_line [d] st = .ok (.str (S (TL.joinL [32] (f0 :: rest)))) st' ∧ Fr [] st st' := by
  have hsub := joinL_sub 32 (f0 :: rest)
  have htot := tot_join 32 (f0 :: rest)
  have key : wp (m_join_line [d] st) (fun d s => d = .str (S (TL.joinL [32] (f0 :: rest))) ∧ Fr [] st s) fun _ _ _ => False := by
    refine wp_def (show wpS (b_join_line [some d, none, none, none, none, none] st) _ _ _ from ?_)
    -- the tail: two trees behind what is there
    have tail : ∀ (hd : List (List Nat)) (t o : List Nat) (p : D) (s : Store), isN (entD false t) = false → isN (entD false o) = false → t.length ≤ 4000 → o.length ≤ 4000 → hd.length ≤ 2 → (tot hd + hd.length ≤ 10000) → s[st.length]? = some (.lst (sL hd)) → Fr [] st s →
        wpS ((kSeq (kExpr (mM fAppend (mRecv "list" (mVar 5)) (mCons (mCall m_shown (mCons (mVar 2) mNil)) mNil)))
  (kSeq (kExpr (mM fAppend (mRecv "list" (mVar 5)) (mCons (mCall m_shown (mCons (mVar 3) mNil)) mNil)))
  (kRet (mM fJoin (mRecv "str" (mC (.str " "))) (mCons (mVar 5) mNil))))) [some d, some (.str (S f0)), some (entD false t), some (entD false o), some p, some (.ref st.length)] s) (fun _ _ => False) (fun d s => d = .str (S (TL.joinL [32] (hd ++ [t] ++ [o]))) ∧ Fr [] st s) (fun _ _ _ _ => False) := by
      intro hd t o p s nt no ht ho hhd htt hs fr
      obtain ⟨s1, e1, fr1⟩ := shown_of (st := s) nt ht
      have hs1 := fr1.get hs (by simp)
      have ea := f_append (y := .str (S t)) hs1 (show (sL hd).length < 1000000 by simp; omega)
      refine s_seq (s_expr (v := .non) (st' := s1.set st.length (.lst (sL (hd ++ [t])))) (fun K E k => ?_) ?_)
      · have er := rec_l hs
        simp only [wp_mM, wp_mRecv, wp_mCons, wp_mCall, wp_mVar, wp_mNil, List.getElem?_cons_zero, List.getElem?_cons_succ, er, if_true, e1, wp_ok, ea]
        rw [sL_app] at k; exact k
      have hs2 := set_at (o' := .lst (sL (hd ++ [t]))) hs1
      have fr2 : Fr [] st (s1.set st.length (.lst (sL (hd ++ [t])))) := (fr.trans fr1).set (.inl (Nat.le_refl _))
      generalize s1.set st.length (.lst (sL (hd ++ [t]))) = s2 at *
      obtain ⟨s3, e3, fr3⟩ := shown_of (st := s2) no ho
      have hs3 := fr3.get hs2 (by simp)
      have eb := f_append (y := .str (S o)) hs3 (show (sL (hd ++ [t])).length < 1000000 by simp; omega)
      refine s_seq (s_expr (v := .non) (st' := s3.set st.length (.lst (sL (hd ++ [t] ++ [o])))) (fun K E k => ?_) ?_)
      · have er := rec_l hs2
        simp only [wp_mM, wp_mRecv, wp_mCons, wp_mCall, wp_mVar, wp_mNil, List.getElem?_cons_zero, List.getElem?_cons_succ, er, if_true, e3, wp_ok, eb]
        rw [sL_app (a := hd ++ [t])] at k; exact k
      have hs4 := set_at (o' := .lst (sL (hd ++ [t] ++ [o]))) hs3
      have ej := f_join (x := [32]) hs4 (by rw [tot_app, tot_app]; simp [tot] at htt ⊢; omega)
      refine s_ret (v := .str (S (TL.joinL [32] (hd ++ [t] ++ [o])))) (st' := s3.set st.length (.lst (sL (hd ++ [t] ++ [o])))) (fun K E k => ?_) ⟨rfl, (fr2.trans fr3).set (.inl (Nat.le_refl _))⟩
      simp only [wp_mM, wp_mRecv, wp_mC, wp_mCons, wp_mVar, wp_mNil, lit_18, List.getElem?_cons_zero, List.getElem?_cons_succ, rec_s, if_true, ej, wp_ok]
      exact k
    unfold lineJ at h
    dsimp only at h
    by_cases h1 : f0 = wDown
    · rw [if_pos h1] at h
      split at h
      · cases h
      · rename_i ds e
        cases h
        obtain ⟨a1, r1, d1, rfl, rfl, n1, e1⟩ := ents_inv e
        obtain ⟨a2, r2, d2, rfl, rfl, n2, e2⟩ := ents_inv e1
        obtain ⟨a3, r3, d3, rfl, rfl, n3, e3⟩ := ents_inv e2
        obtain ⟨rfl, rfl⟩ := ents_inv0 e3
        have q2 := (hsub a2 (by simp)).2
        have q3 := (hsub a3 (by simp)).2
        refine s_seq (s_asg (v := .tup [.str (S f0), entD false a2, entD false a3, entD true a1]) (st' := st) (fun K E k => by simp; exact k) rfl ?_)
        refine s_seq (s_set (v := .ref st.length) (st' := st ++ [.lst (sL [f0])]) (fun K E k => by simp; exact k) ?_)
        have hs : (st ++ [Ob.lst (sL [f0])])[st.length]? = some (.lst (sL [f0])) := app_new
        have fr : Fr [] st (st ++ [Ob.lst (sL [f0])]) := Fr.refl.app
        generalize st ++ [Ob.lst (sL [f0])] = s1 at *
        have en := num_of (st := s1) n1
        have ea := f_append (y := .str (S a1)) hs (show (sL [f0]).length < 1000000 by simp)
        refine s_seq (s_if (b := true) (st' := s1) (fun K E k => by simp [h1]; exact k) (fun _ => ?_) (fun h => by cases h))
        refine s_expr (v := .non) (st' := s1.set st.length (.lst (sL [f0, a1]))) (fun K E k => by simp [rec_l hs, en, ea]; exact k) ?_
        have := tail [f0, a1] a2 a3 (entD true a1) (s1.set st.length (.lst (sL [f0, a1]))) n2 n3 (by omega) (by omega) (by simp) (by simp [tot] at htot ⊢; omega) (set_at hs) (fr.set (.inl (Nat.le_refl _)))
        exact wpS_mono this (fun _ _ h => h.elim) (fun _ _ h => h) (fun _ _ _ _ h => h)
    · rw [if_neg h1] at h
      by_cases h2 : f0 = wRoot ∨ f0 = wUp
      · rw [if_pos h2] at h
        split at h
        · cases h
        · rename_i ds e
          cases h
          obtain ⟨a2, r2, d2, rfl, rfl, n2, e2⟩ := ents_inv e
          obtain ⟨a3, r3, d3, rfl, rfl, n3, e3⟩ := ents_inv e2
          obtain ⟨rfl, rfl⟩ := ents_inv0 e3
          have q2 := (hsub a2 (by simp)).2
          have q3 := (hsub a3 (by simp)).2
          refine s_seq (s_asg (v := .tup [.str (S f0), entD false a2, entD false a3, .int 0]) (st' := st) (fun K E k => by simp; exact k) rfl ?_)
          refine s_seq (s_set (v := .ref st.length) (st' := st ++ [.lst (sL [f0])]) (fun K E k => by simp; exact k) ?_)
          refine s_seq (s_if (b := false) (st' := st ++ [.lst (sL [f0])]) (fun K E k => by simp [h1]; exact k) (fun h => by cases h) fun _ => s_skip ?_)
          have := tail [f0] a2 a3 (.int 0) (st ++ [.lst (sL [f0])]) n2 n3 (by omega) (by omega) (by simp) (by simp [tot] at htot ⊢; omega) app_new Fr.refl.app
          exact wpS_mono this (fun _ _ h => h.elim) (fun _ _ h => h) (fun _ _ _ _ h => h)
      · rw [if_neg h2] at h; cases h
  obtain ⟨d', s, e, rfl, fr⟩ := wp_get key
  exact ⟨s, e, fr⟩
end K65
/-! ## Sp20 -/
set_option Elab.async false
set_option linter.all false
set_option maxRecDepth 100000
set_option maxHeartbeats 4000000
namespace K65
open PySem L2 SX Mi
variable {st : Store} {l a : List Nat} {c : Nat}
/-- [m(x) for x in tuple], each a text -/
theorem lc_texts {env : Mi.Env} {mt : ME} {line : MF} {i : Nat} {ds : List D} {ls : List (List Nat)} (hm : mt env st = .ok (.tup ds) st) (hi : i < env.length) (hl : ds.length = ls.length) (hz : ls.length < 1000000)
    (hs : ∀ (j : Nat) (d : D) (w : List Nat), ds[j]? = some d → ls[j]? = some w → ∀ s : Store, Fr [] st s → ∃ s', line [d] s = .ok (.str (S w)) s' ∧ Fr [] s s') :
    ∃ st', mLc (iVal mt) [i] (gN i) mYes (mCall line (mCons (mVar i) mNil)) env st = .ok (.ref st.length) st' ∧ st'[st.length]? = some (.lst (sL ls)) ∧ Fr [] st st' := by
  obtain ⟨acc, s2, e2, q2, q3, q4⟩ := c_lc (env := env) (st := st) (st' := st) (mi := iVal mt) (src := sItems ds) (own := [i]) (g := gN i) (t := mYes) (m := mCall line (mCons (mVar i) mNil))
    ds (fun j acc s => acc = sL (ls.take j) ∧ s[st.length]? = some (.lst acc) ∧ Fr [] st s) (fun K E k => by rw [wp_iVal, hm, wp_ok]; simp [srcOf]; exact k) rfl
    ⟨rfl, app_new, Fr.refl.app⟩ (fun _ _ _ _ => rfl) (fun _ _ _ h => h.2.1) (fun j x acc s hd h => by
      obtain ⟨rfl, hss, fr⟩ := h
      have hjl : j < ls.length := by rw [← hl]; exact (List.getElem?_eq_some_iff.mp hd).1
      obtain ⟨s', e, fr'⟩ := hs j x ls[j] hd (List.getElem?_eq_getElem hjl) s fr
      have hs' := fr'.get hss (by simp)
      refine ⟨_, true, s, rfl, rfl, (fun h => by cases h), fun _ => ⟨.str (S ls[j]), s', Ev.eq fun K E kk => ?_, hs', by simp; omega, ?_, set_at hs', (fr.trans fr').set (.inl (Nat.le_refl _))⟩⟩
      · rw [wp_mCall, wp_mCons, wp_mVar]
        rw [List.getElem?_set_self (by simpa [wipeE] using hi)]
        dsimp only
        rw [wp_mNil, e, wp_ok]
        exact kk
      · rw [List.take_succ, List.getElem?_eq_getElem hjl, sL_app]; rfl)
  rw [hl, List.take_length] at q2
  subst q2
  exact ⟨s2, e2, q3, q4⟩
theorem rows_get {sp : List (List Nat) → Nat ⊕ D} : ∀ (ls : List (List Nat)) (k : Nat) (ds : List D), rows sp ls k = .inr ds → ds.length = ls.length ∧ ∀ (j : Nat) (d : D) (w : List Nat), ds[j]? = some d → ls[j]? = some w → sp (spl1 32 w) = .inr d
  | [], k, ds, h => by cases h; exact ⟨rfl, fun j d w hd => by simp at hd⟩
  | r :: ls, k, ds, h => by
    rw [rows] at h
    split at h
    · cases h
    · rename_i d e
      split at h
      · cases h
      · rename_i ds' e'
        cases h
        obtain ⟨h1, h2⟩ := rows_get ls (k + 1) ds' e'
        refine ⟨by simp [h1], fun j d' w hd hw => ?_⟩
        cases j with
        | zero => simp at hd hw; subst hd hw; exact e
        | succ j => exact h2 j d' w (by simpa using hd) (by simpa using hw)
def textMF (chain : Bool) : MF := if chain = true then m_chain_text else m_joins_text
theorem lines_join (l : List Nat) : TL.joinL [10] (linesOf l) = l := by
  unfold linesOf
  split
  · rename_i h; rw [h]; rfl
  · exact spl1_join (by decide) l
theorem text_back {chain : Bool} {ds : List D} (hl : l.length ≤ 4000) (h : rows (lineX chain) (linesOf l) 0 = .inr ds) : ∃ st', textMF chain [.tup ds] st = .ok (.str (S l)) st' ∧ Fr [] st st' := by
  obtain ⟨h1, h2⟩ := rows_get _ _ _ h
  have hcnt := lines_cnt l
  have htot := tot_join 10 (linesOf l)
  rw [lines_join] at htot
  have hline : ∀ (j : Nat) (d : D) (w : List Nat), ds[j]? = some d → (linesOf l)[j]? = some w → ∀ s : Store, ∃ s', (if chain = true then m_chain_line else m_join_line) [d] s = .ok (.str (S w)) s' ∧ Fr [] s s' := by
    intro j d w hd hw s
    have hx := h2 j d w hd hw
    have hwl := (lines_sub (List.mem_of_getElem? hw)).2
    have hj := spl1_join (show 32 < 256 by decide) w
    obtain ⟨f0, rest, ef⟩ := List.exists_cons_of_ne_nil (spl1_ne 32 w)
    rw [ef] at hx hj
    cases chain
    · obtain ⟨s', e, fr⟩ := jline_eq (st := s) hx (by rw [hj]; omega)
      rw [hj] at e
      exact ⟨s', e, fr⟩
    · obtain ⟨s', e, fr⟩ := cline_eq (st := s) hx (by rw [hj]; omega)
      rw [hj] at e
      exact ⟨s', e, fr⟩
  cases chain
  · obtain ⟨s2, e2, q3, q4⟩ := lc_texts (st := st) (env := [some (.tup ds), none]) (mt := mVar 0) (line := m_join_line) (i := 1) (ds := ds) (ls := linesOf l) rfl (by simp) h1 (by omega) (fun j d w hd hw s _ => hline j d w hd hw s)
    have ej := f_join (x := [10]) q3 (by simp; omega)
    rw [lines_join] at ej
    have key : wp (m_joins_text [.tup ds] st) (fun d s => d = .str (S l) ∧ s = s2) fun _ _ _ => False := by
      refine wp_def (show wpS (b_joins_text [some (.tup ds), none] st) _ _ _ from ?_)
      exact s_ret (v := .str (S l)) (st' := s2) (fun K E k => by simp [e2, ej]; exact k) ⟨rfl, rfl⟩
    exact ⟨s2, wp_ok_eq key, q4⟩
  · obtain ⟨s2, e2, q3, q4⟩ := lc_texts (st := st) (env := [some (.tup ds), none]) (mt := mVar 0) (line := m_chain_line) (i := 1) (ds := ds) (ls := linesOf l) rfl (by simp) h1 (by omega) (fun j d w hd hw s _ => hline j d w hd hw s)
    have ej := f_join (x := [10]) q3 (by simp; omega)
    rw [lines_join] at ej
    have key : wp (m_chain_text [.tup ds] st) (fun d s => d = .str (S l) ∧ s = s2) fun _ _ _ => False := by
      refine wp_def (show wpS (b_chain_text [some (.tup ds), none] st) _ _ _ from ?_)
      exact s_ret (v := .str (S l)) (st' := s2) (fun K E k => by simp [e2, ej]; exact k) ⟨rfl, rfl⟩
    exact ⟨s2, wp_ok_eq key, q4⟩
theorem same8 {d : D} (h : pureD 5 d) (st : Store) : m_law_same 8 [d, d] st = .ok (.bl true) st := same_eq 7 d st (pure_mono 5 7 d (by decide) h)
theorem read_back {chain : Bool} {ds : List D} (ha : Asc l) (hl : l.length ≤ 4000) (h : rows (lineX chain) (linesOf l) 0 = .inr ds) : ∃ st', (if chain = true then m_read_chain else m_read_joins) [.str (S l)] st = .ok (.tup ds) st' ∧ Fr [] st st' := by
  cases chain
  · rcases wp_cases (read_joins_wp (st := st) ha (by omega)) with ⟨d, s, e, ds', h1, rfl, fr⟩ | ⟨c, fs, s, e, k, j, h1, rfl, rfl, fr⟩
    · have : rows lineJ (linesOf l) 0 = .inr ds := h
      rw [this] at h1; cases h1
      exact ⟨s, e, fr⟩
    · have : rows lineJ (linesOf l) 0 = .inr ds := h
      rw [this] at h1; cases h1
  · rcases wp_cases (read_chain_wp (st := st) ha (by omega)) with ⟨d, s, e, ds', h1, rfl, fr⟩ | ⟨c, fs, s, e, k, j, h1, rfl, rfl, fr⟩
    · have : rows lineC (linesOf l) 0 = .inr ds := h
      rw [this] at h1; cases h1
      exact ⟨s, e, fr⟩
    · have : rows lineC (linesOf l) 0 = .inr ds := h
      rw [this] at h1; cases h1
theorem reads_eq {chain : Bool} (ha : Asc l) (hl : l.length ≤ 900000) : ∃ st', m_law_reads [.str (S l), .bl chain] st = .ok (.bl true) st' ∧ Fr [] st st' := by
  have key : wp (m_law_reads [.str (S l), .bl chain] st) (fun d s => d = .bl true ∧ Fr [] st s) fun _ _ _ => False := by
    refine wp_def (show wpS (b_law_reads [some (.str (S l)), some (.bl chain), none] st) _ _ _ from ?_)
    refine s_seq (s_if (b := decide (4000 < l.length)) (st' := st) (fun K E k => ?_) (fun hb => ?_) fun hb => s_skip ?_)
    · have : decide ((4000 : Int) < (l.length : Int)) = decide (4000 < l.length) := by
        by_cases q : 4000 < l.length
        · rw [decide_eq_true q, decide_eq_true (by omega)]
        · rw [decide_eq_false q, decide_eq_false (by omega)]
      simp [show l.length ≤ 1000000 by omega, this]; simpa using k
    · exact s_ret (v := .bl true) (st' := st) (fun K E k => by simp; exact k) ⟨rfl, Fr.refl⟩
    have hl4 : l.length ≤ 4000 := by
      have := of_decide_eq_false hb
      omega
    obtain ⟨s1, e1, fr1⟩ := due_eq (st := st) (chain := chain) ha (by omega)
    refine s_seq (s_set (v := dueD chain l) (st' := s1) (fun K E k => by simp [e1]; exact k) ?_)
    obtain ⟨s2, e2, fr2⟩ := told_eq (st := s1) (chain := chain) ha (by omega)
    have hp := pure_due (chain := chain) ha (show l.length ≤ 100000 by omega)
    refine s_seq (s_if (b := false) (st' := s2) (fun K E k => by simp [e2, same8 hp]; exact k) (fun h => by cases h) fun _ => s_skip ?_)
    have fr12 := fr1.trans fr2
    unfold dueD at hp ⊢
    cases hr : rows (lineX chain) (linesOf l) 0 with
    | inl e =>
      obtain ⟨k, j⟩ := e
      have i0 : ∀ s, fIx (dueOf (.inl (k, j))) (.int 0) s = .ok (.str (S [102, 97, 117, 108, 116])) s := fun _ => rfl
      refine s_seq (s_if (b := false) (st' := s2) (fun K E kk => by simp [i0]; exact kk) (fun h => by cases h) fun _ => s_skip ?_)
      refine s_seq (s_if (b := false) (st' := s2) (fun K E kk => by simp [i0]; exact kk) (fun h => by cases h) fun _ => s_skip ?_)
      exact s_ret (v := .bl true) (st' := s2) (fun K E k => by simp; exact k) ⟨rfl, fr12⟩
    | inr ds =>
      rw [hr] at hp
      have hpd : pureD 5 (.tup ds) := pure_mono 4 5 _ (by decide) (hp.2 _ (by simp))
      have i0 : ∀ s, fIx (dueOf (.inr ds)) (.int 0) s = .ok (.str (S [116, 111, 108, 100])) s := fun _ => rfl
      have i1 : ∀ s, fIx (dueOf (.inr ds)) (.int 1) s = .ok (.tup ds) s := fun _ => rfl
      obtain ⟨s3, e3, fr3⟩ := text_back (st := s2) hl4 hr
      obtain ⟨s4, e4, fr4⟩ := read_back (st := s3) ha hl4 hr
      have hps : pureD 5 (.str (S l)) := trivial
      cases chain
      · refine s_seq (s_if (b := false) (st' := s2) (fun K E kk => by simp [i0]; exact kk) (fun h => by cases h) fun _ => s_skip ?_)
        refine s_seq (s_if (b := true) (st' := s2) (fun K E kk => by simp [i0]; exact kk) (fun _ => ?_) fun h => by cases h)
        have e3 : m_joins_text [.tup ds] s2 = .ok (.str (S l)) s3 := e3
        have e4 : m_read_joins [.str (S l)] s3 = .ok (.tup ds) s4 := e4
        exact s_ret (v := .bl true) (st' := s4) (fun K E k => by simp [i1, e3, e4, same8 hps, same8 hpd]; exact k) ⟨rfl, fr12.trans (fr3.trans fr4)⟩
      · refine s_seq (s_if (b := true) (st' := s2) (fun K E kk => by simp [i0]; exact kk) (fun _ => ?_) fun h => by cases h)
        have e3 : m_chain_text [.tup ds] s2 = .ok (.str (S l)) s3 := e3
        have e4 : m_read_chain [.str (S l)] s3 = .ok (.tup ds) s4 := e4
        exact s_ret (v := .bl true) (st' := s4) (fun K E k => by simp [i1, e3, e4, same8 hps, same8 hpd]; exact k) ⟨rfl, fr12.trans (fr3.trans fr4)⟩
  obtain ⟨d, s, e, rfl, fr⟩ := wp_get key
  exact ⟨s, e, fr⟩
end K65
/-! ## Sp21 -/
set_option Elab.async false
set_option linter.all false
set_option maxRecDepth 100000
set_option maxHeartbeats 4000000
namespace K65
open PySem L2 SX Mi
/-! ### the tape -/
def zL (ns : List Int) : List D := ns.map D.int
def TapeAt (s : Store) : Prop := ∃ (a c : Int) (b : Nat) (ns : List Int), s[1]? = some (.lst [.int a, .int (b : Nat), .int c, .ref 0]) ∧ s[0]? = some (.lst (zL ns))
theorem TapeAt.keep {s s' : Store} (h : TapeAt s) (f : Fr [] s s') : TapeAt s' := by
  obtain ⟨a, c, b, ns, h1, h2⟩ := h
  exact ⟨a, c, b, ns, f.get h1 (by simp), f.get h2 (by simp)⟩
theorem t_ix {s : Store} {es : List D} {k : Nat} {d : D} (h : s[1]? = some (.lst es)) (hk : es[k]? = some d) : fIx (.ref 1) (.int (k : Nat)) s = .ok d s := by
  unfold fIx
  simp only [items_l h, atI_k, hk]
theorem t_set {s : Store} {es : List D} {k : Nat} {d : D} (h : s[1]? = some (.lst es)) (hk : k < es.length) : setF (.ref 1) (.int (k : Nat)) d s = .ok () (s.set 1 (.lst (es.set k d))) := set_f h hk
theorem zL_get {ns : List Int} {i : Nat} : (zL ns)[i]? = ns[i]?.map D.int := List.getElem?_map ..
theorem draw_tail {s0 s : Store} {n : Nat} {a c : Int} {b : Nat} {ns : List Int} {x2 x3 : Option D} (h1 : s[1]? = some (.lst [.int a, .int (b : Nat), .int c, .ref 0])) (h0 : s[0]? = some (.lst (zL ns))) (fr : Fr [1] s0 s) (hn : 1 ≤ n) (hn2 : n ≤ 1000000) :
    wpS ((kSeq (kIf (mB (mBin fGt (mBin fIx (mVar 0) (mC (.int 0))) (mC (.int 0)))) (kSeq (kSet 3 (mBin fMod (mFn fInt (mCons (mBin fIx (mVar 0) (mC (.int 0))) mNil)) (mVar 1)))
  (kSeq (kSetIx (mVar 0) (mC (.int 0)) (mBin fDiv (mBin fIx (mVar 0) (mC (.int 0))) (mVar 1)))
  (kRet (mVar 3)))) kSkip)
  (kSeq (kSetIx (mVar 0) (mC (.int 2)) (mBin fMod (mFn fInt (mCons (mBin fAdd (mBin fMulA (mBin fIx (mVar 0) (mC (.int 2))) (mC (.int 7919))) (mC (.int 8191))) mNil)) (mC (.int 2147483579))))
  (kRet (mBin fMod (mFn fInt (mCons (mBin fDiv (mBin fIx (mVar 0) (mC (.int 2))) (mC (.int 83))) mNil)) (mVar 1))))) [some (.ref 1), some (.int (n : Nat)), x2, x3] s)
      (fun _ _ => False) (fun d s' => ∃ v : Nat, d = .int (v : Nat) ∧ v < n ∧ TapeAt s' ∧ Fr [1] s0 s') (fun _ _ _ _ => False) := by
  have n0 : (0 : Int) < (n : Int) := by omega
  have i0 : fIx (.ref 1) (.int 0) s = .ok (.int a) s := t_ix (k := 0) h1 rfl
  have i2 : fIx (.ref 1) (.int 2) s = .ok (.int c) s := t_ix (k := 2) h1 rfl
  have vfin : ∀ z : Int, ∃ v : Nat, z % (n : Int) = (v : Int) ∧ v < n := fun z => by
    refine ⟨(z % (n : Int)).toNat, ?_, ?_⟩
    · rw [Int.toNat_of_nonneg (Int.emod_nonneg _ (by omega))]
    · have := Int.emod_lt_of_pos z n0
      have h := Int.emod_nonneg z (show (n : Int) ≠ 0 by omega)
      omega
  have eint : ∀ (i : Int) (s : Store), fInt [.int i] s = .ok (.int i) s := fun _ _ => rfl
  refine s_seq (s_if (b := decide (0 < a)) (st' := s) (fun K E k => ?_) (fun hb => ?_) fun hb => s_skip ?_)
  · simp only [i0, wp_ok, List.set_cons_zero, List.set_cons_succ, wp_mB, wp_mBin, wp_mVar, wp_mC, List.getElem?_cons_zero]
    exact k
  · obtain ⟨v, hv, hvn⟩ := vfin a
    refine s_seq (s_set (v := .int (v : Nat)) (st' := s) (fun K E k => ?_) ?_)
    · simp only [i0, wp_ok, List.set_cons_zero, List.set_cons_succ, wp_mFn, wp_mCons, wp_mNil, wp_mBin, wp_mVar, wp_mC, List.getElem?_cons_zero, List.getElem?_cons_succ]
      simp only [wp_ok, eint, f_mod]
      rw [if_pos n0, hv]; exact k
    refine s_seq (s_setIx (v := .int (a / (n : Int))) (o := .ref 1) (id := .int ((0 : Nat) : Int)) (st1 := s) (st2 := s) (st3 := s) (fun K E k => ?_) (fun K E k => by simp; exact k) (fun K E k => by simp at k ⊢; exact k) (t_set h1 (by simp)) ?_)
    · simp only [i0, wp_ok, List.set_cons_zero, List.set_cons_succ, wp_mBin, wp_mVar, wp_mC, List.getElem?_cons_zero, List.getElem?_cons_succ]
      simp only [wp_ok, f_div]
      rw [if_pos ⟨n0, by omega⟩]; exact k
    refine s_ret (v := .int (v : Nat)) (st' := s.set 1 (.lst ([D.int a, .int (b : Nat), .int c, .ref 0].set 0 (.int (a / (n : Int)))))) (fun K E k => by simp at k ⊢; exact k) ⟨v, rfl, hvn, ⟨a / (n : Int), c, b, ns, set_at h1, by rw [set_no (by decide)]; exact h0⟩, fr.set (.inr (by simp))⟩
  · have hm : ((-big < c ∧ c < big) ∨ (-big < (7919 : Int) ∧ (7919 : Int) < big)) := .inr (by unfold big; omega)
    refine s_seq (s_setIx (v := .int ((c * 7919 + 8191) % 2147483579)) (o := .ref 1) (id := .int ((2 : Nat) : Int)) (st1 := s) (st2 := s) (st3 := s) (fun K E k => ?_) (fun K E k => by simp; exact k) (fun K E k => by simp at k ⊢; exact k) (t_set h1 (by simp)) ?_)
    · simp only [i2, wp_ok, List.set_cons_zero, List.set_cons_succ, wp_mFn, wp_mCons, wp_mNil, wp_mBin, wp_mVar, wp_mC, List.getElem?_cons_zero, List.getElem?_cons_succ]
      simp only [wp_ok, f_mul]
      rw [if_pos hm]
      simp only [f_add_i, wp_ok, eint, f_mod]
      rw [if_pos (by decide)]; exact k
    have h1' := set_at (o' := .lst ([D.int a, .int (b : Nat), .int c, .ref 0].set 2 (.int ((c * 7919 + 8191) % 2147483579)))) h1
    have h0' : (s.set 1 (.lst ([D.int a, .int (b : Nat), .int c, .ref 0].set 2 (.int ((c * 7919 + 8191) % 2147483579)))))[0]? = some (.lst (zL ns)) := by rw [set_no (by decide)]; exact h0
    have fr' : Fr [1] s0 (s.set 1 (.lst ([D.int a, .int (b : Nat), .int c, .ref 0].set 2 (.int ((c * 7919 + 8191) % 2147483579))))) := fr.set (.inr (by simp))
    generalize s.set 1 (.lst ([D.int a, .int (b : Nat), .int c, .ref 0].set 2 (.int ((c * 7919 + 8191) % 2147483579)))) = s2 at *
    have i2' : fIx (.ref 1) (.int 2) s2 = .ok (.int ((c * 7919 + 8191) % 2147483579)) s2 := t_ix (k := 2) h1' rfl
    obtain ⟨v, hv, hvn⟩ := vfin ((c * 7919 + 8191) % 2147483579 / 83)
    refine s_ret (v := .int (v : Nat)) (st' := s2) (fun K E k => ?_) ⟨v, rfl, hvn, ⟨a, _, b, ns, h1', h0'⟩, fr'⟩
    simp only [i2', wp_ok, wp_mFn, wp_mCons, wp_mNil, wp_mBin, wp_mVar, wp_mC, List.getElem?_cons_zero, List.getElem?_cons_succ]
    rw [f_div, if_pos ⟨by decide, by decide⟩]
    simp only [eint, wp_ok, f_mod]
    rw [if_pos n0, hv]; exact k
theorem draw_eq {s : Store} {n : Nat} (h : TapeAt s) (hn : 1 ≤ n) (hn2 : n ≤ 1000000) : ∃ (v : Nat) (s' : Store), m_law_draw [.ref 1, .int (n : Nat)] s = .ok (.int (v : Nat)) s' ∧ v < n ∧ TapeAt s' ∧ Fr [1] s s' := by
  obtain ⟨a, c, b, ns, h1, h0⟩ := h
  have key : wp (m_law_draw [.ref 1, .int (n : Nat)] s) (fun d s' => ∃ v : Nat, d = .int (v : Nat) ∧ v < n ∧ TapeAt s' ∧ Fr [1] s s') fun _ _ _ => False := by
    refine wp_def (show wpS (b_law_draw [some (.ref 1), some (.int (n : Nat)), none, none] s) _ _ _ from ?_)
    have i0 : fIx (.ref 1) (.int 0) s = .ok (.int a) s := t_ix (k := 0) h1 rfl
    have i1 : fIx (.ref 1) (.int 1) s = .ok (.int (b : Nat)) s := t_ix (k := 1) h1 rfl
    have i3 : fIx (.ref 1) (.int 3) s = .ok (.ref 0) s := t_ix (k := 3) h1 rfl
    have eL := lenL h0
    have eint : ∀ (i : Int) (s : Store), fInt [.int i] s = .ok (.int i) s := fun _ _ => rfl
    have done : ∀ {N : Mi.Env → Store → Prop} {o : SOut}, wpS o (fun _ _ => False) (fun d s' => ∃ v : Nat, d = .int (v : Nat) ∧ v < n ∧ TapeAt s' ∧ Fr [1] s s') (fun _ _ _ _ => False) → wpS o N (fun d s' => ∃ v : Nat, d = .int (v : Nat) ∧ v < n ∧ TapeAt s' ∧ Fr [1] s s') (fun _ _ _ _ => False) := fun h => wpS_mono h (fun _ _ h => h.elim) (fun _ _ h => h) (fun _ _ _ _ h => h)
    refine s_seq (s_if (b := decide (a < 1) && decide (b < ns.length)) (st' := s) (fun K E k => ?_) (fun hb => ?_) fun hb => s_skip ?_)
    · have e2 : decide ((b : Int) < ((zL ns).length : Int)) = decide (b < ns.length) := by
        have : (zL ns).length = ns.length := List.length_map ..
        rw [this]
        by_cases q : b < ns.length
        · rw [decide_eq_true q, decide_eq_true (by omega)]
        · rw [decide_eq_false q, decide_eq_false (by omega)]
      simp only [i1, wp_ok, List.set_cons_zero, List.set_cons_succ, i0, i3, wp_ok, List.set_cons_zero, List.set_cons_succ, wp_mAndT, wp_mB, wp_mFn, wp_mCons, wp_mNil, wp_mBin, wp_mVar, wp_mC, List.getElem?_cons_zero, List.getElem?_cons_succ]
      simp only [wp_ok, eL, f_lt, e2]
      by_cases q : a < 1
      · rw [decide_eq_true q] at k ⊢
        rw [if_pos rfl]
        simp only [i1, i3, wp_ok, eL, f_lt, e2]
        simpa using k
      · rw [decide_eq_false q] at k ⊢
        rw [if_neg (by simp)]
        simpa using k
    · simp only [Bool.and_eq_true, decide_eq_true_eq] at hb
      obtain ⟨ha, hbl⟩ := hb
      have it : fIx (.ref 0) (.int (b : Nat)) s = .ok (.int ns[b]) s := by
        unfold fIx
        simp only [items_l h0, atI_k, zL_get, List.getElem?_eq_getElem hbl]; rfl
      generalize ns[b] = z at *
      refine s_seq (s_set (v := .int (2 * z)) (st' := s) (fun K E k => ?_) ?_)
      · simp only [i1, wp_ok, List.set_cons_zero, List.set_cons_succ, i3, wp_ok, List.set_cons_zero, List.set_cons_succ, wp_mBin, wp_mVar, wp_mC, List.getElem?_cons_zero, List.getElem?_cons_succ]
        simp only [wp_ok, it, f_mul]
        rw [if_pos (.inl (by unfold big; omega))]; exact k
      refine s_seq (s_setIx (v := .int ((b + 1 : Nat) : Int)) (o := .ref 1) (id := .int ((1 : Nat) : Int)) (st1 := s) (st2 := s) (st3 := s) (fun K E k => ?_) (fun K E k => by simp; exact k) (fun K E k => by simp at k ⊢; exact k) (t_set h1 (by simp)) ?_)
      · simp only [i1, wp_ok, List.set_cons_zero, List.set_cons_succ, wp_mBin, wp_mVar, wp_mC, List.getElem?_cons_zero, List.getElem?_cons_succ, List.set_cons_zero, List.set_cons_succ]
        exact k
      have h1a := set_at (o' := .lst ([D.int a, .int (b : Nat), .int c, .ref 0].set 1 (.int ((b + 1 : Nat) : Int)))) h1
      have h0a : (s.set 1 (.lst ([D.int a, .int (b : Nat), .int c, .ref 0].set 1 (.int ((b + 1 : Nat) : Int)))))[0]? = some (.lst (zL ns)) := by rw [set_no (by decide)]; exact h0
      have fra : Fr [1] s (s.set 1 (.lst ([D.int a, .int (b : Nat), .int c, .ref 0].set 1 (.int ((b + 1 : Nat) : Int))))) := Fr.refl.set (.inr (by simp))
      generalize s.set 1 (.lst ([D.int a, .int (b : Nat), .int c, .ref 0].set 1 (.int ((b + 1 : Nat) : Int)))) = s1 at *
      have h1a : s1[1]? = some (.lst [.int a, .int ((b + 1 : Nat) : Int), .int c, .ref 0]) := h1a
      -- the cell, made positive
      have step : ∀ (y : Int) (x3 : Option D), wpS ((kSeq (kIf (mB (mBin fGe (mVar 2) (mC (.int 1000000000000000000)))) (kSetIx (mVar 0) (mC (.int 0)) (mVar 2)) kSkip)
  (kSetIx (mVar 0) (mC (.int 2)) (mBin fMod (mFn fInt (mCons (mBin fAdd (mBin fMulA (mBin fIx (mVar 0) (mC (.int 2))) (mC (.int 40014))) (mVar 2)) mNil)) (mC (.int 2147483563))))) [some (.ref 1), some (.int (n : Nat)), some (.int y), x3] s1)
          (fun env s' => ∃ (a' c' : Int) (b' : Nat), env = [some (.ref 1), some (.int (n : Nat)), some (.int y), x3] ∧ s'[1]? = some (.lst [.int a', .int (b' : Nat), .int c', .ref 0]) ∧ s'[0]? = some (.lst (zL ns)) ∧ Fr [1] s s') (fun d s' => ∃ v : Nat, d = .int (v : Nat) ∧ v < n ∧ TapeAt s' ∧ Fr [1] s s') (fun _ _ _ _ => False) := by
        intro y x3
        have second : ∀ (a' : Int) (s2 : Store), s2[1]? = some (.lst [.int a', .int ((b + 1 : Nat) : Int), .int c, .ref 0]) → s2[0]? = some (.lst (zL ns)) → Fr [1] s s2 →
            wpS (kSetIx (mVar 0) (mC (.int 2)) (mBin fMod (mFn fInt (mCons (mBin fAdd (mBin fMulA (mBin fIx (mVar 0) (mC (.int 2))) (mC (.int 40014))) (mVar 2)) mNil)) (mC (.int 2147483563))) [some (.ref 1), some (.int (n : Nat)), some (.int y), x3] s2)
              (fun env s' => ∃ (a' c' : Int) (b' : Nat), env = [some (.ref 1), some (.int (n : Nat)), some (.int y), x3] ∧ s'[1]? = some (.lst [.int a', .int (b' : Nat), .int c', .ref 0]) ∧ s'[0]? = some (.lst (zL ns)) ∧ Fr [1] s s') (fun d s' => ∃ v : Nat, d = .int (v : Nat) ∧ v < n ∧ TapeAt s' ∧ Fr [1] s s') (fun _ _ _ _ => False) := by
          intro a' s2 g1 g0 frr
          have j2 : fIx (.ref 1) (.int 2) s2 = .ok (.int c) s2 := t_ix (k := 2) g1 rfl
          refine s_setIx (v := .int ((c * 40014 + y) % 2147483563)) (o := .ref 1) (id := .int ((2 : Nat) : Int)) (st1 := s2) (st2 := s2) (st3 := s2) (fun K E k => ?_) (fun K E k => by simp; exact k) (fun K E k => by simp at k ⊢; exact k) (t_set g1 (by simp)) ⟨a', (c * 40014 + y) % 2147483563, b + 1, rfl, set_at g1, by rw [set_no (by decide)]; exact g0, frr.set (.inr (by simp))⟩
          simp only [j2, wp_ok, List.set_cons_zero, List.set_cons_succ, wp_mFn, wp_mCons, wp_mNil, wp_mBin, wp_mVar, wp_mC, List.getElem?_cons_zero, List.getElem?_cons_succ]
          simp only [wp_ok, f_mul]
          rw [if_pos (.inr (by unfold big; omega))]
          simp only [f_add_i, wp_ok, eint, f_mod]
          rw [if_pos (by decide)]; exact k
        refine s_seq (s_if (b := decide ((1000000000000000000 : Int) ≤ y)) (st' := s1) (fun K E k => by simp at k ⊢; exact k) (fun hb => ?_) fun hb => s_skip ?_)
        · refine s_setIx (v := .int y) (o := .ref 1) (id := .int ((0 : Nat) : Int)) (st1 := s1) (st2 := s1) (st3 := s1) (fun K E k => by simp; exact k) (fun K E k => by simp; exact k) (fun K E k => by simp at k ⊢; exact k) (t_set h1a (by simp)) ?_
          exact second y _ (set_at h1a) (by rw [set_no (by decide)]; exact h0a) (fra.set (.inr (by simp)))
        · exact second a s1 h1a h0a fra
      refine s_seq (s_if (b := decide (2 * z < 0)) (st' := s1) (fun K E k => by simp at k ⊢; exact k) (fun hb => ?_) fun hb => s_skip ?_)
      · refine s_set (v := .int (0 - 2 * z - 1)) (st' := s1) (fun K E k => by simp at k ⊢; exact k) ?_
        refine wpS_mono (step (0 - 2 * z - 1) none) (fun env s' h => ?_) (fun _ _ h => h) (fun _ _ _ _ h => h)
        obtain ⟨a', c', b', rfl, g1, g0, frr⟩ := h
        exact done (draw_tail g1 g0 frr hn hn2)
      · refine wpS_mono (step (2 * z) none) (fun env s' h => ?_) (fun _ _ h => h) (fun _ _ _ _ h => h)
        obtain ⟨a', c', b', rfl, g1, g0, frr⟩ := h
        exact done (draw_tail g1 g0 frr hn hn2)
    · exact done (draw_tail h1 h0 Fr.refl hn hn2)
  obtain ⟨d, s', e, v, rfl, h2, h3, h4⟩ := wp_get key
  exact ⟨v, s', e, h2, h3, h4⟩
end K65
/-! ## Sp22 -/
set_option Elab.async false
set_option linter.all false
set_option maxRecDepth 100000
set_option maxHeartbeats 4000000
namespace K65
open PySem L2 SX Mi
variable {l a : List Nat} {c : Nat}
theorem drawI {s : Store} (h : TapeAt s) (i : Int) (h1 : 1 ≤ i) (h2 : i ≤ 1000000) : ∃ (v : Nat) (s' : Store), m_law_draw [.ref 1, .int i] s = .ok (.int (v : Nat)) s' ∧ (v : Int) < i ∧ TapeAt s' ∧ Fr [1] s s' := by
  obtain ⟨n, rfl⟩ := Int.eq_ofNat_of_zero_le (show 0 ≤ i by omega)
  obtain ⟨v, s', e, h3, h4, h5⟩ := draw_eq h (n := n) (by omega) (by omega)
  exact ⟨v, s', e, by omega, h4, h5⟩
theorem TapeAt.fr1 {s s' : Store} {l : Nat} {o : Ob} (f : Fr [1] s s') (h : s[l]? = some o) (hl : l ≠ 1) : s'[l]? = some o := f.get h (by simpa using hl)
theorem TapeAt.set {s : Store} {l : Nat} {o : Ob} (h : TapeAt s) (hl : 2 ≤ l) : TapeAt (s.set l o) := by
  obtain ⟨a, c, b, ns, h1, h2⟩ := h
  exact ⟨a, c, b, ns, by rw [set_no (by omega)]; exact h1, by rw [set_no (by omega)]; exact h2⟩
theorem TapeAt.app {s : Store} {os : List Ob} (h : TapeAt s) : TapeAt (s ++ os) := by
  obtain ⟨a, c, b, ns, h1, h2⟩ := h
  exact ⟨a, c, b, ns, app_at h1, app_at h2⟩
theorem TapeAt.two {s : Store} (h : TapeAt s) : 2 ≤ s.length := by
  obtain ⟨a, c, b, ns, h1, h2⟩ := h
  have := (List.getElem?_eq_some_iff.mp h1).1
  omega
theorem fmul_of {i j : Int} {s : Store} (h : -big < i ∧ i < big) : fMulA (.int i) (.int j) s = .ok (.int (i * j)) s := by
  show (if (-big < i ∧ i < big) ∨ (-big < j ∧ j < big) then Out.ok (D.int (i * j)) s else .no) = _
  rw [if_pos (.inl h)]
theorem ev_rng1' {n : Nat} {s s' : Store} {env : Mi.Env} {r : MA} (hr : r env s = .ok [.int (n : Nat)] s') (h : n ≤ 1000000000) : Ev (Mi.iRng1 r env s) (sItems (rng 0 n)) s' := fun K E k => by
  unfold Mi.iRng1
  rw [hr, Out.bind_ok, rng1_ok h]; exact k
theorem count_eq {s : Store} (h : TapeAt s) : ∃ (v : Nat) (s' : Store), m_law_count [.ref 1] s = .ok (.int (v : Nat)) s' ∧ v < 10 ^ 61 ∧ TapeAt s' ∧ Fr [1] s s' := by
  have key : wp (m_law_count [.ref 1] s) (fun d s' => ∃ v : Nat, d = .int (v : Nat) ∧ v < 10 ^ 61 ∧ TapeAt s' ∧ Fr [1] s s') fun _ _ _ => False := by
    refine wp_def (show wpS (b_law_count [some (.ref 1), none, none, none] s) _ _ _ from ?_)
    obtain ⟨v1, s1, e1, b1, t1, f1⟩ := drawI h 4 (by decide) (by decide)
    refine s_seq (s_set (v := .int (v1 : Nat)) (st' := s1) (fun K E k => by simp [e1]; exact k) ?_)
    refine s_seq (s_if (b := decide ((v1 : Int) < 2)) (st' := s1) (fun K E k => by simp; exact k) (fun hb => ?_) fun hb => s_skip ?_)
    · obtain ⟨v2, s2, e2, b2, t2, f2⟩ := drawI t1 12 (by decide) (by decide)
      exact s_ret (v := .int (v2 : Nat)) (st' := s2) (fun K E k => by simp [e2]; exact k) ⟨v2, rfl, Nat.lt_of_lt_of_le (show v2 < 12 by omega) (by decide +kernel), t2, f1.trans f2⟩
    obtain ⟨v2, s2, e2, b2, t2, f2⟩ := drawI t1 9 (by decide) (by decide)
    refine s_seq (s_set (v := .int ((v2 + 1 : Nat) : Int)) (st' := s2) (fun K E k => ?_) ?_)
    · simp [e2]
      rw [Int.add_comm]
      simpa using k
    have hv2 : v2 + 1 < 10 ^ 61 := Nat.lt_of_lt_of_le (show v2 + 1 < 10 by omega) (by decide +kernel)
    refine s_seq (s_if (b := decide ((v1 : Int) = 3)) (st' := s2) (fun K E k => by simp; exact k) (fun hb => ?_) fun hb => s_skip ?_)
    · obtain ⟨v3, s3, e3, b3, t3, f3⟩ := drawI t2 60 (by decide) (by decide)
      refine s_for (src := sItems (rng 0 v3)) (st' := s3) (rng 0 v3) (fun j env s' => ∃ (y : Nat) (x : Option D), env = [some (.ref 1), some (.int (v1 : Nat)), some (.int (y : Nat)), x] ∧ y < 10 ^ (j + 1) ∧ TapeAt s' ∧ Fr [1] s s') (ev_rng1' (n := v3) (s' := s3) (Ev.eq fun K E k => by simp [e3]; exact k) (by omega)) rfl ⟨v2 + 1, none, rfl, by omega, t3, (f1.trans f2).trans f3⟩ (fun _ _ _ _ => rfl) ?_ ?_
      · rintro j d env s' hd ⟨y, x, rfl, hy, t', f'⟩
        obtain ⟨v4, s4, e4, b4, t4, f4⟩ := drawI t' 10 (by decide) (by decide)
        refine ⟨_, rfl, ?_⟩
        have em := fmul_of (i := 10) (j := (y : Int)) (s := s') (by unfold big; omega)
        refine s_set (v := .int ((10 * y + v4 : Nat) : Int)) (st' := s4) (fun K E k => ?_) ⟨10 * y + v4, some d, rfl, ?_, t4, f'.trans f4⟩
        · simp only [wp_mBin, wp_mC, wp_mVar, wp_mCall, wp_mCons, wp_mNil, List.getElem?_cons_zero, List.getElem?_cons_succ, List.set_cons_succ, List.set_cons_zero, em, wp_ok, e4, f_add_i]
          simpa using k
        · rw [Nat.pow_succ]; omega
      · rintro env s' ⟨y, x, rfl, hy, t', f'⟩
        rw [rng_len] at hy
        refine s_ret (v := .int (y : Nat)) (st' := s') (fun K E k => by simp; exact k) ⟨y, rfl, Nat.lt_of_lt_of_le hy (Nat.pow_le_pow_right (by decide) (by omega)), t', f'⟩
    · exact s_ret (v := .int ((v2 + 1 : Nat) : Int)) (st' := s2) (fun K E k => by simp at k ⊢; exact k) ⟨v2 + 1, rfl, hv2, t2, f1.trans f2⟩
  obtain ⟨d, s', e, v, rfl, h2, h3, h4⟩ := wp_get key
  exact ⟨v, s', e, h2, h3, h4⟩
/-! trees by draw -/
def goodW (w : List Nat) : Prop := w.length ≤ 40 ∧ Asc w
def runs : Nat → List (List Nat × Nat) → Nat → Prop
  | k, [], m => k = m
  | k, (_, n) :: r, m => 1 ≤ k ∧ runs (k - 1 + n) r m
theorem runs_snoc : ∀ (row : List (List Nat × Nat)) (k m : Nat) (w : List Nat) (n : Nat), runs k row m → 1 ≤ m → runs k (row ++ [(w, n)]) (m - 1 + n)
  | [], k, m, w, n, h, hm => by cases h; exact ⟨hm, rfl⟩
  | (v, p) :: row, k, m, w, n, h, hm => ⟨h.1, runs_snoc row _ m w n h.2 hm⟩
theorem runs_ok : ∀ (row : List (List Nat × Nat)) (k : Nat), runs k row 0 → okSh row ∧ (sh row).length = k
  | [], k, h => by cases h; exact ⟨trivial, rfl⟩
  | (w, n) :: row, k, h => by
    obtain ⟨h1, h2⟩ := h
    obtain ⟨g1, g2⟩ := runs_ok row _ h2
    refine ⟨⟨g1, by omega⟩, ?_⟩
    show ((sh row).drop n).length + 1 = k
    simp; omega
def goodRow (row : List (List Nat × Nat)) : Prop := okSh row ∧ (sh row).length = 1 ∧ row.length ≤ 60 ∧ ∀ p ∈ row, goodW p.1 ∧ p.2 ≤ 4
theorem min_of {x : Int} {s : Store} : fMin2 [.int 4, .int x] s = .ok (.int (if x < 4 then x else 4)) s := rfl
theorem tree_eq {s : Store} {W : Nat} {ws : List (List Nat)} {most : Nat} (h : TapeAt s) (hW : s[W]? = some (.lst (sL ws))) (hW2 : 2 ≤ W) (h5 : ws.length = 5) (hg : ∀ w ∈ ws, goodW w) (hm : 1 ≤ most) (hm2 : most ≤ 60) :
    ∃ (row : List (List Nat × Nat)) (s' : Store), m_law_any_tree [.ref 1, .ref W, .int (most : Nat)] s = .ok (.tup (rowD row)) s' ∧ goodRow row ∧ TapeAt s' ∧ Fr [1] s s' := by
  have key : wp (m_law_any_tree [.ref 1, .ref W, .int (most : Nat)] s) (fun d s' => ∃ row, d = .tup (rowD row) ∧ goodRow row ∧ TapeAt s' ∧ Fr [1] s s') fun _ _ _ => False := by
    refine wp_def (show wpS (b_law_any_tree [some (.ref 1), some (.ref W), some (.int (most : Nat)), none, none, none, none, none] s) _ _ _ from ?_)
    have h2 := h.two
    have hWl := (List.getElem?_eq_some_iff.mp hW).1
    refine s_seq (s_set (v := .ref s.length) (st' := s ++ [.lst []]) (fun K E k => by simp; exact k) ?_)
    refine s_seq (s_set (v := .int ((1 : Nat) : Int)) (st' := s ++ [.lst []]) (fun K E k => by simp at k ⊢; exact k) ?_)
    refine s_seq (s_for (src := sItems (rng 0 most)) (st' := s ++ [.lst []]) (rng 0 most) (fun j env s' => ∃ (need : Nat) (row : List (List Nat × Nat)) (x5 x6 x7 : Option D), env = [some (.ref 1), some (.ref W), some (.int (most : Nat)), some (.ref s.length), some (.int (need : Nat)), x5, x6, x7] ∧
      s'[s.length]? = some (.lst (rowD row)) ∧ s'[W]? = some (.lst (sL ws)) ∧ runs 1 row need ∧ row.length + need ≤ most ∧ (need = 0 ∨ row.length = j) ∧ (∀ p ∈ row, goodW p.1 ∧ p.2 ≤ 4) ∧ TapeAt s' ∧ Fr [1] s s') (ev_rng1 (Ev.eq fun K E k => by simp; exact k) (by omega)) rfl
      ⟨1, [], none, none, none, rfl, app_new, app_at hW, rfl, by simpa using hm, .inr rfl, (fun _ h => nomatch h), h.app, Fr.refl.app⟩ (fun _ _ _ _ => rfl) ?_ ?_)
    · rintro j d env s1 hd ⟨need, row, x5, x6, x7, rfl, hR, hWs, hrun, hlen, hnj, hgr, t1, f1⟩
      obtain ⟨hj, rfl⟩ := rng_get hd
      refine ⟨_, rfl, ?_⟩
      refine s_if (b := decide (0 < need)) (st' := s1) (fun K E k => ?_) (fun hb => ?_) fun hb => s_skip ?_
      · have : decide ((0 : Int) < (need : Int)) = decide (0 < need) := by
          by_cases q : 0 < need
          · rw [decide_eq_true q, decide_eq_true (by omega)]
          · rw [decide_eq_false q, decide_eq_false (by omega)]
        simp at k ⊢; exact k
      · have hb := of_decide_eq_true hb
        have hnl : row.length = j := by
          rcases hnj with q | q
          · omega
          · exact q
        -- a draw of the number below
        have dr : ∀ s1 : Store, TapeAt s1 → s1[s.length]? = some (.lst (rowD row)) → ∀ (x6' : Option D), ∃ (v : Nat) (s2 : Store), mCall m_law_draw (mCons (mVar 0) (mCons (mBin fAdd (mC (.int 1)) (mFn fMin2 (mCons (mC (.int 4)) (mCons (mBin fSub (mBin fSub (mVar 2) (mFn fLen (mCons (mVar 3) mNil))) (mVar 4)) mNil)))) mNil)) [some (.ref 1), some (.ref W), some (.int (most : Nat)), some (.ref s.length), some (.int (need : Nat)), some (.int (0 + (j : Int))), x6', x7] s1 = .ok (.int (v : Nat)) s2 ∧
            v ≤ 4 ∧ row.length + need + v ≤ most ∧ TapeAt s2 ∧ Fr [1] s1 s2 := by
          intro s1 t1 hR x6'
          have hx : ∃ y : Int, y = (if (most : Int) - (row.length : Int) - (need : Int) < 4 then (most : Int) - (row.length : Int) - (need : Int) else 4) := ⟨_, rfl⟩
          obtain ⟨y, hy⟩ := hx
          have y0 : 0 ≤ y ∧ y ≤ 4 ∧ y ≤ (most : Int) - (row.length : Int) - (need : Int) := by
            rw [hy]; split <;> omega
          obtain ⟨v, s2, e, b2, t2, f2⟩ := drawI t1 (1 + y) (by omega) (by omega)
          have eL := lenL hR
          rw [rowD_len] at eL
          refine ⟨v, s2, Ev.eq fun K E k => ?_, by omega, by omega, t2, f2⟩
          simp only [wp_mCall, wp_mCons, wp_mBin, wp_mFn, wp_mC, wp_mVar, wp_mNil, List.getElem?_cons_zero, List.getElem?_cons_succ, eL, wp_ok, f_sub, min_of, f_add_i, ← hy, e]
          exact k
        obtain ⟨v1, s2, e1, b1, b1', t2, f2⟩ := dr s1 t1 hR x6
        have hR2 := f2.get hR (by simp; omega)
        have hW3 := f2.get hWs (by simp; omega)
        refine s_seq (s_set (v := .int (v1 : Nat)) (st' := s2) (fun K E k => by have := e1; simp only [List.set_cons_succ, List.set_cons_zero]; rw [this]; exact k) ?_)
        -- drawn once more, perhaps
        have rest : ∀ (v : Nat) (s3 : Store), v ≤ 4 → row.length + need + v ≤ most → TapeAt s3 → Fr [1] s2 s3 → wpS ((kSeq (kSet 7 (mBin fIx (mVar 1) (mCall m_law_draw (mCons (mVar 0) (mCons (mFn fLen (mCons (mVar 1) mNil)) mNil)))))
  (kSeq (kIf (mAndT (mB (mBin fEq (mVar 6) (mC (.int 0)))) (mB (mBin fEq (mCall m_law_draw (mCons (mVar 0) (mCons (mC (.int 5)) mNil))) (mC (.int 1))))) (kSet 7 (mC (.str "."))) kSkip)
  (kSeq (kExpr (mM fAppend (mRecv "list" (mVar 3)) (mCons (mTup (mCons (mVar 7) (mCons (mVar 6) mNil))) mNil)))
  (kSet 4 (mBin fSub (mBin fAdd (mVar 4) (mVar 6)) (mC (.int 1))))))) [some (.ref 1), some (.ref W), some (.int (most : Nat)), some (.ref s.length), some (.int (need : Nat)), some (.int (0 + (j : Int))), some (.int (v : Nat)), x7] s3)
            (fun env s' => ∃ (need : Nat) (row : List (List Nat × Nat)) (x5 x6 x7 : Option D), env = [some (.ref 1), some (.ref W), some (.int (most : Nat)), some (.ref s.length), some (.int (need : Nat)), x5, x6, x7] ∧
      s'[s.length]? = some (.lst (rowD row)) ∧ s'[W]? = some (.lst (sL ws)) ∧ runs 1 row need ∧ row.length + need ≤ most ∧ (need = 0 ∨ row.length = j + 1) ∧ (∀ p ∈ row, goodW p.1 ∧ p.2 ≤ 4) ∧ TapeAt s' ∧ Fr [1] s s') (fun d s' => ∃ row, d = .tup (rowD row) ∧ goodRow row ∧ TapeAt s' ∧ Fr [1] s s') (fun _ _ _ _ => False) := by
          intro v s3 hv4 hvm t3 f3
          have hR3 := f3.get hR2 (by simp; omega)
          have hW4 := f3.get hW3 (by simp; omega)
          obtain ⟨i, s4, e4, b4, t4, f4⟩ := drawI t3 5 (by decide) (by decide)
          have hW5 := f4.get hW4 (by simp; omega)
          have hR5 := f4.get hR3 (by simp; omega)
          have hil : i < ws.length := by omega
          have eL := lenL hW4
          rw [sL_len, h5] at eL
          have eL : fLen [.ref W] s3 = .ok (.int 5) s3 := eL
          have ew := ix_fs hW5 (List.getElem?_eq_getElem hil)
          have hgw := hg ws[i] (List.getElem_mem hil)
          generalize ws[i] = w at *
          refine s_seq (s_set (v := .str (S w)) (st' := s4) (fun K E k => ?_) ?_)
          · simp only [wp_mBin, wp_mCall, wp_mCons, wp_mFn, wp_mVar, wp_mNil, List.getElem?_cons_zero, List.getElem?_cons_succ, eL, wp_ok, e4, ew]
            exact k
          have fin : ∀ (w : List Nat) (s5 : Store), goodW w → TapeAt s5 → Fr [1] s4 s5 → wpS (kSeq (kExpr (mM fAppend (mRecv "list" (mVar 3)) (mCons (mTup (mCons (mVar 7) (mCons (mVar 6) mNil))) mNil)))
  (kSet 4 (mBin fSub (mBin fAdd (mVar 4) (mVar 6)) (mC (.int 1)))) [some (.ref 1), some (.ref W), some (.int (most : Nat)), some (.ref s.length), some (.int (need : Nat)), some (.int (0 + (j : Int))), some (.int (v : Nat)), some (.str (S w))] s5)
              (fun env s' => ∃ (need : Nat) (row : List (List Nat × Nat)) (x5 x6 x7 : Option D), env = [some (.ref 1), some (.ref W), some (.int (most : Nat)), some (.ref s.length), some (.int (need : Nat)), x5, x6, x7] ∧
      s'[s.length]? = some (.lst (rowD row)) ∧ s'[W]? = some (.lst (sL ws)) ∧ runs 1 row need ∧ row.length + need ≤ most ∧ (need = 0 ∨ row.length = j + 1) ∧ (∀ p ∈ row, goodW p.1 ∧ p.2 ≤ 4) ∧ TapeAt s' ∧ Fr [1] s s') (fun d s' => ∃ row, d = .tup (rowD row) ∧ goodRow row ∧ TapeAt s' ∧ Fr [1] s s') (fun _ _ _ _ => False) := by
            intro w s5 hgw t5 f5
            have hR6 := f5.get hR5 (by simp; omega)
            have hW6 := f5.get hW5 (by simp; omega)
            have ea := f_append (y := .tup [.str (S w), .int (v : Nat)]) hR6 (show (rowD row).length < 1000000 by simp; omega)
            refine s_seq (s_expr (v := .non) (st' := s5.set s.length (.lst (rowD row ++ [.tup [.str (S w), .int (v : Nat)]]))) (fun K E k => by simp [rec_l hR6, ea]; exact k) ?_)
            refine s_set (v := .int ((need - 1 + v : Nat) : Int)) (st' := s5.set s.length (.lst (rowD row ++ [.tup [.str (S w), .int (v : Nat)]]))) (fun K E k => ?_) ⟨need - 1 + v, row ++ [(w, v)], _, _, _, rfl, ?_, by rw [set_no (by omega)]; exact hW6, runs_snoc row 1 need w v hrun hb, by simp; omega, .inr (by simp; omega), ?_, t5.set (by omega), (((f1.trans f2).trans f3).trans (f4.trans f5)).set (.inl (Nat.le_refl _))⟩
            · have : (need : Int) + (v : Int) - 1 = ((need - 1 + v : Nat) : Int) := by omega
              simp only [wp_mBin, wp_mC, wp_mVar, List.getElem?_cons_zero, List.getElem?_cons_succ, f_add_i, wp_ok, f_sub, this]
              exact k
            · rw [set_at hR6]; simp [rowD]
            · intro p hp
              rcases List.mem_append.mp hp with hp | hp
              · exact hgr p hp
              · simp at hp; subst hp; exact ⟨hgw, hv4⟩
          by_cases hv0 : v = 0
          · subst hv0
            obtain ⟨q, s5, e5, b5, t5, f5⟩ := drawI t4 5 (by decide) (by decide)
            refine s_seq (s_if (b := decide ((q : Int) = 1)) (st' := s5) (fun K E k => by simp [e5]; exact k) (fun _ => ?_) fun _ => s_skip ?_)
            · refine s_set (v := .str (S [46])) (st' := s5) (fun K E k => by simp; exact k) ?_
              exact fin [46] s5 ⟨by simp, fun c hc => by simp at hc; omega⟩ t5 f5
            · exact fin w s5 hgw t5 f5
          · refine s_seq (s_if (b := false) (st' := s4) (fun K E k => ?_) (fun h => by cases h) fun _ => s_skip ?_)
            · have : ¬ (v : Int) = 0 := by omega
              simp [this, hv0]; exact k
            · exact fin w s4 hgw t4 Fr.refl
        refine s_seq (s_if (b := decide (v1 = 0 ∧ need = 1 ∧ j < 2)) (st' := s2) (fun K E k => ?_) (fun hb2 => ?_) fun hb2 => s_skip ?_)
        · by_cases q1 : v1 = 0
          · by_cases q2 : need = 1
            · have : decide ((j : Int) < 2) = decide (j < 2) := by
                by_cases q : j < 2
                · rw [decide_eq_true q, decide_eq_true (by omega)]
                · rw [decide_eq_false q, decide_eq_false (by omega)]
              subst q1; subst q2
              simp at k ⊢
              rw [this]; exact k
            · have z : ¬ (need : Int) = 1 := by omega
              subst q1
              simp [q2, z] at k ⊢; exact k
          · have z : ¬ (v1 : Int) = 0 := by omega
            simp [q1, z] at k ⊢; exact k
        · obtain ⟨v2, s3, e2, b2, b2', t3, f3⟩ := dr s2 t2 hR2 (some (.int (v1 : Nat)))
          refine s_set (v := .int (v2 : Nat)) (st' := s3) (fun K E k => by have := e2; simp only [List.set_cons_succ, List.set_cons_zero]; rw [this]; exact k) ?_
          exact rest v2 s3 b2 b2' t3 f3
        · exact rest v1 s2 b1 b1' t2 Fr.refl
      · have hb := of_decide_eq_false hb
        refine ⟨need, row, _, _, _, rfl, hR, hWs, hrun, hlen, .inl (by omega), hgr, t1, f1⟩
    · rintro env s1 ⟨need, row, x5, x6, x7, rfl, hR, hWs, hrun, hlen, hnj, hgr, t1, f1⟩
      rw [rng_len] at hnj
      have hn0 : need = 0 := by omega
      subst hn0
      obtain ⟨g1, g2⟩ := runs_ok row 1 hrun
      have et : fTuple [.ref s.length] s1 = .ok (.tup (rowD row)) s1 := by unfold fTuple; simp only [items_l hR]
      exact s_ret (v := .tup (rowD row)) (st' := s1) (fun K E k => by simp [et]; exact k) ⟨row, rfl, ⟨g1, g2, by omega, hgr⟩, t1, f1⟩
  obtain ⟨d, s', e, row, rfl, h3, h4, h5⟩ := wp_get key
  exact ⟨row, s', e, h3, h4, h5⟩
end K65
/-! ## Sp23 -/
set_option Elab.async false
set_option linter.all false
set_option maxRecDepth 100000
set_option maxHeartbeats 4000000
namespace K65
open PySem L2 SX Mi
variable {l a : List Nat} {c : Nat}
theorem lc_words {s : Store} {env : Mi.Env} {m : ME} (hi : 6 < env.length) (hm : ∀ (k : Nat) (s' : Store), k < 5 → Fr [] s s' → ∃ w, goodW w ∧ m ((wipeE env [6]).set 6 (some (.int (0 + (k : Int))))) s' = .ok (.str (S w)) s') :
    ∃ (ws : List (List Nat)) (s' : Store), mLc (iRng1 (mCons (mC (.int 5)) mNil)) [6] (gN 6) mYes m env s = .ok (.ref s.length) s' ∧ s'[s.length]? = some (.lst (sL ws)) ∧ ws.length = 5 ∧ (∀ w ∈ ws, goodW w) ∧ Fr [] s s' := by
  obtain ⟨acc, s2, e2, ⟨ws, q2, q5, q6⟩, q3, q4⟩ := c_lc (env := env) (st := s) (st' := s) (mi := iRng1 (mCons (mC (.int 5)) mNil)) (src := sItems (rng 0 5)) (own := [6]) (g := gN 6) (t := mYes) (m := m)
    (rng 0 5) (fun j acc s' => (∃ ws : List (List Nat), acc = sL ws ∧ ws.length = j ∧ ∀ w ∈ ws, goodW w) ∧ s'[s.length]? = some (.lst acc) ∧ Fr [] s s') (ev_rng1 (n := 5) rfl (by decide)) rfl
    ⟨⟨[], rfl, rfl, (fun _ h => nomatch h)⟩, app_new, Fr.refl.app⟩ (fun _ _ _ _ => rfl) (fun _ _ _ h => h.2.1) (fun j x acc s' hd h => by
      obtain ⟨⟨ws, rfl, hl, hg⟩, hs, fr⟩ := h
      obtain ⟨hj, rfl⟩ := rng_get hd
      obtain ⟨w, gw, e⟩ := hm j s' hj fr
      exact ⟨_, true, s', rfl, rfl, (fun h => by cases h), fun _ => ⟨.str (S w), s', e, hs, by simp; omega, ⟨ws ++ [w], by rw [sL_app]; rfl, by simp [hl], fun v hv => by
        rcases List.mem_append.mp hv with hv | hv
        · exact hg v hv
        · simp at hv; subst hv; exact gw⟩, set_at hs, fr.set (.inl (Nat.le_refl _))⟩⟩)
  subst q2
  rw [rng_len] at q5
  exact ⟨ws, s2, e2, q3, q5, q6, q4⟩
theorem sl_to {a : List Nat} {j : Nat} : Txt.slice (S a) none (some (j : Int)) = S (a.take j) := by
  have e : Txt.slice (S a) none (some (j : Int)) = Txt.slice (S a) (some ((0 : Nat) : Int)) (some (j : Int)) := by
    unfold Txt.slice Builtin.Str.strSliceIndices
    simp [show max (0 : Int) (min 0 (a.length : Int)) = 0 by omega]
  rw [e, sl_mid (Nat.zero_le _) (Nat.zero_le _), List.drop_zero, Nat.sub_zero]
theorem sl_fr {a : List Nat} {i : Nat} (h : i ≤ a.length) : Txt.slice (S a) (some (i : Int)) none = S (a.drop i) := by
  have e : Txt.slice (S a) (some (i : Int)) none = Txt.slice (S a) (some (i : Int)) (some (a.length : Int)) := by
    unfold Txt.slice Builtin.Str.strSliceIndices
    simp [show ¬ (a.length : Int) < 0 by omega, show max (0 : Int) (min (a.length : Int) (a.length : Int)) = a.length by omega]
  rw [e, sl_mid h h, List.take_of_length_le (by simp)]
theorem sl_toI {a : List Nat} {j : Int} (h : 0 ≤ j) : Txt.slice (S a) none (some j) = S (a.take j.toNat) := by
  obtain ⟨n, rfl⟩ := Int.eq_ofNat_of_zero_le h
  exact sl_to
theorem sl_frI {a : List Nat} {j : Int} (h : 0 ≤ j) (h2 : j ≤ a.length) : Txt.slice (S a) (some j) none = S (a.drop j.toNat) := by
  obtain ⟨n, rfl⟩ := Int.eq_ofNat_of_zero_le h
  exact sl_fr (by omega)
theorem bz_ix (i : Nat) (h : i < 5) : ∃ c, c < 128 ∧ ∀ s, fIx (.str (S [98, 45, 48, 122, 97])) (.int (0 + (i : Int))) s = .ok (.str (S [c])) s := by
  have : ∀ i : Nat, i < 5 → (([98, 45, 48, 122, 97] : List Nat)[i]?.any fun c => decide (c < 128)) = true := by decide
  have q := this i h
  cases e : ([98, 45, 48, 122, 97] : List Nat)[i]? with
  | none => rw [e] at q; cases q
  | some c =>
    rw [e] at q
    refine ⟨c, of_decide_eq_true q, fun s => Ev.eq fun K E k => ?_⟩
    rw [Int.zero_add, f_ix_s, if_pos (by decide), atI_k, e]
    exact k
theorem str_k (k : Nat) (h : k < 5) {s : Store} : ∃ d, d < 128 ∧ fStr [.int (0 + (k : Int))] s = .ok (.str (S [d])) s := by
  rw [Int.zero_add]
  match k, h with
  | 0, _ => exact ⟨48, by decide, figs_str (w := [48]) rfl⟩
  | 1, _ => exact ⟨49, by decide, figs_str (w := [49]) rfl⟩
  | 2, _ => exact ⟨50, by decide, figs_str (w := [50]) rfl⟩
  | 3, _ => exact ⟨51, by decide, figs_str (w := [51]) rfl⟩
  | 4, _ => exact ⟨52, by decide, figs_str (w := [52]) rfl⟩
  | k + 5, h => exact absurd h (by omega)
theorem sl_10 : Txt.slice (S LET) none (some 10) = S (LET.take 10) := sl_to (j := 10)
theorem LET_len : LET.length = 26 := rfl
theorem OTH_len : OTH.length = 11 := rfl
theorem L10_len : (LET.take 10).length = 10 := rfl
theorem let_at (i : Nat) (h : i < 26) : ∃ c, LET[i]? = some c ∧ c < 128 := by
  have : ∀ i : Nat, i < 26 → (LET[i]?.any fun c => decide (c < 128)) = true := by decide
  have q := this i h
  cases e : LET[i]? with
  | none => rw [e] at q; cases q
  | some c => rw [e] at q; exact ⟨c, rfl, of_decide_eq_true q⟩
theorem let_ix (i : Nat) (h : i < 26) : ∃ c, c < 128 ∧ ∀ s, fIx (.str (S LET)) (.int (i : Nat)) s = .ok (.str (S [c])) s := by
  obtain ⟨c, hc, hc2⟩ := let_at i h
  refine ⟨c, hc2, fun s => Ev.eq fun K E k => ?_⟩
  rw [f_ix_s, if_pos (by decide), atI_k, hc]
  exact k
theorem let_asc : Asc LET := by unfold Asc LET; decide
theorem lok_at (i : Nat) (h : i < 37) : ∃ c, c < 128 ∧ ∀ s, fIx (.str (S (LET ++ OTH))) (.int (i : Nat)) s = .ok (.str (S [c])) s := by
  have : ∀ i : Nat, i < 37 → ((LET ++ OTH)[i]?.any fun c => decide (c < 128)) = true := by decide
  have q := this i h
  cases e : (LET ++ OTH)[i]? with
  | none => rw [e] at q; cases q
  | some c =>
    rw [e] at q
    refine ⟨c, of_decide_eq_true q, fun s => Ev.eq fun K E k => ?_⟩
    rw [f_ix_s, if_pos (by decide), atI_k, e]
    exact k
theorem mod26 (x : Int) : ∃ i : Nat, x % 26 = (i : Int) ∧ i < 26 := by
  refine ⟨(x % 26).toNat, ?_, ?_⟩
  · rw [Int.toNat_of_nonneg (Int.emod_nonneg _ (by decide))]
  · have := Int.emod_lt_of_pos x (show (0 : Int) < 26 by decide)
    have := Int.emod_nonneg x (show (26 : Int) ≠ 0 by decide)
    omega
theorem asc_app {a b : List Nat} (h1 : Asc a) (h2 : Asc b) : Asc (a ++ b) := fun c hc => by
  rcases List.mem_append.mp hc with hc | hc
  · exact h1 c hc
  · exact h2 c hc
theorem asc_sub {a b : List Nat} (h : Asc b) (hs : ∀ c ∈ a, c ∈ b) : Asc a := fun c hc => h c (hs c hc)
theorem asc_take {a : List Nat} {n : Nat} (h : Asc a) : Asc (a.take n) := asc_sub h fun _ hc => List.mem_of_mem_take hc
theorem asc_drop {a : List Nat} {n : Nat} (h : Asc a) : Asc (a.drop n) := asc_sub h fun _ hc => List.mem_of_mem_drop hc
theorem asc_one {c : Nat} (h : c < 128) : Asc [c] := fun d hd => by simp at hd; subst hd; exact h
theorem m2_el {L : List Nat} {c0 fi : Nat} {x0 x1 x4 x5 x7 x8 : Option D} {s' : Store} {a k q : Int} (hL : L.length = 26) (ec0 : fIx (.str (S L)) (.int (fi : Nat)) s' = .ok (.str (S [c0])) s') (em : fMulA (.int a) (.int k) s' = .ok (.int q) s') (nn : 0 ≤ q) :
    mBin fAdd (mBin fIx (mVar 2) (mVar 3)) (mSl (mBin fAdd (mC (.str (S [48, 45]))) (mSl (mVar 2) mON (mOS (mC (.int 10))))) mON (mOS (mBin fMulA (mVar 9) (mVar 6)))) [x0, x1, some (.str (S L)), some (.int (fi : Nat)), x4, x5, some (.int k), x7, x8, some (.int a)] s' = .ok (.str (S ([c0] ++ ([48, 45] ++ L.take 10).take q.toNat))) s' := Ev.eq fun K E kk => by
  have hT : (L.take 10).length = 10 := by rw [List.length_take, hL]; rfl
  have e10 : Txt.slice (S L) none (some 10) = S (L.take 10) := sl_to (j := 10)
  generalize L.take 10 = T at *
  have h1 : (S [48, 45]).length + (S T).length ≤ 1000000 := by rw [S_len, S_len, hT, List.length_cons, List.length_singleton]; omega
  have h3 : ([48, 45] ++ T).length ≤ 1000000 := by rw [List.length_append, hT, List.length_cons, List.length_singleton]; omega
  have h2 : (S [c0]).length + (S (([48, 45] ++ T).take q.toNat)).length ≤ 1000000 := by
    have h4 : (([48, 45] ++ T).take q.toNat).length ≤ ([48, 45] ++ T).length := by rw [List.length_take]; exact Nat.min_le_right _ _
    rw [List.length_append, hT, List.length_cons, List.length_singleton] at h4
    rw [S_len, S_len, List.length_singleton]; omega
  simp only [wp_mBin, wp_mC, wp_mVar, wp_mSl, wp_mOS, wp_mON, List.getElem?_cons_zero, List.getElem?_cons_succ, ec0, em, wp_ok, f_sl_s, if_pos (show L.length ≤ 1000000 by omega), e10, f_add_s, if_pos h1, f_cat, if_pos h3, sl_toI nn, if_pos h2]
  exact kk
/-- the end: the words turned -/
theorem words_end {s s1 : Store} {ws : List (List Nat)} {R : Nat} {t : Nat} {x1 x2 x3 x6 x7 x8 x9 : Option D} (hR : s1[R]? = some (.lst (sL ws))) (hl : ws.length = 5) (hg : ∀ w ∈ ws, goodW w) (ht : t < 5) (tp : TapeAt s1) (fr : Fr [1] s s1) :
    wpS (kRet (mBin fAdd (mSl (mVar 5) (mOS (mVar 4)) mON) (mSl (mVar 5) mON (mOS (mVar 4)))) [some (.ref 1), x1, x2, x3, some (.int (t : Nat)), some (.ref R), x6, x7, x8, x9] s1) (fun _ _ => False)
      (fun d s' => ∃ (ws : List (List Nat)) (r : Nat), d = .ref r ∧ s'[r]? = some (.lst (sL ws)) ∧ ws.length = 5 ∧ (∀ w ∈ ws, goodW w) ∧ 2 ≤ r ∧ TapeAt s' ∧ Fr [1] s s') (fun _ _ _ _ => False) := by
  have c1 : cutD (sL ws) (some (t : Int)) none = sL (ws.drop t) := by
    unfold cutD
    have e1 : HT.sIx (sL ws).length 0 (some (t : Int)) = t := by rw [sL_len, hl]; show (if (t : Int) < 0 then ((t : Int) + ((5 : Nat) : Int)).toNat else min (t : Int).toNat 5) = t; rw [if_neg (by omega)]; omega
    rw [e1]
    show ((sL ws).drop t).take ((sL ws).length - t) = _
    rw [List.take_of_length_le (by simp)]
    unfold sL; rw [List.map_drop]
  have c2 : cutD (sL ws) none (some (t : Int)) = sL (ws.take t) := by
    unfold cutD
    have e1 : HT.sIx (sL ws).length (sL ws).length (some (t : Int)) = t := by rw [sL_len, hl]; show (if (t : Int) < 0 then ((t : Int) + ((5 : Nat) : Int)).toNat else min (t : Int).toNat 5) = t; rw [if_neg (by omega)]; omega
    rw [e1]
    show ((sL ws).drop 0).take (t - 0) = _
    rw [List.drop_zero, Nat.sub_zero]
    unfold sL; rw [List.map_take]
  have f1 : fSl (.ref R) (some (t : Int)) none s1 = .ok (.ref s1.length) (s1 ++ [.lst (sL (ws.drop t))]) := by
    unfold fSl; simp only [items_l hR, c1]
  have hR2 : (s1 ++ [Ob.lst (sL (ws.drop t))])[R]? = some (.lst (sL ws)) := app_at hR
  have hA : (s1 ++ [Ob.lst (sL (ws.drop t))])[s1.length]? = some (.lst (sL (ws.drop t))) := app_new
  have tp2 : TapeAt (s1 ++ [Ob.lst (sL (ws.drop t))]) := tp.app
  have fr2 : Fr [1] s (s1 ++ [Ob.lst (sL (ws.drop t))]) := fr.app
  have h2 := tp.two
  have hlen2 : s1.length < (s1 ++ [Ob.lst (sL (ws.drop t))]).length := by simp
  generalize s1 ++ [Ob.lst (sL (ws.drop t))] = s2 at *
  have f2 : fSl (.ref R) none (some (t : Int)) s2 = .ok (.ref s2.length) (s2 ++ [.lst (sL (ws.take t))]) := by
    unfold fSl; simp only [items_l hR2, c2]
  have hA2 : (s2 ++ [Ob.lst (sL (ws.take t))])[s1.length]? = some (.lst (sL (ws.drop t))) := app_at hA
  have hB2 : (s2 ++ [Ob.lst (sL (ws.take t))])[s2.length]? = some (.lst (sL (ws.take t))) := app_new
  have tp3 : TapeAt (s2 ++ [Ob.lst (sL (ws.take t))]) := tp2.app
  have fr3 : Fr [1] s (s2 ++ [Ob.lst (sL (ws.take t))]) := fr2.app
  generalize s2 ++ [Ob.lst (sL (ws.take t))] = s3 at *
  have f3 : fAdd (.ref s1.length) (.ref s2.length) s3 = .ok (.ref s3.length) (s3 ++ [.lst (sL (ws.drop t ++ ws.take t))]) := by
    unfold fAdd
    simp only [hA2, hB2]
    rw [if_pos (by simp; omega), sL_app]
  refine s_ret (v := .ref s3.length) (st' := s3 ++ [.lst (sL (ws.drop t ++ ws.take t))]) (fun K E k => ?_) ⟨ws.drop t ++ ws.take t, s3.length, rfl, app_new, by simp; omega, fun w hw => ?_, tp3.two, tp3.app, fr3.app⟩
  · simp only [wp_mBin, wp_mSl, wp_mOS, wp_mON, wp_mVar, List.getElem?_cons_zero, List.getElem?_cons_succ, f1, wp_ok, f2, f3]
    exact k
  · rcases List.mem_append.mp hw with hw | hw
    · exact hg w (List.mem_of_mem_drop hw)
    · exact hg w (List.mem_of_mem_take hw)
theorem words_eq {s : Store} (h : TapeAt s) : ∃ (ws : List (List Nat)) (r : Nat) (s' : Store), m_law_words [.ref 1] s = .ok (.ref r) s' ∧ s'[r]? = some (.lst (sL ws)) ∧ ws.length = 5 ∧ (∀ w ∈ ws, goodW w) ∧ 2 ≤ r ∧ TapeAt s' ∧ Fr [1] s s' := by
  have key : wp (m_law_words [.ref 1] s) (fun d s' => ∃ (ws : List (List Nat)) (r : Nat), d = .ref r ∧ s'[r]? = some (.lst (sL ws)) ∧ ws.length = 5 ∧ (∀ w ∈ ws, goodW w) ∧ 2 ≤ r ∧ TapeAt s' ∧ Fr [1] s s') fun _ _ _ => False := by
    refine wp_def (show wpS (b_law_words [some (.ref 1), none, none, none, none, none, none, none, none, none] s) _ _ _ from ?_)
    obtain ⟨m, s1, e1, b1, t1, f1⟩ := drawI h 4 (by decide) (by decide)
    refine s_seq (s_set (v := .int (m : Nat)) (st' := s1) (fun K E k => by simp [e1]; exact k) ?_)
    refine s_seq (s_set (v := .str (S LET)) (st' := s1) (fun K E k => by simp; exact k) ?_)
    obtain ⟨fi, s2, e2, b2, t2, f2⟩ := drawI t1 26 (by decide) (by decide)
    refine s_seq (s_set (v := .int (fi : Nat)) (st' := s2) (fun K E k => by simp [e2]; exact k) ?_)
    obtain ⟨tu, s3, e3, b3, t3, f3⟩ := drawI t2 5 (by decide) (by decide)
    refine s_seq (s_set (v := .int (tu : Nat)) (st' := s3) (fun K E k => by simp [e3]; exact k) ?_)
    refine s_seq (s_set (v := .ref s3.length) (st' := s3 ++ [.lst []]) (fun K E k => by simp; exact k) ?_)
    have t4 : TapeAt (s3 ++ [Ob.lst []]) := t3.app
    have f4 : Fr [1] s (s3 ++ [Ob.lst []]) := ((f1.trans f2).trans f3).app
    generalize hR0 : s3.length = R0
    generalize s3 ++ [Ob.lst []] = s4 at *
    obtain ⟨c0, hc0, ec0⟩ := let_ix fi (by omega)
    have done : ∀ {N : Mi.Env → Store → Prop} {o : SOut}, wpS o (fun _ _ => False) (fun d s' => ∃ (ws : List (List Nat)) (r : Nat), d = .ref r ∧ s'[r]? = some (.lst (sL ws)) ∧ ws.length = 5 ∧ (∀ w ∈ ws, goodW w) ∧ 2 ≤ r ∧ TapeAt s' ∧ Fr [1] s s') (fun _ _ _ _ => False) → wpS o N (fun d s' => ∃ (ws : List (List Nat)) (r : Nat), d = .ref r ∧ s'[r]? = some (.lst (sL ws)) ∧ ws.length = 5 ∧ (∀ w ∈ ws, goodW w) ∧ 2 ≤ r ∧ TapeAt s' ∧ Fr [1] s s') (fun _ _ _ _ => False) := fun h => wpS_mono h (fun _ _ h => h.elim) (fun _ _ h => h) (fun _ _ _ _ h => h)
    match m, b1 with
    | 0, _ =>
      obtain ⟨ws, s5, e5, h5, l5, g5, f5⟩ := lc_words (s := s4) (env := [some (.ref 1), some (.int ((0 : Nat) : Int)), some (.str (S LET)), some (.int (fi : Nat)), some (.int (tu : Nat)), some (.ref R0), none, none, none, none]) (m := mBin fIx (mVar 2) (mBin fMod (mBin fAdd (mVar 3) (mBin fMulA (mC (.int 7)) (mVar 6))) (mC (.int 26)))) (by simp) (fun k s' hk _ => by
        obtain ⟨i, hi, hi2⟩ := mod26 ((fi : Int) + 7 * (0 + (k : Int)))
        obtain ⟨c, hc, ec⟩ := let_ix i hi2
        refine ⟨[c], ⟨by simp, asc_one hc⟩, Ev.eq fun K E kk => ?_⟩
        have em := fmul_of (i := 7) (j := 0 + (k : Int)) (s := s') (by unfold big; omega)
        simp only [wipeE, List.set_cons_succ, List.set_cons_zero, wp_mBin, wp_mC, wp_mVar, List.getElem?_cons_zero, List.getElem?_cons_succ, em, wp_ok, f_add_i, f_mod]
        rw [if_pos (by decide), hi, ec]; exact kk)
      refine s_seq (s_if (b := true) (st' := s4) (fun K E k => by simp; exact k) (fun _ => ?_) (fun h => by cases h))
      refine s_set (v := .ref s4.length) (st' := s5) (fun K E k => by have := e5; simp only [List.set_cons_succ, List.set_cons_zero]; rw [this]; exact k) ?_
      refine s_seq (s_if (b := false) (st' := s5) (fun K E k => by simp; exact k) (fun h => by cases h) fun _ => s_skip ?_)
      refine s_seq (s_if (b := false) (st' := s5) (fun K E k => by simp; exact k) (fun h => by cases h) fun _ => s_skip ?_)
      refine s_seq (s_if (b := false) (st' := s5) (fun K E k => by simp; exact k) (fun h => by cases h) fun _ => s_skip ?_)
      exact done (words_end h5 l5 g5 (by omega) (t4.keep f5) (f4.trans f5.nil))
    | 1, _ =>
      refine s_seq (s_if (b := false) (st' := s4) (fun K E k => by simp; exact k) (fun h => by cases h) fun _ => s_skip ?_)
      refine s_seq (s_if (b := true) (st' := s4) (fun K E k => by simp; exact k) (fun _ => ?_) (fun h => by cases h))
      refine s_seq (s_set (v := .str (S [c0])) (st' := s4) (fun K E k => by
        simp only [List.set_cons_succ, List.set_cons_zero, wp_mBin, wp_mVar, List.getElem?_cons_zero, List.getElem?_cons_succ, ec0, wp_ok]; exact k) ?_)
      obtain ⟨n, s5, e5, b5, t5, f5⟩ := drawI t4 15 (by decide) (by decide)
      refine s_seq (s_for (src := sItems (rng 0 n)) (st' := s5) (rng 0 n) (fun j env s' => ∃ (w : List Nat) (x6 : Option D), env = [some (.ref 1), some (.int ((1 : Nat) : Int)), some (.str (S LET)), some (.int (fi : Nat)), some (.int (tu : Nat)), some (.ref R0), x6, some (.str (S w)), none, none] ∧ w.length = j + 1 ∧ Asc w ∧ TapeAt s' ∧ Fr [1] s s')
        (ev_rng1' (n := n) (s' := s5) (Ev.eq fun K E k => by simp [e5]; exact k) (by omega)) rfl ⟨[c0], none, rfl, rfl, asc_one hc0, t5, f4.trans f5⟩ (fun _ _ _ _ => rfl) ?_ ?_)
      · rintro j d env s' hd ⟨w, x6, rfl, hwl, haw, t', f'⟩
        obtain ⟨hj, rfl⟩ := rng_get hd
        obtain ⟨i, s6, e6, b6, t6, f6⟩ := drawI t' 37 (by decide) (by decide)
        obtain ⟨c, hc, ec⟩ := lok_at i (by omega)
        refine ⟨_, rfl, ?_⟩
        refine s_set (v := .str (S (w ++ [c]))) (st' := s6) (fun K E k => ?_) ⟨w ++ [c], _, rfl, by simp [hwl], asc_app haw (asc_one hc), t6, f'.trans f6⟩
        have hw : (S w).length + (S [c]).length ≤ 1000000 := by simp only [S_len]; simp [hwl]; omega
        have hL : (S LET).length + (S OTH).length ≤ 1000000 := by rw [S_len, S_len, LET_len, OTH_len]; omega
        simp only [List.set_cons_succ, List.set_cons_zero, wp_mBin, wp_mC, wp_mVar, wp_mCall, wp_mCons, wp_mNil, List.getElem?_cons_zero, List.getElem?_cons_succ, lit_3, f_add_s, if_pos hL, if_pos hw, e6, wp_ok, ec, f_cat]
        exact k
      · rintro env s' ⟨w, x6, rfl, hwl, haw, t', f'⟩
        rw [rng_len] at hwl
        have hlen : w.length ≤ 15 := by omega
        obtain ⟨p, s6, e6, b6, t6, f6⟩ := drawI t' (w.length : Nat) (by omega) (by omega)
        refine s_seq (s_set (v := .int (1 + (p : Nat))) (st' := s6) (fun K E k => by
          simp only [List.set_cons_succ, List.set_cons_zero, wp_mBin, wp_mC, wp_mVar, wp_mCall, wp_mCons, wp_mNil, wp_mFn, List.getElem?_cons_zero, List.getElem?_cons_succ, f_len_s, if_pos (show w.length ≤ 1000000 by omega), e6, wp_ok, f_add_i]
          exact k) ?_)
        obtain ⟨ws, s5, e5, h5, l5, g5, f5⟩ := lc_words (s := s6) (env := [some (.ref 1), some (.int ((1 : Nat) : Int)), some (.str (S LET)), some (.int (fi : Nat)), some (.int (tu : Nat)), some (.ref R0), x6, some (.str (S w)), some (.int (1 + (p : Nat))), none]) (m := mBin fAdd (mBin fAdd (mSl (mVar 7) mON (mOS (mVar 8))) (mBin fIx (mC (.str "b-0za")) (mVar 6))) (mSl (mVar 7) (mOS (mVar 8)) mON)) (by simp) (fun k s' hk _ => by
          obtain ⟨c, hc, ec⟩ := bz_ix k hk
          have ht : (w.take ((1 : Int) + (p : Nat)).toNat).length ≤ 15 := by simp; omega
          have hd : (w.drop ((1 : Int) + (p : Nat)).toNat).length ≤ 15 := by simp; omega
          refine ⟨w.take ((1 : Int) + (p : Nat)).toNat ++ [c] ++ w.drop ((1 : Int) + (p : Nat)).toNat, ⟨by simp only [List.length_append, List.length_singleton]; omega, asc_app (asc_app (asc_take haw) (asc_one hc)) (asc_drop haw)⟩, Ev.eq fun K E kk => ?_⟩
          have h1 : (S (w.take ((1 : Int) + (p : Nat)).toNat)).length + (S [c]).length ≤ 1000000 := by simp only [S_len, List.length_singleton]; omega
          have h2 : (S (w.take ((1 : Int) + (p : Nat)).toNat ++ [c])).length + (S (w.drop ((1 : Int) + (p : Nat)).toNat)).length ≤ 1000000 := by simp only [S_len, List.length_append, List.length_singleton]; omega
          simp only [wipeE, List.set_cons_succ, List.set_cons_zero, wp_mBin, wp_mC, wp_mVar, wp_mSl, wp_mOS, wp_mON, List.getElem?_cons_zero, List.getElem?_cons_succ, lit_76, ec, wp_ok, f_sl_s, if_pos (show w.length ≤ 1000000 by omega), sl_toI (show (0 : Int) ≤ 1 + (p : Nat) by omega), sl_frI (show (0 : Int) ≤ 1 + (p : Nat) by omega) (show (1 : Int) + (p : Nat) ≤ w.length by omega), f_add_s, if_pos h1, f_cat, if_pos h2]
          exact kk)
        refine s_set (v := .ref s6.length) (st' := s5) (fun K E k => by have := e5; simp only [List.set_cons_succ, List.set_cons_zero]; rw [this]; exact k) ?_
        refine s_seq (s_if (b := false) (st' := s5) (fun K E k => by simp; exact k) (fun h => by cases h) fun _ => s_skip ?_)
        refine s_seq (s_if (b := false) (st' := s5) (fun K E k => by simp; exact k) (fun h => by cases h) fun _ => s_skip ?_)
        exact done (words_end h5 l5 g5 (by omega) (t6.keep f5) ((f'.trans f6).trans f5.nil))
    | 2, _ =>
      refine s_seq (s_if (b := false) (st' := s4) (fun K E k => by simp; exact k) (fun h => by cases h) fun _ => s_skip ?_)
      refine s_seq (s_if (b := false) (st' := s4) (fun K E k => by simp; exact k) (fun h => by cases h) fun _ => s_skip ?_)
      obtain ⟨n, s5, e5, b5, t5, f5⟩ := drawI t4 3 (by decide) (by decide)
      refine s_seq (s_if (b := true) (st' := s4) (fun K E k => by simp; exact k) (fun _ => ?_) (fun h => by cases h))
      refine s_seq (s_set (v := .int (1 + (n : Nat))) (st' := s5) (fun K E k => by simp [e5]; exact k) ?_)
      obtain ⟨ws, s6, e6, h6, l6, g6, f6⟩ := lc_words (s := s5) (env := [some (.ref 1), some (.int ((2 : Nat) : Int)), some (.str (S LET)), some (.int (fi : Nat)), some (.int (tu : Nat)), some (.ref R0), none, none, none, some (.int (1 + (n : Nat)))]) (m := mBin fAdd (mBin fIx (mVar 2) (mVar 3)) (mSl (mBin fAdd (mC (.str "0-")) (mSl (mVar 2) mON (mOS (mC (.int 10))))) mON (mOS (mBin fMulA (mVar 9) (mVar 6))))) (by simp) (fun k s' hk _ => by
        have em := fmul_of (i := 1 + (n : Nat)) (j := 0 + (k : Int)) (s := s') (by unfold big; omega)
        have nn : (0 : Int) ≤ (1 + (n : Nat)) * (0 + (k : Int)) := Int.mul_nonneg (by omega) (by omega)
        generalize (1 + (n : Int)) * (0 + (k : Int)) = q at em nn
        have ht : (([48, 45] ++ LET.take 10).take q.toNat).length ≤ 12 := by
          have : ([48, 45] ++ LET.take 10).length = 12 := by decide
          rw [List.length_take, this]; omega
        have ha : Asc (([48, 45] ++ LET.take 10).take q.toNat) := asc_take (by unfold Asc LET; decide)
        refine ⟨[c0] ++ ([48, 45] ++ LET.take 10).take q.toNat, ⟨by simp only [List.length_append, List.length_singleton]; omega, asc_app (asc_one hc0) ha⟩, ?_⟩
        rw [lit_77]
        exact m2_el LET_len (ec0 s') em nn)
      refine s_set (v := .ref s5.length) (st' := s6) (fun K E k => by have := e6; simp only [List.set_cons_succ, List.set_cons_zero]; rw [this]; exact k) ?_
      refine s_seq (s_if (b := false) (st' := s6) (fun K E k => by simp; exact k) (fun h => by cases h) fun _ => s_skip ?_)
      exact done (words_end h6 l6 g6 (by omega) (t5.keep f6) ((f4.trans f5).trans f6.nil))
    | 3, _ =>
      refine s_seq (s_if (b := false) (st' := s4) (fun K E k => by simp; exact k) (fun h => by cases h) fun _ => s_skip ?_)
      refine s_seq (s_if (b := false) (st' := s4) (fun K E k => by simp; exact k) (fun h => by cases h) fun _ => s_skip ?_)
      refine s_seq (s_if (b := false) (st' := s4) (fun K E k => by simp; exact k) (fun h => by cases h) fun _ => s_skip ?_)
      obtain ⟨ws, s5, e5, h5, l5, g5, f5⟩ := lc_words (s := s4) (env := [some (.ref 1), some (.int ((3 : Nat) : Int)), some (.str (S LET)), some (.int (fi : Nat)), some (.int (tu : Nat)), some (.ref R0), none, none, none, none]) (m := mBin fAdd (mBin fIx (mVar 2) (mBin fMod (mBin fAdd (mVar 3) (mBin fDiv (mVar 6) (mC (.int 2)))) (mC (.int 26)))) (mFn fStr (mCons (mVar 6) mNil))) (by simp) (fun k s' hk _ => by
        obtain ⟨i, hi, hi2⟩ := mod26 ((fi : Int) + (0 + (k : Int)) / 2)
        obtain ⟨c, hc, ec⟩ := let_ix i hi2
        obtain ⟨d, hd, ed⟩ := str_k k hk (s := s')
        refine ⟨[c] ++ [d], ⟨by simp, asc_app (asc_one hc) (asc_one hd)⟩, Ev.eq fun K E kk => ?_⟩
        have h2 : (S [c]).length + (S [d]).length ≤ 1000000 := by simp only [S_len, List.length_singleton]; omega
        simp only [wipeE, List.set_cons_succ, List.set_cons_zero, wp_mBin, wp_mC, wp_mVar, wp_mFn, wp_mCons, wp_mNil, List.getElem?_cons_zero, List.getElem?_cons_succ, f_div, if_pos (show (0 : Int) < 2 ∧ (2 : Int) < 1073741824 by omega), wp_ok, f_add_i, f_mod, if_pos (show (0 : Int) < 26 by omega), hi, ec, ed, f_add_s, if_pos h2, f_cat]
        exact kk)
      refine s_seq (s_if (b := true) (st' := s4) (fun K E k => by simp; exact k) (fun _ => ?_) (fun h => by cases h))
      refine s_set (v := .ref s4.length) (st' := s5) (fun K E k => by have := e5; simp only [List.set_cons_succ, List.set_cons_zero]; rw [this]; exact k) ?_
      exact done (words_end h5 l5 g5 (by omega) (t4.keep f5) (f4.trans f5.nil))
    | m + 4, hb => exact absurd hb (by omega)
  obtain ⟨d, s', e, ws, r, rfl, h3, h4, h5, h6, h7, h8⟩ := wp_get key
  exact ⟨ws, r, s', e, h3, h4, h5, h6, h7, h8⟩
end K65
/-! ## Sp24 -/
set_option Elab.async false
set_option linter.all false
set_option maxRecDepth 100000
set_option maxHeartbeats 4000000
namespace K65
open PySem L2 SX Mi
variable {l a : List Nat} {c : Nat}
abbrev nL (ns : List Nat) : List D := ns.map fun n => .int (n : Nat)
theorem nL_app {ns : List Nat} {n : Nat} : nL ns ++ [.int (n : Nat)] = nL (ns ++ [n]) := by simp [nL]
/-- five counts by draw -/
theorem lc_counts {s : Store} {env : Mi.Env} (h : TapeAt s) (h0 : env[0]? = some (some (.ref 1))) (h5 : 5 < env.length) :
    ∃ (ns : List Nat) (s' : Store), mLc (iRng1 (mCons (mC (.int 5)) mNil)) [5] (gN 5) mYes (mCall m_law_count (mCons (mVar 0) mNil)) env s = .ok (.ref s.length) s' ∧ s'[s.length]? = some (.lst (nL ns)) ∧ ns.length = 5 ∧ (∀ n ∈ ns, n < 10 ^ 61) ∧ TapeAt s' ∧ Fr [1] s s' := by
  have h2 := h.two
  obtain ⟨acc, s2, e2, ⟨ns, q2, q5, q6⟩, q3, q4, q7⟩ := c_lc (env := env) (st := s) (st' := s) (mi := iRng1 (mCons (mC (.int 5)) mNil)) (src := sItems (rng 0 5)) (own := [5]) (g := gN 5) (t := mYes) (m := mCall m_law_count (mCons (mVar 0) mNil))
    (rng 0 5) (fun j acc s' => (∃ ns : List Nat, acc = nL ns ∧ ns.length = j ∧ ∀ n ∈ ns, n < 10 ^ 61) ∧ s'[s.length]? = some (.lst acc) ∧ TapeAt s' ∧ Fr [1] s s') (ev_rng1 (n := 5) rfl (by decide)) rfl
    ⟨⟨[], rfl, rfl, (fun _ h => nomatch h)⟩, app_new, h.app, Fr.refl.app⟩ (fun _ _ _ _ => rfl) (fun _ _ _ h => h.2.1) (fun j x acc s' hd h => by
      obtain ⟨⟨ns, rfl, hl, hg⟩, hs, tp, fr⟩ := h
      obtain ⟨hj, rfl⟩ := rng_get hd
      obtain ⟨v, s3, e, hv, t3, f3⟩ := count_eq tp
      have e0 : ((wipeE env [5]).set 5 (some (.int (0 + (j : Int)))))[0]? = some (some (.ref 1)) := by
        rw [List.getElem?_set_ne (by decide)]
        simp only [wipeE]
        rw [List.getElem?_set_ne (by decide)]
        exact h0
      exact ⟨_, true, s', rfl, rfl, (fun h => by cases h), fun _ => ⟨.int (v : Nat), s3, Ev.eq fun K E k => by
        simp only [wp_mCall, wp_mCons, wp_mVar, wp_mNil, e0, e, wp_ok]; exact k, f3.get hs (by simp; omega), by simp; omega, ⟨ns ++ [v], nL_app, by simp [hl], fun n hn => by
        rcases List.mem_append.mp hn with hn | hn
        · exact hg n hn
        · simp at hn; subst hn; exact hv⟩, set_at (f3.get hs (by simp; omega)), t3.set (by omega), (fr.trans f3).set (.inl (Nat.le_refl _))⟩⟩)
  subst q2
  rw [rng_len] at q5
  exact ⟨ns, s2, e2, q3, q5, q6, q4, q7⟩
/-- a row of a chain, a row of joins -/
def cRow (d : D) : Prop := (∃ row, goodRow row ∧ d = .tup [.str (S wGiven), .tup (rowD row)]) ∨ ∃ ns : List Nat, ns.length = 5 ∧ (∀ n ∈ ns, n < 10 ^ 61) ∧ d = .tup (.str (S wPut) :: nL ns)
def jRow (d : D) : Prop := ∃ (w : List Nat) (row part : List (List Nat × Nat)) (n : Nat), (w = wDown ∨ w = wRoot ∨ w = wUp) ∧ goodRow row ∧ goodRow part ∧ n < 10 ^ 61 ∧ d = .tup [.str (S w), .tup (rowD row), .tup (rowD part), .int (n : Nat)]
theorem chain_eq {s : Store} {W Z : Nat} {ws : List (List Nat)} {sz : List Nat} (h : TapeAt s) (hW : s[W]? = some (.lst (sL ws))) (hW2 : 2 ≤ W) (hZ : s[Z]? = some (.lst (nL sz))) (hZ2 : 2 ≤ Z) (h5 : ws.length = 5) (hg : ∀ w ∈ ws, goodW w) (hz : sz.length ≤ 5) (hz2 : ∀ n ∈ sz, 1 ≤ n ∧ n ≤ 60) :
    ∃ (ds : List D) (s' : Store), m_law_chain [.ref 1, .ref W, .ref Z] s = .ok (.tup ds) s' ∧ ds.length = sz.length ∧ (∀ d ∈ ds, cRow d) ∧ TapeAt s' ∧ Fr [1] s s' := by
  have key : wp (m_law_chain [.ref 1, .ref W, .ref Z] s) (fun d s' => ∃ ds, d = .tup ds ∧ ds.length = sz.length ∧ (∀ d ∈ ds, cRow d) ∧ TapeAt s' ∧ Fr [1] s s') fun _ _ _ => False := by
    refine wp_def (show wpS (b_law_chain [some (.ref 1), some (.ref W), some (.ref Z), none, none, none] s) _ _ _ from ?_)
    have h2 := h.two
    have hWl := (List.getElem?_eq_some_iff.mp hW).1
    have hZl := (List.getElem?_eq_some_iff.mp hZ).1
    refine s_seq (s_set (v := .ref s.length) (st' := s ++ [.lst []]) (fun K E k => by simp; exact k) ?_)
    refine s_seq (s_for (src := sLive Z) (st' := s ++ [.lst []]) (nL sz) (fun j env s' => ∃ (ds : List D) (x4 x5 : Option D), env = [some (.ref 1), some (.ref W), some (.ref Z), some (.ref s.length), x4, x5] ∧
      s'[s.length]? = some (.lst ds) ∧ s'[W]? = some (.lst (sL ws)) ∧ s'[Z]? = some (.lst (nL sz)) ∧ ds.length = j ∧ (∀ d ∈ ds, cRow d) ∧ TapeAt s' ∧ Fr [1] s s') (fun K E k => by rw [wp_iVal]; simp [srcOf, items_l (app_at hZ)]; exact k)
      (by simp only [sLive, items_l (app_at hZ)]; rfl)
      ⟨[], none, none, rfl, app_new, app_at hW, app_at hZ, rfl, (fun _ h => nomatch h), h.app, Fr.refl.app⟩ (fun j env s' hI => by
        obtain ⟨ds, x4, x5, -, -, -, hz, -⟩ := hI
        simp only [sLive, items_l hz]; rfl) ?_ ?_)
    · rintro j d env s1 hd ⟨ds, x4, x5, rfl, hR, hWs, hZs, hlen, hgd, t1, f1⟩
      have hjl : j < sz.length := by
        have := (List.getElem?_eq_some_iff.mp hd).1
        simpa using this
      have hdd : d = .int ((sz[j] : Nat) : Int) := by
        have := (List.getElem?_eq_some_iff.mp hd).2
        simp at this; exact this.symm
      have hm := hz2 sz[j] (List.getElem_mem hjl)
      generalize sz[j] = m at *
      subst hdd
      refine ⟨_, rfl, ?_⟩
      obtain ⟨v, s2, e2, b2, t2, f2⟩ := drawI t1 2 (by decide) (by decide)
      have hR2 := f2.get hR (by simp; omega)
      have hW3 := f2.get hWs (by simp; omega)
      have hZ3 := f2.get hZs (by simp; omega)
      refine s_if (b := decide (v = 1)) (st' := s2) (fun K E k => ?_) (fun hb => ?_) fun hb => ?_
      · have : decide ((v : Int) = 1) = decide (v = 1) := by
          by_cases q : v = 1
          · rw [decide_eq_true q, decide_eq_true (by omega)]
          · rw [decide_eq_false q, decide_eq_false (by omega)]
        simp [e2] at k ⊢; rw [this]; exact k
      · obtain ⟨row, s3, e3, g3, t3, f3⟩ := tree_eq t2 hW3 hW2 h5 hg hm.1 hm.2
        have hR4 := f3.get hR2 (by simp; omega)
        have ea := f_append (y := .tup [.str (S wGiven), .tup (rowD row)]) hR4 (by omega)
        refine s_expr (v := .non) (st' := s3.set s.length (.lst (ds ++ [.tup [.str (S wGiven), .tup (rowD row)]]))) (fun K E k => ?_) ⟨ds ++ [.tup [.str (S wGiven), .tup (rowD row)]], _, _, rfl, set_at hR4, ?_, ?_, by simp [hlen], ?_, t3.set (by omega), ((f1.trans f2).trans f3).set (.inl (Nat.le_refl _))⟩
        · simp [rec_l hR2, e3, ea]; exact k
        · rw [List.getElem?_set_ne (by omega)]; exact f3.get hW3 (by simp; omega)
        · rw [List.getElem?_set_ne (by omega)]; exact f3.get hZ3 (by simp; omega)
        · intro d hd
          rcases List.mem_append.mp hd with hd | hd
          · exact hgd d hd
          · simp at hd; subst hd; exact .inl ⟨row, g3, rfl⟩
      · have hA : (s2 ++ [Ob.lst [.str (S wPut)]])[s2.length]? = some (.lst [.str (S wPut)]) := app_new
        have t3 : TapeAt (s2 ++ [Ob.lst [.str (S wPut)]]) := t2.app
        have f3 : Fr [1] s (s2 ++ [Ob.lst [.str (S wPut)]]) := (f1.trans f2).app
        have hR4 : (s2 ++ [Ob.lst [.str (S wPut)]])[s.length]? = some (.lst ds) := app_at hR2
        have hW4 : (s2 ++ [Ob.lst [.str (S wPut)]])[W]? = some (.lst (sL ws)) := app_at hW3
        have hZ4 : (s2 ++ [Ob.lst [.str (S wPut)]])[Z]? = some (.lst (nL sz)) := app_at hZ3
        have h22 := t2.two
        have hRl := (List.getElem?_eq_some_iff.mp hR2).1
        have hr2 := rec_l hR2
        generalize hs3 : s2 ++ [Ob.lst [.str (S wPut)]] = s3 at *
        obtain ⟨ns, s4, e4, hN, hn5, hn6, t4, f4⟩ := lc_counts (s := s3) (env := [some (.ref 1), some (.ref W), some (.ref Z), some (.ref s.length), some (.int (m : Nat)), x5]) t3 rfl (by simp)
        have hA4 := f4.get hA (by simp; omega)
        have hR5 := f4.get hR4 (by simp; omega)
        have hW5 := f4.get hW4 (by simp; omega)
        have hZ5 := f4.get hZ4 (by simp; omega)
        have eadd : fAdd (.ref s2.length) (.ref s3.length) s4 = .ok (.ref s4.length) (s4 ++ [.lst (.str (S wPut) :: nL ns)]) := by
          unfold fAdd
          simp only [hA4, hN]
          rw [if_pos (by simp; omega)]; rfl
        have hB : (s4 ++ [Ob.lst (.str (S wPut) :: nL ns)])[s4.length]? = some (.lst (.str (S wPut) :: nL ns)) := app_new
        have hR6 : (s4 ++ [Ob.lst (.str (S wPut) :: nL ns)])[s.length]? = some (.lst ds) := app_at hR5
        have hW6 : (s4 ++ [Ob.lst (.str (S wPut) :: nL ns)])[W]? = some (.lst (sL ws)) := app_at hW5
        have hZ6 : (s4 ++ [Ob.lst (.str (S wPut) :: nL ns)])[Z]? = some (.lst (nL sz)) := app_at hZ5
        have t5 : TapeAt (s4 ++ [Ob.lst (.str (S wPut) :: nL ns)]) := t4.app
        have f5 : Fr [1] s (s4 ++ [Ob.lst (.str (S wPut) :: nL ns)]) := (f3.trans f4).app
        generalize s4 ++ [Ob.lst (.str (S wPut) :: nL ns)] = s5 at *
        have et : fTuple [.ref s4.length] s5 = .ok (.tup (.str (S wPut) :: nL ns)) s5 := by unfold fTuple; simp only [items_l hB]
        have ea := f_append (y := .tup (.str (S wPut) :: nL ns)) hR6 (by omega)
        refine s_expr (v := .non) (st' := s5.set s.length (.lst (ds ++ [.tup (.str (S wPut) :: nL ns)]))) (fun K E k => ?_) ⟨ds ++ [.tup (.str (S wPut) :: nL ns)], _, _, rfl, set_at hR6, ?_, ?_, by simp [hlen], ?_, t5.set (by omega), f5.set (.inl (Nat.le_refl _))⟩
        · simp [hr2, hs3, e4, eadd, et, ea]; exact k
        · rw [List.getElem?_set_ne (by omega)]; exact hW6
        · rw [List.getElem?_set_ne (by omega)]; exact hZ6
        · intro d hd
          rcases List.mem_append.mp hd with hd | hd
          · exact hgd d hd
          · simp at hd; subst hd; exact .inr ⟨ns, hn5, hn6, rfl⟩
    · rintro env s' ⟨ds, x4, x5, rfl, hR, -, -, hlen, hgd, t1, f1⟩
      refine s_ret (v := .tup ds) (st' := s') (fun K E k => ?_) ⟨ds, rfl, by simpa using hlen, hgd, t1, f1⟩
      have et : fTuple [.ref s.length] s' = .ok (.tup ds) s' := by unfold fTuple; simp only [items_l hR]
      simp [et]; exact k
  obtain ⟨d, s', e, ds, rfl, h3, h4, h5, h6⟩ := wp_get key
  exact ⟨ds, s', e, h3, h4, h5, h6⟩
end K65
/-! ## Sp25 -/
set_option Elab.async false
set_option linter.all false
set_option maxRecDepth 100000
set_option maxHeartbeats 4000000
namespace K65
open PySem L2 SX Mi
variable {l a : List Nat} {c : Nat}
theorem w4_at (v : Nat) (h : v < 4) : ∃ w, ([wDown, wRoot, wUp, wDown] : List (List Nat))[v]? = some w ∧ (w = wDown ∨ w = wRoot ∨ w = wUp) := by
  match v, h with
  | 0, _ => exact ⟨wDown, rfl, .inl rfl⟩
  | 1, _ => exact ⟨wRoot, rfl, .inr (.inl rfl)⟩
  | 2, _ => exact ⟨wUp, rfl, .inr (.inr rfl)⟩
  | 3, _ => exact ⟨wDown, rfl, .inl rfl⟩
  | v + 4, h => exact absurd h (by omega)
theorem rows_eq {s : Store} {W Z : Nat} {ws : List (List Nat)} {sz : List Nat} (h : TapeAt s) (hW : s[W]? = some (.lst (sL ws))) (hW2 : 2 ≤ W) (hZ : s[Z]? = some (.lst (nL sz))) (hZ2 : 2 ≤ Z) (h5 : ws.length = 5) (hg : ∀ w ∈ ws, goodW w) (hz : sz.length ≤ 5) (hz2 : ∀ n ∈ sz, 1 ≤ n ∧ n ≤ 60) :
    ∃ (ds : List D) (s' : Store), m_law_rows [.ref 1, .ref W, .ref Z] s = .ok (.tup ds) s' ∧ ds.length = sz.length ∧ (∀ d ∈ ds, jRow d) ∧ TapeAt s' ∧ Fr [1] s s' := by
  have key : wp (m_law_rows [.ref 1, .ref W, .ref Z] s) (fun d s' => ∃ ds, d = .tup ds ∧ ds.length = sz.length ∧ (∀ d ∈ ds, jRow d) ∧ TapeAt s' ∧ Fr [1] s s') fun _ _ _ => False := by
    refine wp_def (show wpS (b_law_rows [some (.ref 1), some (.ref W), some (.ref Z), none, none, none, none, none] s) _ _ _ from ?_)
    have h2 := h.two
    have hWl := (List.getElem?_eq_some_iff.mp hW).1
    have hZl := (List.getElem?_eq_some_iff.mp hZ).1
    refine s_seq (s_set (v := .ref s.length) (st' := s ++ [.lst []]) (fun K E k => by simp; exact k) ?_)
    refine s_seq (s_for (src := sLive Z) (st' := s ++ [.lst []]) (nL sz) (fun j env s' => ∃ (ds : List D) (x4 x5 x6 x7 : Option D), env = [some (.ref 1), some (.ref W), some (.ref Z), some (.ref s.length), x4, x5, x6, x7] ∧
      s'[s.length]? = some (.lst ds) ∧ s'[W]? = some (.lst (sL ws)) ∧ s'[Z]? = some (.lst (nL sz)) ∧ ds.length = j ∧ (∀ d ∈ ds, jRow d) ∧ TapeAt s' ∧ Fr [1] s s') (fun K E k => by rw [wp_iVal]; simp [srcOf, items_l (app_at hZ)]; exact k)
      (by simp only [sLive, items_l (app_at hZ)]; rfl)
      ⟨[], none, none, none, none, rfl, app_new, app_at hW, app_at hZ, rfl, (fun _ h => nomatch h), h.app, Fr.refl.app⟩ (fun j env s' hI => by
        obtain ⟨ds, x4, x5, x6, x7, -, -, -, hz, -⟩ := hI
        simp only [sLive, items_l hz]; rfl) ?_ ?_)
    · rintro j d env s1 hd ⟨ds, x4, x5, x6, x7, rfl, hR, hWs, hZs, hlen, hgd, t1, f1⟩
      have hjl : j < sz.length := by
        have := (List.getElem?_eq_some_iff.mp hd).1
        simpa using this
      have hdd : d = .int ((sz[j] : Nat) : Int) := by
        have := (List.getElem?_eq_some_iff.mp hd).2
        simp at this; exact this.symm
      have hm := hz2 sz[j] (List.getElem_mem hjl)
      generalize sz[j] = m at *
      subst hdd
      refine ⟨_, rfl, ?_⟩
      -- the word
      have hA : (s1 ++ [Ob.lst (sL [wDown, wRoot, wUp, wDown])])[s1.length]? = some (.lst (sL [wDown, wRoot, wUp, wDown])) := app_new
      have hRl := (List.getElem?_eq_some_iff.mp hR).1
      have t2 : TapeAt (s1 ++ [Ob.lst (sL [wDown, wRoot, wUp, wDown])]) := t1.app
      have h12 := t1.two
      have f2 : Fr [1] s (s1 ++ [Ob.lst (sL [wDown, wRoot, wUp, wDown])]) := f1.app
      have hR2 : (s1 ++ [Ob.lst (sL [wDown, wRoot, wUp, wDown])])[s.length]? = some (.lst ds) := app_at hR
      have hW2' : (s1 ++ [Ob.lst (sL [wDown, wRoot, wUp, wDown])])[W]? = some (.lst (sL ws)) := app_at hWs
      have hZ2' : (s1 ++ [Ob.lst (sL [wDown, wRoot, wUp, wDown])])[Z]? = some (.lst (nL sz)) := app_at hZs
      generalize hs2 : s1 ++ [Ob.lst (sL [wDown, wRoot, wUp, wDown])] = s2 at *
      obtain ⟨v, s3, e3, b3, t3, f3⟩ := drawI t2 4 (by decide) (by decide)
      have hA3 := f3.get hA (by simp; omega)
      have hR3 := f3.get hR2 (by simp; omega)
      have hW3 := f3.get hW2' (by simp; omega)
      have hZ3 := f3.get hZ2' (by simp; omega)
      obtain ⟨w, hw, hww⟩ := w4_at v (by omega)
      have ew := ix_fs hA3 hw
      refine s_seq (s_set (v := .str (S w)) (st' := s3) (fun K E k => ?_) ?_)
      · have hs2' : s1 ++ [Ob.lst [D.str (S wDown), D.str (S wRoot), D.str (S wUp), D.str (S wDown)]] = s2 := hs2
        simp [hs2', e3, ew]; exact k
      obtain ⟨row, s4, e4, g4, t4, f4⟩ := tree_eq t3 hW3 hW2 h5 hg hm.1 hm.2
      have hR4 := f4.get hR3 (by simp; omega)
      have hW4 := f4.get hW3 (by simp; omega)
      have hZ4 := f4.get hZ3 (by simp; omega)
      refine s_seq (s_set (v := .tup (rowD row)) (st' := s4) (fun K E k => by simp [e4]; exact k) ?_)
      refine s_seq (s_set (v := .int ((0 : Nat) : Int)) (st' := s4) (fun K E k => by simp at k ⊢; exact k) ?_)
      have rest : ∀ (n : Nat) (s5 : Store), n < 10 ^ 61 → TapeAt s5 → Fr [1] s4 s5 → wpS (kExpr (mM fAppend (mRecv "list" (mVar 3)) (mCons (mTup (mCons (mVar 5) (mCons (mVar 6) (mCons (mCall m_law_any_tree (mCons (mVar 0) (mCons (mVar 1) (mCons (mBin fAdd (mC (.int 1)) (mCall m_law_draw (mCons (mVar 0) (mCons (mC (.int 12)) mNil)))) mNil)))) (mCons (mVar 7) mNil))))) mNil)) [some (.ref 1), some (.ref W), some (.ref Z), some (.ref s.length), some (.int (m : Nat)), some (.str (S w)), some (.tup (rowD row)), some (.int (n : Nat))] s5)
          (fun env s' => ∃ (ds : List D) (x4 x5 x6 x7 : Option D), env = [some (.ref 1), some (.ref W), some (.ref Z), some (.ref s.length), x4, x5, x6, x7] ∧
      s'[s.length]? = some (.lst ds) ∧ s'[W]? = some (.lst (sL ws)) ∧ s'[Z]? = some (.lst (nL sz)) ∧ ds.length = j + 1 ∧ (∀ d ∈ ds, jRow d) ∧ TapeAt s' ∧ Fr [1] s s') (fun d s' => ∃ ds, d = .tup ds ∧ ds.length = sz.length ∧ (∀ d ∈ ds, jRow d) ∧ TapeAt s' ∧ Fr [1] s s') (fun _ _ _ _ => False) := by
        intro n s5 hn t5 f5
        have hR5 := f5.get hR4 (by simp; omega)
        have hW5 := f5.get hW4 (by simp; omega)
        have hZ5 := f5.get hZ4 (by simp; omega)
        obtain ⟨k2, s6, e6, b6, t6, f6⟩ := drawI t5 12 (by decide) (by decide)
        have hW6 := f6.get hW5 (by simp; omega)
        obtain ⟨part, s7, e7, g7, t7, f7⟩ := tree_eq (most := 1 + k2) t6 hW6 hW2 h5 hg (by omega) (by omega)
        have hR7 := f7.get (f6.get hR5 (by simp; omega)) (by simp; omega)
        have hW7 := f7.get hW6 (by simp; omega)
        have hZ7 := f7.get (f6.get hZ5 (by simp; omega)) (by simp; omega)
        have e7' : m_law_any_tree [.ref 1, .ref W, .int (1 + (k2 : Int))] s6 = .ok (.tup (rowD part)) s7 := e7
        have ea := f_append (y := .tup [.str (S w), .tup (rowD row), .tup (rowD part), .int (n : Nat)]) hR7 (by omega)
        refine s_expr (v := .non) (st' := s7.set s.length (.lst (ds ++ [.tup [.str (S w), .tup (rowD row), .tup (rowD part), .int (n : Nat)]]))) (fun K E k => ?_) ⟨ds ++ [.tup [.str (S w), .tup (rowD row), .tup (rowD part), .int (n : Nat)]], _, _, _, _, rfl, set_at hR7, ?_, ?_, by simp [hlen], ?_, t7.set (by omega), (((((f2.trans f3).trans f4).trans f5).trans f6).trans f7).set (.inl (Nat.le_refl _))⟩
        · simp only [wp_mM, wp_mRecv, wp_mTup, wp_mCall, wp_mCons, wp_mBin, wp_mC, wp_mVar, wp_mNil, List.getElem?_cons_zero, List.getElem?_cons_succ, rec_l hR5, e6, wp_ok, f_add_i, e7', ea]
          exact k
        · rw [List.getElem?_set_ne (by omega)]; exact hW7
        · rw [List.getElem?_set_ne (by omega)]; exact hZ7
        · intro d hd
          rcases List.mem_append.mp hd with hd | hd
          · exact hgd d hd
          · simp at hd; subst hd; exact ⟨w, row, part, n, hww, g4, g7, hn, rfl⟩
      refine s_seq (s_if (b := decide (w = wDown)) (st' := s4) (fun K E k => ?_) (fun hb => ?_) fun hb => s_skip ?_)
      · rcases hww with rfl | rfl | rfl
        · simp; exact k
        · simp; exact k
        · simp; exact k
      · obtain ⟨n, s5, e5, b5, t5, f5⟩ := count_eq t4
        refine s_set (v := .int (n : Nat)) (st' := s5) (fun K E k => by simp [e5]; exact k) ?_
        exact rest n s5 b5 t5 f5
      · exact rest 0 s4 (by decide) t4 Fr.refl
    · rintro env s' ⟨ds, x4, x5, x6, x7, rfl, hR, -, -, hlen, hgd, t1, f1⟩
      refine s_ret (v := .tup ds) (st' := s') (fun K E k => ?_) ⟨ds, rfl, by simpa using hlen, hgd, t1, f1⟩
      have et : fTuple [.ref s.length] s' = .ok (.tup ds) s' := by unfold fTuple; simp only [items_l hR]
      simp [et]; exact k
  obtain ⟨d, s', e, ds, rfl, h3, h4, h5, h6⟩ := wp_get key
  exact ⟨ds, s', e, h3, h4, h5, h6⟩
end K65
/-! ## Sp26 -/
set_option Elab.async false
set_option linter.all false
set_option maxRecDepth 100000
set_option maxHeartbeats 4000000
namespace K65
open PySem L2 SX Mi
variable {st : Store} {l a : List Nat} {c : Nat}
theorem num_text {n : Nat} (h : n < 10 ^ 61) : fStr [.int (n : Nat)] st = .ok (.str (S (TL.numL n))) st ∧ Asc (TL.numL n) ∧ (TL.numL n).length ≤ 61 := by
  refine ⟨?_, fun c hc => ?_, TL.numL_len (by decide) h⟩
  · have hlog : ((n : Nat) : Int).natAbs.log2 < 1920 := by
      rw [Int.natAbs_natCast]
      by_cases z : n = 0
      · rw [z]; decide
      · rw [Nat.log2_lt z]
        have : (10 : Nat) ^ 61 < 2 ^ 210 := by decide +kernel
        exact Nat.lt_of_lt_of_le (Nat.lt_trans h this) (Nat.pow_le_pow_right (by decide) (by decide))
    show (if _ then _ else _) = _
    rw [if_pos hlog]
    have e := num_S n
    show Out.ok (D.str (Str.ofString (toString ((n : Nat) : Int)))) st = _
    rw [e]
  · have := TL.numL_digits n c hc
    omega
theorem asc_join {s : List Nat} (hs : Asc s) : ∀ {ts : List (List Nat)}, (∀ t ∈ ts, Asc t) → Asc (TL.joinL s ts)
  | [], _ => fun c hc => by simp [TL.joinL] at hc
  | [t], h => by simpa [TL.joinL] using h t List.mem_cons_self
  | t :: u :: ts, h => by
    have q := asc_join hs (ts := u :: ts) fun t ht => h t (List.mem_cons_of_mem _ ht)
    unfold TL.joinL
    exact asc_app (h t List.mem_cons_self) (asc_app hs q)
theorem asc_sh : ∀ {row : List (List Nat × Nat)}, (∀ p ∈ row, Asc p.1) → ∀ t ∈ sh row, Asc t
  | [], _ => fun _ h => nomatch h
  | (w, n) :: r, h => by
    have ih := asc_sh fun p hp => h p (List.mem_cons_of_mem _ hp)
    have hw := h (w, n) List.mem_cons_self
    intro t ht
    unfold sh at ht
    rcases List.mem_cons.mp ht with rfl | ht
    · unfold node
      split
      · exact asc_app (asc_app (asc_app hw (asc_one (by decide))) (asc_join (asc_one (by decide)) fun t ht => ih t (List.mem_of_mem_take ht))) (asc_one (by decide))
      · exact hw
    · exact ih t (List.mem_of_mem_drop ht)
theorem wt_good : ∀ {row : List (List Nat × Nat)}, (∀ p ∈ row, goodW p.1 ∧ p.2 ≤ 4) → wt row ≤ 46 * row.length
  | [], _ => Nat.le_refl _
  | (w, n) :: r, h => by
    have ih := wt_good fun p hp => h p (List.mem_cons_of_mem _ hp)
    obtain ⟨⟨h1, -⟩, h2⟩ := h (w, n) List.mem_cons_self
    have h1 : w.length ≤ 40 := h1
    have h2 : n ≤ 4 := h2
    simp only [wt, List.length_cons] at ih ⊢
    omega
theorem good_text {row : List (List Nat × Nat)} (h : goodRow row) : ∃ t, sh row = [t] ∧ Asc t ∧ t.length ≤ 2760 ∧ (∀ st, ∃ st', m_shown [.tup (rowD row)] st = .ok (.str (S t)) st' ∧ Fr [] st st') ∧ ∀ st, ∃ st', m_law_show [.tup (rowD row)] st = .ok (.str (S t)) st' ∧ Fr [] st st' := by
  obtain ⟨ok, h1, h60, hg⟩ := h
  obtain ⟨t, ht⟩ := List.length_eq_one_iff.mp h1
  have hw := wt_good hg
  have hz := sh_wt row
  have htl : t.length ≤ wt row := by have := hz.1; rw [ht] at this; simpa [tot] using this
  exact ⟨t, ht, asc_sh (fun p hp => (hg p hp).1.2) t (by rw [ht]; exact List.mem_singleton_self _), by omega, fun st => shown_eq ok ht (by omega) (by omega), fun st => lshow_eq ok ht (by omega) (by omega)⟩
end K65
/-! ## Sp27 -/
set_option Elab.async false
set_option linter.all false
set_option maxRecDepth 100000
set_option maxHeartbeats 4000000
namespace K65
open PySem L2 SX Mi
variable {l a : List Nat} {c : Nat}
def nT (ns : List Nat) : List (List Nat) := ns.map TL.numL
/-- the texts of a row of numbers -/
theorem lc_strs {s : Store} {env : Mi.Env} {mi : MI} {xs : List D} {ts : List (List Nat)} (hm : ∀ s, Ev (mi env s) (sItems xs) s) (h1 : 1 < env.length) (hl : xs.length = ts.length) (hl2 : xs.length ≤ 1000) (hx : ∀ (j : Nat) (x : D) (s : Store), xs[j]? = some x → ∃ t, ts[j]? = some t ∧ fStr [x] s = .ok (.str (S t)) s) :
    ∃ s', mLc mi [1] (gN 1) mYes (mFn fStr (mCons (mVar 1) mNil)) env s = .ok (.ref s.length) s' ∧ s'[s.length]? = some (.lst (sL ts)) ∧ Fr [] s s' := by
  obtain ⟨acc, s2, e2, q2, q3, q4⟩ := c_lc (env := env) (st := s) (st' := s) (mi := mi) (src := sItems xs) (own := [1]) (g := gN 1) (t := mYes) (m := mFn fStr (mCons (mVar 1) mNil))
    xs (fun j acc s' => acc = sL (ts.take j) ∧ s'[s.length]? = some (.lst acc) ∧ Fr [] s s') (hm s) rfl
    ⟨rfl, app_new, Fr.refl.app⟩ (fun _ _ _ _ => rfl) (fun _ _ _ h => h.2.1) (fun j x acc s' hd h => by
      obtain ⟨rfl, hs, fr⟩ := h
      have hjl := (List.getElem?_eq_some_iff.mp hd).1
      obtain ⟨w, hw, es⟩ := hx j x s' hd
      have e1 : ((wipeE env [1]).set 1 (some x))[1]? = some (some x) := by
        rw [List.getElem?_set_self (by simp only [wipeE]; simpa using h1)]
      refine ⟨_, true, s', rfl, rfl, (fun h => by cases h), fun _ => ⟨.str (S w), s', Ev.eq fun K E kk => by simp only [wp_mFn, wp_mCons, wp_mVar, wp_mNil, e1, wp_ok, es]; exact kk, hs, by simp; omega, ?_, set_at hs, fr.set (.inl (Nat.le_refl _))⟩⟩
      rw [List.take_succ, hw, sL_app]; rfl)
  subst q2
  rw [List.take_of_length_le (by omega)] at q3
  exact ⟨s2, e2, q3, q4⟩
theorem cline_given {row : List (List Nat × Nat)} (h : goodRow row) : ∃ t, Asc t ∧ t.length ≤ 4000 ∧ (∀ st, ∃ st', m_chain_line [.tup [.str (S wGiven), .tup (rowD row)]] st = .ok (.str (S t)) st' ∧ Fr [] st st') ∧ ∀ st, ∃ st', m_law_chain_line [.tup [.str (S wGiven), .tup (rowD row)]] st = .ok (.str (S t)) st' ∧ Fr [] st st' := by
  obtain ⟨t, ht, hat, htl, hp, hw⟩ := good_text h
  have i0 : atI [D.str (S wGiven), .tup (rowD row)] 0 = some (.str (S wGiven)) := rfl
  have i1 : atI [D.str (S wGiven), .tup (rowD row)] 1 = some (.tup (rowD row)) := rfl
  refine ⟨wGiven ++ [32] ++ t, asc_app (by unfold Asc; decide) hat, by simp; omega, fun st => ?_, fun st => ?_⟩
  · obtain ⟨s1, e1, fr1⟩ := hp st
    have key : wp (m_chain_line [.tup [.str (S wGiven), .tup (rowD row)]] st) (fun d s => d = .str (S (wGiven ++ [32] ++ t)) ∧ Fr [] st s) fun _ _ _ => False := by
      refine wp_def (show wpS (b_chain_line [some (.tup [.str (S wGiven), .tup (rowD row)]), none] st) _ _ _ from ?_)
      refine s_seq (s_if (b := true) (st' := st) (fun K E k => by simp [i0]; exact k) (fun _ => ?_) (fun h => by cases h))
      exact s_ret (v := .str (S (wGiven ++ [32] ++ t))) (st' := s1) (fun K E k => by simp [i1, e1, show t.length + 6 ≤ 1000000 by omega, show 6 + t.length ≤ 1000000 by omega] at k ⊢; exact k) ⟨rfl, fr1⟩
    obtain ⟨d, s, e, rfl, fr⟩ := wp_get key
    exact ⟨s, e, fr⟩
  · obtain ⟨s1, e1, fr1⟩ := hw st
    have key : wp (m_law_chain_line [.tup [.str (S wGiven), .tup (rowD row)]] st) (fun d s => d = .str (S (wGiven ++ [32] ++ t)) ∧ Fr [] st s) fun _ _ _ => False := by
      refine wp_def (show wpS (b_law_chain_line [some (.tup [.str (S wGiven), .tup (rowD row)]), none] st) _ _ _ from ?_)
      refine s_seq (s_if (b := true) (st' := st) (fun K E k => by simp [i0]; exact k) (fun _ => ?_) (fun h => by cases h))
      exact s_ret (v := .str (S (wGiven ++ [32] ++ t))) (st' := s1) (fun K E k => by simp [i1, e1, show t.length + 6 ≤ 1000000 by omega, show 6 + t.length ≤ 1000000 by omega] at k ⊢; exact k) ⟨rfl, fr1⟩
    obtain ⟨d, s, e, rfl, fr⟩ := wp_get key
    exact ⟨s, e, fr⟩
end K65
/-! ## Sp28 -/
set_option Elab.async false
set_option linter.all false
set_option maxRecDepth 100000
set_option maxHeartbeats 4000000
namespace K65
open PySem L2 SX Mi
variable {l a : List Nat} {c : Nat}
theorem joinL_le (c : Nat) : ∀ ps : List (List Nat), (TL.joinL [c] ps).length ≤ tot ps + ps.length
  | [] => by simp [tot, TL.joinL]
  | [p] => by simp [tot, TL.joinL]
  | p :: q :: ps => by
    have e : TL.joinL [c] (p :: q :: ps) = p ++ ([c] ++ TL.joinL [c] (q :: ps)) := rfl
    have ih := joinL_le c (q :: ps)
    have e2 : tot (p :: q :: ps) = p.length + tot (q :: ps) := by simp [tot]
    rw [e, e2, List.length_append, List.length_append, List.length_singleton]
    simp only [List.length_cons] at ih ⊢
    omega
theorem nT_len (ns : List Nat) : (nT ns).length = ns.length := by simp [nT]
theorem nL_len (ns : List Nat) : (nL ns).length = ns.length := by simp
theorem nT_tot : ∀ {ns : List Nat}, (∀ n ∈ ns, n < 10 ^ 61) → tot (nT ns) ≤ 61 * ns.length
  | [], _ => Nat.le_refl _
  | n :: ns, h => by
    have ih := nT_tot fun m hm => h m (List.mem_cons_of_mem _ hm)
    have := (num_text (st := []) (h n List.mem_cons_self)).2.2
    simp only [nT, tot, List.map_cons, List.sum_cons, List.length_cons] at ih ⊢
    omega
theorem nx {ns : List Nat} (h : ∀ n ∈ ns, n < 10 ^ 61) (j : Nat) (x : D) (s : Store) (hd : (nL ns)[j]? = some x) : ∃ t, (nT ns)[j]? = some t ∧ fStr [x] s = .ok (.str (S t)) s := by
  rw [List.getElem?_map] at hd
  obtain ⟨n, hn, rfl⟩ := Option.map_eq_some_iff.mp hd
  refine ⟨TL.numL n, by rw [nT, List.getElem?_map, hn]; rfl, (num_text (h n (List.mem_of_getElem? hn))).1⟩
theorem cline_put {ns : List Nat} (h5 : ns.length = 5) (h : ∀ n ∈ ns, n < 10 ^ 61) : ∃ t, Asc t ∧ t.length ≤ 4000 ∧ (∀ st, ∃ st', m_chain_line [.tup (.str (S wPut) :: nL ns)] st = .ok (.str (S t)) st' ∧ Fr [] st st') ∧ ∀ st, ∃ st', m_law_chain_line [.tup (.str (S wPut) :: nL ns)] st = .ok (.str (S t)) st' ∧ Fr [] st st' := by
  have i0 : atI (D.str (S wPut) :: nL ns) 0 = some (.str (S wPut)) := by
    have := atI_k (xs := D.str (S wPut) :: nL ns) (k := 0)
    exact this
  have ht := nT_tot h
  have hl := nT_len ns
  have htot : tot (wPut :: nT ns) = 3 + tot (nT ns) := by simp [tot]
  have hlt : (wPut :: nT ns).length = 6 := by rw [List.length_cons, hl, h5]
  have hz : tot (wPut :: nT ns) + (wPut :: nT ns).length * ([32] : List Nat).length ≤ 1000000 := by
    rw [hlt, htot, List.length_singleton]; omega
  have hA : Asc (TL.joinL [32] (wPut :: nT ns)) := asc_join (asc_one (by decide)) fun t ht => by
    rcases List.mem_cons.mp ht with rfl | ht
    · unfold Asc; decide
    · obtain ⟨n, hn, rfl⟩ := List.mem_map.mp ht
      exact (num_text (st := []) (h n hn)).2.1
  have hL : (TL.joinL [32] (wPut :: nT ns)).length ≤ 4000 := by
    have := joinL_le 32 (wPut :: nT ns)
    rw [hlt, htot] at this; omega
  refine ⟨TL.joinL [32] (wPut :: nT ns), hA, hL, fun st => ?_, fun st => ?_⟩
  · obtain ⟨s1, e1, h1, fr1⟩ := lc_strs (s := st) (env := [some (.tup (.str (S wPut) :: nL ns)), none]) (mi := iVal (mVar 0)) (xs := .str (S wPut) :: nL ns) (ts := wPut :: nT ns) (fun s K E k => by simp [srcOf]; exact k) (by simp) (by simp [hl]) (by simp; omega) (fun j x s hd => by
      cases j with
      | zero => cases hd; exact ⟨_, rfl, rfl⟩
      | succ j => exact nx h j x s hd)
    have ej := f_join (x := [32]) h1 hz
    have key : wp (m_chain_line [.tup (.str (S wPut) :: nL ns)] st) (fun d s => d = .str (S (TL.joinL [32] (wPut :: nT ns))) ∧ Fr [] st s) fun _ _ _ => False := by
      refine wp_def (show wpS (b_chain_line [some (.tup (.str (S wPut) :: nL ns)), none] st) _ _ _ from ?_)
      refine s_seq (s_if (b := false) (st' := st) (fun K E k => by simp only [wp_mB, wp_mBin, wp_mVar, wp_mC, List.getElem?_cons_zero, wp_ok]; simp [i0]; exact k) (fun h => by cases h) fun _ => s_skip ?_)
      exact s_ret (v := .str (S (TL.joinL [32] (wPut :: nT ns)))) (st' := s1) (fun K E k => by simp only [wp_mM, wp_mRecv, wp_mC, wp_mCons, wp_mNil, lit_18, rec_s, if_true, e1, wp_ok, ej]; exact k) ⟨rfl, fr1⟩
    obtain ⟨d, s, e, rfl, fr⟩ := wp_get key
    exact ⟨s, e, fr⟩
  · have hA1 : (st ++ [Ob.lst [.str (S wPut)]])[st.length]? = some (.lst [.str (S wPut)]) := app_new
    have fr0 : Fr [] st (st ++ [Ob.lst [.str (S wPut)]]) := Fr.refl.app
    have hl0 : st.length < (st ++ [Ob.lst [D.str (S wPut)]]).length := by simp
    generalize hs0 : st ++ [Ob.lst [.str (S wPut)]] = s0 at *
    have ec : ∀ s, fSl (.tup (.str (S wPut) :: nL ns)) (some 1) none s = .ok (.tup (nL ns)) s := fun s => by
      have e1 : HT.sIx (D.str (S wPut) :: nL ns).length 0 (some 1) = 1 := by
        rw [List.length_cons, nL_len, h5]; rfl
      show Out.ok (D.tup (cutD (D.str (S wPut) :: nL ns) (some 1) none)) s = _
      unfold cutD
      rw [e1]
      show Out.ok (D.tup ((nL ns).take ((D.str (S wPut) :: nL ns).length - 1))) s = _
      rw [List.take_of_length_le (by simp)]
    obtain ⟨s1, e1, h1, fr1⟩ := lc_strs (s := s0) (env := [some (.tup (.str (S wPut) :: nL ns)), none]) (mi := iVal (mSl (mVar 0) (mOS (mC (.int 1))) mON)) (xs := nL ns) (ts := nT ns) (fun s K E k => by simp only [wp_iVal, wp_mSl, wp_mVar, wp_mOS, wp_mC, wp_mON, List.getElem?_cons_zero, wp_ok, ec]; simp [srcOf]; exact k) (by simp) (by simp [hl]) (by simp; omega) (fun j x s hd => nx h j x s hd)
    have hA2 := fr1.get hA1 (by simp)
    have eadd : fAdd (.ref st.length) (.ref s0.length) s1 = .ok (.ref s1.length) (s1 ++ [.lst (sL (wPut :: nT ns))]) := by
      unfold fAdd
      simp only [hA2, h1]
      rw [if_pos (by simp [hl]; omega)]; rfl
    have hB : (s1 ++ [Ob.lst (sL (wPut :: nT ns))])[s1.length]? = some (.lst (sL (wPut :: nT ns))) := app_new
    have fr2 : Fr [] st (s1 ++ [Ob.lst (sL (wPut :: nT ns))]) := (fr0.trans fr1).app
    generalize s1 ++ [Ob.lst (sL (wPut :: nT ns))] = s2 at *
    have ej := f_join (x := [32]) hB hz
    have key : wp (m_law_chain_line [.tup (.str (S wPut) :: nL ns)] st) (fun d s => d = .str (S (TL.joinL [32] (wPut :: nT ns))) ∧ Fr [] st s) fun _ _ _ => False := by
      refine wp_def (show wpS (b_law_chain_line [some (.tup (.str (S wPut) :: nL ns)), none] st) _ _ _ from ?_)
      refine s_seq (s_if (b := false) (st' := st) (fun K E k => by simp only [wp_mB, wp_mBin, wp_mVar, wp_mC, List.getElem?_cons_zero, wp_ok]; simp [i0]; exact k) (fun h => by cases h) fun _ => s_skip ?_)
      refine s_ret (v := .str (S (TL.joinL [32] (wPut :: nT ns)))) (st' := s2) (fun K E k => ?_) ⟨rfl, fr2⟩
      have hw : Ev (mLst (mCons (mC (.str "put")) mNil) [some (.tup (.str (S wPut) :: nL ns)), none] st) (.ref st.length) s0 := fun K E k => by simp [hs0]; exact k
      simp only [wp_mM, wp_mRecv, wp_mC, wp_mCons, wp_mNil, wp_mBin, lit_18, rec_s, if_true, wp_ok]
      have hw2 := hw.eq
      rw [hw2]
      simp only [wp_ok, e1, eadd, ej]
      exact k
    obtain ⟨d, s, e, rfl, fr⟩ := wp_get key
    exact ⟨s, e, fr⟩
theorem cline_two {d : D} (h : cRow d) : ∃ t, Asc t ∧ t.length ≤ 4000 ∧ (∀ st, ∃ st', m_chain_line [d] st = .ok (.str (S t)) st' ∧ Fr [] st st') ∧ ∀ st, ∃ st', m_law_chain_line [d] st = .ok (.str (S t)) st' ∧ Fr [] st st' := by
  rcases h with ⟨row, hg, rfl⟩ | ⟨ns, h5, hn, rfl⟩
  · exact cline_given hg
  · exact cline_put h5 hn
end K65
/-! ## Sp29 -/
set_option Elab.async false
set_option linter.all false
set_option maxRecDepth 100000
set_option maxHeartbeats 4000000
namespace K65
open PySem L2 SX Mi
variable {l a : List Nat} {c : Nat}
/-- the program's tail: two trees behind what is there -/
theorem jtail {st s : Store} {hd : List (List Nat)} {t o w : List Nat} {r1 r2 : List (List Nat × Nat)} {x0 p : Option D} (h1 : ∀ st, ∃ st', m_shown [.tup (rowD r1)] st = .ok (.str (S t)) st' ∧ Fr [] st st') (h2 : ∀ st, ∃ st', m_shown [.tup (rowD r2)] st = .ok (.str (S o)) st' ∧ Fr [] st st')
    (ht : t.length ≤ 4000) (ho : o.length ≤ 4000) (hhd : hd.length ≤ 2) (htt : tot hd ≤ 10000) (hs : s[st.length]? = some (.lst (sL hd))) (fr : Fr [] st s) :
    wpS ((kSeq (kExpr (mM fAppend (mRecv "list" (mVar 5)) (mCons (mCall m_shown (mCons (mVar 2) mNil)) mNil)))
  (kSeq (kExpr (mM fAppend (mRecv "list" (mVar 5)) (mCons (mCall m_shown (mCons (mVar 3) mNil)) mNil)))
  (kRet (mM fJoin (mRecv "str" (mC (.str " "))) (mCons (mVar 5) mNil))))) [x0, some (.str (S w)), some (.tup (rowD r1)), some (.tup (rowD r2)), p, some (.ref st.length)] s) (fun _ _ => False) (fun d s => d = .str (S (TL.joinL [32] (hd ++ [t] ++ [o]))) ∧ Fr [] st s) (fun _ _ _ _ => False) := by
  obtain ⟨s1, e1, fr1⟩ := h1 s
  have hs1 := fr1.get hs (by simp)
  have ea := f_append (y := .str (S t)) hs1 (show (sL hd).length < 1000000 by simp; omega)
  refine s_seq (s_expr (v := .non) (st' := s1.set st.length (.lst (sL (hd ++ [t])))) (fun K E k => ?_) ?_)
  · have er := rec_l hs
    simp only [wp_mM, wp_mRecv, wp_mCons, wp_mCall, wp_mVar, wp_mNil, List.getElem?_cons_zero, List.getElem?_cons_succ, er, if_true, e1, wp_ok, ea]
    rw [sL_app] at k; exact k
  have hs2 := set_at (o' := .lst (sL (hd ++ [t]))) hs1
  have fr2 : Fr [] st (s1.set st.length (.lst (sL (hd ++ [t])))) := (fr.trans fr1).set (.inl (Nat.le_refl _))
  generalize s1.set st.length (.lst (sL (hd ++ [t]))) = s2 at *
  obtain ⟨s3, e3, fr3⟩ := h2 s2
  have hs3 := fr3.get hs2 (by simp)
  have eb := f_append (y := .str (S o)) hs3 (show (sL (hd ++ [t])).length < 1000000 by simp; omega)
  refine s_seq (s_expr (v := .non) (st' := s3.set st.length (.lst (sL (hd ++ [t] ++ [o])))) (fun K E k => ?_) ?_)
  · have er := rec_l hs2
    simp only [wp_mM, wp_mRecv, wp_mCons, wp_mCall, wp_mVar, wp_mNil, List.getElem?_cons_zero, List.getElem?_cons_succ, er, if_true, e3, wp_ok, eb]
    rw [sL_app (a := hd ++ [t])] at k; exact k
  have hs4 := set_at (o' := .lst (sL (hd ++ [t] ++ [o]))) hs3
  have ej := f_join (x := [32]) hs4 (by rw [tot_app, tot_app]; simp [tot] at htt ⊢; omega)
  refine s_ret (v := .str (S (TL.joinL [32] (hd ++ [t] ++ [o])))) (st' := s3.set st.length (.lst (sL (hd ++ [t] ++ [o])))) (fun K E k => ?_) ⟨rfl, (fr2.trans fr3).set (.inl (Nat.le_refl _))⟩
  simp only [wp_mM, wp_mRecv, wp_mC, wp_mCons, wp_mVar, wp_mNil, lit_18, List.getElem?_cons_zero, List.getElem?_cons_succ, rec_s, if_true, ej, wp_ok]
  exact k
end K65
/-! ## Sp30 -/
set_option Elab.async false
set_option linter.all false
set_option maxRecDepth 100000
set_option maxHeartbeats 4000000
namespace K65
open PySem L2 SX Mi
variable {l a : List Nat} {c : Nat}
theorem jline_prog {w : List Nat} {row part : List (List Nat × Nat)} {n : Nat} {t o : List Nat} (hw : w = wDown ∨ w = wRoot ∨ w = wUp) (hn : n < 10 ^ 61) (ht : t.length ≤ 4000) (ho : o.length ≤ 4000) (h1 : ∀ st, ∃ st', m_shown [.tup (rowD row)] st = .ok (.str (S t)) st' ∧ Fr [] st st') (h2 : ∀ st, ∃ st', m_shown [.tup (rowD part)] st = .ok (.str (S o)) st' ∧ Fr [] st st') (st : Store) :
    ∃ st', m_join_line [.tup [.str (S w), .tup (rowD row), .tup (rowD part), .int (n : Nat)]] st = .ok (.str (S (TL.joinL [32] ((if w = wDown then [w, TL.numL n] else [w]) ++ [t] ++ [o])))) st' ∧ Fr [] st st' := by
  have key : wp (m_join_line [.tup [.str (S w), .tup (rowD row), .tup (rowD part), .int (n : Nat)]] st) (fun d s => d = .str (S (TL.joinL [32] ((if w = wDown then [w, TL.numL n] else [w]) ++ [t] ++ [o]))) ∧ Fr [] st s) fun _ _ _ => False := by
    refine wp_def (show wpS (b_join_line [some (.tup [.str (S w), .tup (rowD row), .tup (rowD part), .int (n : Nat)]), none, none, none, none, none] st) _ _ _ from ?_)
    refine s_seq (s_asg (v := .tup [.str (S w), .tup (rowD row), .tup (rowD part), .int (n : Nat)]) (st' := st) (fun K E k => by simp; exact k) rfl ?_)
    refine s_seq (s_set (v := .ref st.length) (st' := st ++ [.lst (sL [w])]) (fun K E k => by simp; exact k) ?_)
    have hs : (st ++ [Ob.lst (sL [w])])[st.length]? = some (.lst (sL [w])) := app_new
    have fr : Fr [] st (st ++ [Ob.lst (sL [w])]) := Fr.refl.app
    generalize st ++ [Ob.lst (sL [w])] = s1 at *
    obtain ⟨en, -, hnl⟩ := num_text (st := s1) hn
    have ea := f_append (y := .str (S (TL.numL n))) hs (show (sL [w]).length < 1000000 by simp)
    have hwl : w.length ≤ 4 := by rcases hw with rfl | rfl | rfl <;> decide
    by_cases hd : w = wDown
    · rw [if_pos hd]
      refine s_seq (s_if (b := true) (st' := s1) (fun K E k => by simp [hd]; exact k) (fun _ => ?_) (fun h => by cases h))
      refine s_expr (v := .non) (st' := s1.set st.length (.lst (sL [w, TL.numL n]))) (fun K E k => by simp [rec_l hs, en, ea]; exact k) ?_
      have := jtail (w := w) (x0 := some (.tup [.str (S w), .tup (rowD row), .tup (rowD part), .int (n : Nat)])) (p := some (.int (n : Nat))) (hd := [w, TL.numL n]) h1 h2 ht ho (by simp) (by simp [tot]; omega) (set_at (o' := .lst (sL [w, TL.numL n])) hs) (fr.set (.inl (Nat.le_refl _)))
      exact wpS_mono this (fun _ _ h => h.elim) (fun _ _ h => h) (fun _ _ _ _ h => h)
    · rw [if_neg hd]
      refine s_seq (s_if (b := false) (st' := s1) (fun K E k => by
        rcases hw with rfl | rfl | rfl
        · exact absurd rfl hd
        · simp; exact k
        · simp; exact k) (fun h => by cases h) fun _ => s_skip ?_)
      have := jtail (w := w) (x0 := some (.tup [.str (S w), .tup (rowD row), .tup (rowD part), .int (n : Nat)])) (p := some (.int (n : Nat))) (hd := [w]) h1 h2 ht ho (by simp) (by simp [tot]; omega) hs fr
      exact wpS_mono this (fun _ _ h => h.elim) (fun _ _ h => h) (fun _ _ _ _ h => h)
  obtain ⟨d, s, e, rfl, fr⟩ := wp_get key
  exact ⟨s, e, fr⟩
end K65
/-! ## Sp31 -/
set_option Elab.async false
set_option linter.all false
set_option maxRecDepth 100000
set_option maxHeartbeats 4000000
namespace K65
open PySem L2 SX Mi
variable {l a : List Nat} {c : Nat}
theorem jline_law {w : List Nat} {row part : List (List Nat × Nat)} {n : Nat} {t o : List Nat} (hw : w = wDown ∨ w = wRoot ∨ w = wUp) (hn : n < 10 ^ 61) (ht : t.length ≤ 4000) (ho : o.length ≤ 4000) (h1 : ∀ st, ∃ st', m_law_show [.tup (rowD row)] st = .ok (.str (S t)) st' ∧ Fr [] st st') (h2 : ∀ st, ∃ st', m_law_show [.tup (rowD part)] st = .ok (.str (S o)) st' ∧ Fr [] st st') (st : Store) :
    ∃ st', m_law_join_line [.tup [.str (S w), .tup (rowD row), .tup (rowD part), .int (n : Nat)]] st = .ok (.str (S (TL.joinL [32] ((if w = wDown then [w, TL.numL n] else [w]) ++ [t] ++ [o])))) st' ∧ Fr [] st st' := by
  have key : wp (m_law_join_line [.tup [.str (S w), .tup (rowD row), .tup (rowD part), .int (n : Nat)]] st) (fun d s => d = .str (S (TL.joinL [32] ((if w = wDown then [w, TL.numL n] else [w]) ++ [t] ++ [o]))) ∧ Fr [] st s) fun _ _ _ => False := by
    refine wp_def (show wpS (b_law_join_line [some (.tup [.str (S w), .tup (rowD row), .tup (rowD part), .int (n : Nat)])] st) _ _ _ from ?_)
    obtain ⟨s1, e1, fr1⟩ := h1 st
    obtain ⟨s2, e2, fr2⟩ := h2 s1
    obtain ⟨en, -, hnl⟩ := num_text (st := st) hn
    have i0 : atI [D.str (S w), .tup (rowD row), .tup (rowD part), .int (n : Nat)] 0 = some (.str (S w)) := rfl
    have i1 : atI [D.str (S w), .tup (rowD row), .tup (rowD part), .int (n : Nat)] 1 = some (.tup (rowD row)) := rfl
    have i2 : atI [D.str (S w), .tup (rowD row), .tup (rowD part), .int (n : Nat)] 2 = some (.tup (rowD part)) := rfl
    have i3 : atI [D.str (S w), .tup (rowD row), .tup (rowD part), .int (n : Nat)] 3 = some (.int (n : Nat)) := rfl
    have hwl : w.length ≤ 4 := by rcases hw with rfl | rfl | rfl <;> decide
    by_cases hd : w = wDown
    · rw [if_pos hd]
      subst hd
      refine s_seq (s_if (b := true) (st' := st) (fun K E k => by simp [i0]; exact k) (fun _ => ?_) (fun h => by cases h))
      refine s_ret (v := .str (S (TL.joinL [32] ([wDown, TL.numL n] ++ [t] ++ [o])))) (st' := s2) (fun K E k => ?_) ⟨rfl, fr1.trans fr2⟩
      generalize TL.numL n = m at *
      simp [i0, i1, i2, i3, en, e1, e2]
      refine ⟨by omega, by omega, by omega, by omega, by omega, ?_⟩
      simp [TL.joinL] at k
      exact k
    · rw [if_neg hd]
      refine s_seq (s_if (b := false) (st' := st) (fun K E k => by
        rcases hw with rfl | rfl | rfl
        · exact absurd rfl hd
        · simp [i0]; exact k
        · simp [i0]; exact k) (fun h => by cases h) fun _ => s_skip ?_)
      refine s_ret (v := .str (S (TL.joinL [32] ([w] ++ [t] ++ [o])))) (st' := s2) (fun K E k => ?_) ⟨rfl, fr1.trans fr2⟩
      simp [i0, i1, i2, i3, e1, e2]
      refine ⟨by omega, by omega, by omega, by omega, ?_⟩
      simp [TL.joinL] at k
      exact k
  obtain ⟨d, s, e, rfl, fr⟩ := wp_get key
  exact ⟨s, e, fr⟩
end K65
/-! ## Sp32 -/
set_option Elab.async false
set_option linter.all false
set_option maxRecDepth 100000
set_option maxHeartbeats 4000000
namespace K65
open PySem L2 SX Mi
variable {l a : List Nat} {c : Nat}
theorem jline_two {d : D} (h : jRow d) : ∃ t, Asc t ∧ t.length ≤ 6000 ∧ (∀ st, ∃ st', m_join_line [d] st = .ok (.str (S t)) st' ∧ Fr [] st st') ∧ ∀ st, ∃ st', m_law_join_line [d] st = .ok (.str (S t)) st' ∧ Fr [] st st' := by
  obtain ⟨w, row, part, n, hw, g1, g2, hn, rfl⟩ := h
  obtain ⟨t, -, at1, lt1, p1, q1⟩ := good_text g1
  obtain ⟨o, -, ao, lo, p2, q2⟩ := good_text g2
  obtain ⟨-, an, ln⟩ := num_text (st := []) hn
  have hwl : w.length ≤ 4 ∧ Asc w := by rcases hw with rfl | rfl | rfl <;> exact ⟨by decide, by unfold Asc; decide⟩
  refine ⟨TL.joinL [32] ((if w = wDown then [w, TL.numL n] else [w]) ++ [t] ++ [o]), asc_join (asc_one (by decide)) fun x hx => ?_, ?_, jline_prog hw hn (by omega) (by omega) p1 p2, jline_law hw hn (by omega) (by omega) q1 q2⟩
  · split at hx
    · simp at hx; rcases hx with rfl | rfl | rfl | rfl
      · exact hwl.2
      · exact an
      · exact at1
      · exact ao
    · simp at hx; rcases hx with rfl | rfl | rfl
      · exact hwl.2
      · exact at1
      · exact ao
  · have := joinL_le 32 ((if w = wDown then [w, TL.numL n] else [w]) ++ [t] ++ [o])
    split at this
    · rename_i hd
      rw [if_pos hd]
      simp [tot] at this ⊢; omega
    · rename_i hd
      rw [if_neg hd]
      simp [tot] at this ⊢; omega
end K65
/-! ## Sp33 -/
set_option Elab.async false
set_option linter.all false
set_option maxRecDepth 100000
set_option maxHeartbeats 4000000
namespace K65
open PySem L2 SX Mi
variable {l a : List Nat} {c : Nat}
/-- what both writers make of a list of rows -/
theorem rows_two {P : D → Prop} {f g : MF} {B : Nat} (h : ∀ d, P d → ∃ t, Asc t ∧ t.length ≤ B ∧ (∀ st, ∃ st', f [d] st = .ok (.str (S t)) st' ∧ Fr [] st st') ∧ ∀ st, ∃ st', g [d] st = .ok (.str (S t)) st' ∧ Fr [] st st') :
    ∀ ds : List D, (∀ d ∈ ds, P d) → ∃ ls : List (List Nat), ls.length = ds.length ∧ (∀ w ∈ ls, Asc w ∧ w.length ≤ B) ∧ ∀ (j : Nat) (d : D) (w : List Nat), ds[j]? = some d → ls[j]? = some w → (∀ st, ∃ st', f [d] st = .ok (.str (S w)) st' ∧ Fr [] st st') ∧ ∀ st, ∃ st', g [d] st = .ok (.str (S w)) st' ∧ Fr [] st st'
  | [], _ => ⟨[], rfl, (fun _ h => nomatch h), fun j d w hd => by simp at hd⟩
  | d :: ds, hd => by
    obtain ⟨t, h1, h2, h3, h4⟩ := h d (hd d List.mem_cons_self)
    obtain ⟨ls, q1, q2, q3⟩ := rows_two h ds fun x hx => hd x (List.mem_cons_of_mem _ hx)
    refine ⟨t :: ls, by simp [q1], fun w hw => ?_, fun j x w hx hw => ?_⟩
    · rcases List.mem_cons.mp hw with rfl | hw
      · exact ⟨h1, h2⟩
      · exact q2 w hw
    · cases j with
      | zero => simp at hx hw; subst hx hw; exact ⟨h3, h4⟩
      | succ j => exact q3 j x w (by simpa using hx) (by simpa using hw)
theorem tot_le {B : Nat} : ∀ {ls : List (List Nat)}, (∀ w ∈ ls, Asc w ∧ w.length ≤ B) → tot ls ≤ B * ls.length
  | [], _ => Nat.zero_le _
  | w :: ls, h => by
    have ih := tot_le fun x hx => h x (List.mem_cons_of_mem _ hx)
    have := (h w List.mem_cons_self).2
    simp only [tot, List.map_cons, List.sum_cons, List.length_cons] at ih ⊢
    rw [Nat.mul_succ]; omega
end K65
/-! ## Sp34 -/
set_option Elab.async false
set_option linter.all false
set_option maxRecDepth 100000
set_option maxHeartbeats 4000000
namespace K65
open PySem L2 SX Mi
variable {l a : List Nat} {c : Nat}
/-- the text of a chain, of joins: what the law joins is what the program writes -/
theorem texts_two {chain : Bool} {ds : List D} (hd : ds.length ≤ 5) (h : ∀ d ∈ ds, if chain = true then cRow d else jRow d) : ∃ ls : List (List Nat), Asc (TL.joinL [10] ls) ∧ (TL.joinL [10] ls).length ≤ 30005 ∧
    (∀ st, ∃ st', textMF chain [.tup ds] st = .ok (.str (S (TL.joinL [10] ls))) st' ∧ Fr [] st st') ∧
    ∀ (env : Mi.Env) (mt : ME) (i : Nat) (st : Store), mt env st = .ok (.tup ds) st → i < env.length → ∃ (r : Nat) (st' : Store), mLc (iVal mt) [i] (gN i) mYes (mCall (if chain = true then m_law_chain_line else m_law_join_line) (mCons (mVar i) mNil)) env st = .ok (.ref r) st' ∧ fJoin (.str (S [10])) [.ref r] st' = .ok (.str (S (TL.joinL [10] ls))) st' ∧ Fr [] st st' := by
  obtain ⟨ls, q1, q2, q3⟩ := rows_two (B := 6000) (P := fun d => if chain = true then cRow d else jRow d) (f := if chain = true then m_chain_line else m_join_line) (g := if chain = true then m_law_chain_line else m_law_join_line) (fun d hd => by
    cases chain
    · exact jline_two hd
    · obtain ⟨t, h1, h2, h3⟩ := cline_two hd
      exact ⟨t, h1, by omega, h3⟩) ds h
  have hT := tot_le q2
  have hz : tot ls + ls.length * ([10] : List Nat).length ≤ 1000000 := by rw [List.length_singleton]; omega
  have hL := joinL_le 10 ls
  refine ⟨ls, asc_join (asc_one (by decide)) fun t ht => (q2 t ht).1, by omega, fun st => ?_, fun env mt i st hm hi => ?_⟩
  · cases chain
    · obtain ⟨s2, e2, h3, h4⟩ := lc_texts (st := st) (env := [some (.tup ds), none]) (mt := mVar 0) (line := m_join_line) (i := 1) (ds := ds) (ls := ls) rfl (by simp) q1.symm (by omega) (fun j d w hd hw s _ => (q3 j d w hd hw).1 s)
      have ej := f_join (x := [10]) h3 hz
      have key : wp (m_joins_text [.tup ds] st) (fun d s => d = .str (S (TL.joinL [10] ls)) ∧ s = s2) fun _ _ _ => False := by
        refine wp_def (show wpS (b_joins_text [some (.tup ds), none] st) _ _ _ from ?_)
        exact s_ret (v := .str (S (TL.joinL [10] ls))) (st' := s2) (fun K E k => by simp [e2, ej]; exact k) ⟨rfl, rfl⟩
      exact ⟨s2, wp_ok_eq key, h4⟩
    · obtain ⟨s2, e2, h3, h4⟩ := lc_texts (st := st) (env := [some (.tup ds), none]) (mt := mVar 0) (line := m_chain_line) (i := 1) (ds := ds) (ls := ls) rfl (by simp) q1.symm (by omega) (fun j d w hd hw s _ => (q3 j d w hd hw).1 s)
      have ej := f_join (x := [10]) h3 hz
      have key : wp (m_chain_text [.tup ds] st) (fun d s => d = .str (S (TL.joinL [10] ls)) ∧ s = s2) fun _ _ _ => False := by
        refine wp_def (show wpS (b_chain_text [some (.tup ds), none] st) _ _ _ from ?_)
        exact s_ret (v := .str (S (TL.joinL [10] ls))) (st' := s2) (fun K E k => by simp [e2, ej]; exact k) ⟨rfl, rfl⟩
      exact ⟨s2, wp_ok_eq key, h4⟩
  · obtain ⟨s2, e2, h3, h4⟩ := lc_texts (st := st) (env := env) (mt := mt) (line := if chain = true then m_law_chain_line else m_law_join_line) (i := i) (ds := ds) (ls := ls) hm hi q1.symm (by omega) (fun j d w hd hw s _ => (q3 j d w hd hw).2 s)
    exact ⟨st.length, s2, e2, f_join (x := [10]) h3 hz, h4⟩
end K65
/-! ## Sp35 -/
set_option Elab.async false
set_option linter.all false
set_option maxRecDepth 100000
set_option maxHeartbeats 4000000
namespace K65
open PySem L2 SX Mi
variable {l a : List Nat} {c : Nat}
/-- a sign of an ascii text -/
theorem ix_asc {a : List Nat} {i : Nat} (ha : Asc a) (hi : i < a.length) (hz : a.length ≤ 1000000) : ∃ c, c < 128 ∧ ∀ s, fIx (.str (S a)) (.int (i : Nat)) s = .ok (.str (S [c])) s := by
  refine ⟨a[i], ha _ (List.getElem_mem hi), fun s => Ev.eq fun K E k => ?_⟩
  rw [f_ix_s, if_pos hz, atI_k, List.getElem?_eq_getElem hi]
  exact k
def SG1 : List Nat := [32, 33, 34, 35, 36, 38, 39, 40, 41, 42, 43, 44, 45, 46, 47, 48, 49, 50, 51, 52, 53, 54, 55, 56, 57, 58, 59, 60, 61, 62, 63, 64, 65, 66, 67, 68, 69, 70, 71, 72, 73, 74, 75, 76, 77, 78, 79, 80, 81, 82, 83, 84, 85, 86, 87, 88, 89, 90, 91, 92, 93, 94, 95, 96, 97, 98, 99, 100, 101, 102, 103, 104, 105, 106, 107, 108, 109, 110, 111, 112, 113, 114, 115, 116, 117, 118, 119, 120, 121, 122, 123, 124, 125, 126]
def SG2 : List Nat := [32, 40, 41, 44, 46, 48, 49, 97, 45, 63, 10, 122, 65]
theorem SG1_len : SG1.length = 94 := rfl
theorem SG2_len : SG2.length = 13 := rfl
theorem SG1_asc : Asc SG1 := by unfold Asc SG1; decide
theorem SG2_asc : Asc SG2 := by unfold Asc SG2; decide
theorem lit_sg1 : Str.ofString " !\"#$&'()*+,-./0123456789:;<=>?@ABCDEFGHIJKLMNOPQRSTUVWXYZ[\\]^_`abcdefghijklmnopqrstuvwxyz{|}~" = S SG1 := lit_12
theorem lit_sg2 : Str.ofString " (),.01a-?\nzA" = S SG2 := lit_50
theorem sign_eq {s : Store} (h : TapeAt s) : ∃ (c : Nat) (s' : Store), m_law_sign [.ref 1] s = .ok (.str (S [c])) s' ∧ c < 128 ∧ TapeAt s' ∧ Fr [1] s s' := by
  have key : wp (m_law_sign [.ref 1] s) (fun d s' => ∃ c, d = .str (S [c]) ∧ c < 128 ∧ TapeAt s' ∧ Fr [1] s s') fun _ _ _ => False := by
    refine wp_def (show wpS (b_law_sign [some (.ref 1), none] s) _ _ _ from ?_)
    obtain ⟨v, s1, e1, b1, t1, f1⟩ := drawI h 2 (by decide) (by decide)
    refine s_seq (s_if (b := decide ((v : Int) = 1)) (st' := s1) (fun K E k => by simp [e1] at k ⊢; exact k) (fun hb => ?_) fun hb => s_skip ?_)
    · obtain ⟨i, s2, e2, b2, t2, f2⟩ := drawI t1 13 (by decide) (by decide)
      obtain ⟨c, hc, ec⟩ := ix_asc (i := i) SG2_asc (by rw [SG2_len]; omega) (by rw [SG2_len]; omega)
      refine s_ret (v := .str (S [c])) (st' := s2) (fun K E k => ?_) ⟨c, rfl, hc, t2, f1.trans f2⟩
      simp only [wp_mBin, wp_mC, wp_mCall, wp_mCons, wp_mVar, wp_mNil, List.getElem?_cons_zero, e2, wp_ok, lit_sg2, ec]
      exact k
    · refine s_seq (s_set (v := .str (S SG1)) (st' := s1) (fun K E k => by simp only [wp_mC, lit_sg1]; exact k) ?_)
      obtain ⟨i, s2, e2, b2, t2, f2⟩ := drawI t1 (SG1.length : Nat) (by rw [SG1_len]; decide) (by rw [SG1_len]; decide)
      obtain ⟨c, hc, ec⟩ := ix_asc (i := i) SG1_asc (by omega) (by rw [SG1_len]; omega)
      refine s_ret (v := .str (S [c])) (st' := s2) (fun K E k => ?_) ⟨c, rfl, hc, t2, f1.trans f2⟩
      simp only [wp_mBin, wp_mC, wp_mCall, wp_mCons, wp_mVar, wp_mFn, wp_mNil, List.set_cons_succ, List.set_cons_zero, List.getElem?_cons_zero, List.getElem?_cons_succ, f_len_s, if_pos (show SG1.length ≤ 1000000 by rw [SG1_len]; omega), e2, wp_ok, ec]
      exact k
  obtain ⟨d, s', e, c, rfl, h3, h4, h5⟩ := wp_get key
  exact ⟨c, s', e, h3, h4, h5⟩
end K65
/-! ## Sp36 -/
set_option Elab.async false
set_option linter.all false
set_option maxRecDepth 100000
set_option maxHeartbeats 4000000
namespace K65
open PySem L2 SX Mi
variable {l a : List Nat} {c : Nat}
/-! ### texts and rows of texts of bounded length, by expressions that may draw -/
def TX (B : Nat) (w : List Nat) : Prop := Asc w ∧ w.length ≤ B
def AL (B : Nat) (ws : List (List Nat)) : Prop := (∀ w ∈ ws, Asc w) ∧ tot ws + ws.length ≤ B
/-- an expression that gives a text -/
def TP (m : ME) (env : Mi.Env) (s : Store) (B : Nat) : Prop := ∀ s0, TapeAt s0 → Fr [1] s s0 → ∃ (w : List Nat) (s' : Store), m env s0 = .ok (.str (S w)) s' ∧ TX B w ∧ TapeAt s' ∧ Fr [1] s0 s'
/-- an expression that gives a list of texts -/
def LP (m : ME) (env : Mi.Env) (s : Store) (B : Nat) : Prop := ∀ s0, TapeAt s0 → Fr [1] s s0 → ∃ (ws : List (List Nat)) (r : Nat) (s' : Store), m env s0 = .ok (.ref r) s' ∧ s'[r]? = some (.lst (sL ws)) ∧ 2 ≤ r ∧ AL B ws ∧ TapeAt s' ∧ Fr [1] s0 s'
/-- an expression that gives this number -/
def IP (m : ME) (env : Mi.Env) (k : Nat) : Prop := ∀ s : Store, m env s = .ok (.int (k : Nat)) s
theorem tot_apps {xs ys : List (List Nat)} : tot (xs ++ ys) = tot xs + tot ys := by simp [tot]
theorem AL.app {B C : Nat} {xs ys : List (List Nat)} (h : AL B xs) (g : AL C ys) : AL (B + C) (xs ++ ys) := ⟨fun w hw => by
  rcases List.mem_append.mp hw with hw | hw
  · exact h.1 w hw
  · exact g.1 w hw, by
  have h2 := h.2
  have g2 := g.2
  rw [tot_apps, List.length_append]; omega⟩
theorem AL.one {B : Nat} {w : List Nat} (h : TX B w) : AL (B + 1) [w] := ⟨fun v hv => by simp at hv; subst hv; exact h.1, by
  have := h.2
  simp [tot]; omega⟩
theorem AL.take {B k : Nat} {xs : List (List Nat)} (h : AL B xs) : AL B (xs.take k) := ⟨fun w hw => h.1 w (List.mem_of_mem_take hw), by
  have h2 := h.2
  have e := congrArg tot (List.take_append_drop k xs)
  have e2 := congrArg List.length (List.take_append_drop k xs)
  rw [tot_apps] at e
  rw [List.length_append] at e2
  omega⟩
theorem AL.drop {B k : Nat} {xs : List (List Nat)} (h : AL B xs) : AL B (xs.drop k) := ⟨fun w hw => h.1 w (List.mem_of_mem_drop hw), by
  have h2 := h.2
  have e := congrArg tot (List.take_append_drop k xs)
  have e2 := congrArg List.length (List.take_append_drop k xs)
  rw [tot_apps] at e
  rw [List.length_append] at e2
  omega⟩
theorem tot_set {w : List Nat} : ∀ {xs : List (List Nat)} {k : Nat}, tot (xs.set k w) ≤ tot xs + w.length
  | [], _ => by simp
  | x :: xs, 0 => by simp [tot]; omega
  | x :: xs, k + 1 => by
    have := tot_set (w := w) (xs := xs) (k := k)
    simp [tot] at this ⊢; omega
theorem AL.set {B C k : Nat} {w : List Nat} {xs : List (List Nat)} (h : AL B xs) (g : TX C w) : AL (B + C) (xs.set k w) := ⟨fun v hv => by
  rcases List.mem_or_eq_of_mem_set hv with hv | rfl
  · exact h.1 v hv
  · exact g.1, by
  have h2 := h.2
  have g2 := g.2
  have := tot_set (w := w) (xs := xs) (k := k)
  rw [List.length_set]; omega⟩
theorem AL.mono {B C : Nat} {xs : List (List Nat)} (h : AL B xs) (g : B ≤ C) : AL C xs := ⟨h.1, Nat.le_trans h.2 g⟩
theorem TX.mono {B C : Nat} {w : List Nat} (h : TX B w) (g : B ≤ C) : TX C w := ⟨h.1, Nat.le_trans h.2 g⟩
theorem mem_tot {w : List Nat} : ∀ {xs : List (List Nat)}, w ∈ xs → w.length ≤ tot xs
  | x :: xs, h => by
    rcases List.mem_cons.mp h with rfl | h
    · simp [tot]
    · have := mem_tot h
      simp [tot] at this ⊢; omega
theorem AL.mem {B k : Nat} {xs : List (List Nat)} {w : List Nat} (h : AL B xs) (hk : xs[k]? = some w) : TX B w := by
  refine ⟨h.1 w (List.mem_of_getElem? hk), ?_⟩
  have h2 := h.2
  have : w.length ≤ tot xs := mem_tot (List.mem_of_getElem? hk)
  omega
theorem spl_AL (hc : c < 256) (ha : Asc l) : AL (l.length + 1) (spl1 c l) := ⟨fun w hw d hd => ha d ((spl1_sub hc hw).1 d hd), by
  have := tot_join c (spl1 c l)
  rw [spl1_join hc] at this
  exact this⟩
theorem join_TX {B : Nat} {ws : List (List Nat)} (hc : c < 128) (h : AL B ws) : TX B (TL.joinL [c] ws) := ⟨asc_join (asc_one hc) h.1, Nat.le_trans (joinL_le c ws) h.2⟩
section
variable {m m' mi ma mb : ME} {env : Mi.Env} {s : Store} {B C k i : Nat} {w : List Nat} {ws : List (List Nat)} {L : Nat}
theorem TP.con {x : Str} (hx : x = S w) (h : TX B w) : TP (mC (.str x)) env s B := fun s0 t f => ⟨w, s0, by rw [hx]; rfl, h, t, Fr.refl⟩
theorem TP.v (he : env[i]? = some (some (.str (S w)))) (h : TX B w) : TP (mVar i) env s B := fun s0 t f => ⟨w, s0, by unfold mVar; rw [he], h, t, Fr.refl⟩
theorem TP.add (h : TP ma env s B) (g : TP mb env s C) (hz : B + C ≤ 1000000) : TP (mBin fAdd ma mb) env s (B + C) := fun s0 t f => by
  obtain ⟨w1, s1, e1, x1, t1, f1⟩ := h s0 t f
  obtain ⟨w2, s2, e2, x2, t2, f2⟩ := g s1 t1 (f.trans f1)
  have l1 := x1.2
  have l2 := x2.2
  refine ⟨w1 ++ w2, s2, Ev.eq fun K E k => ?_, ⟨asc_app x1.1 x2.1, by rw [List.length_append]; omega⟩, t2, f1.trans f2⟩
  rw [wp_mBin, e1, wp_ok, e2, wp_ok, f_add_s, if_pos (by rw [S_len, S_len]; omega), f_cat]
  exact k
theorem idx_ge {a : List Nat} {i : Nat} (h : a.length ≤ i) : Txt.slice (S a) (some (i : Int)) none = Txt.slice (S a) (some (a.length : Int)) none := by
  unfold Txt.slice Builtin.Str.strSliceIndices
  have e : min (i : Int) (a.length : Int) = a.length := by omega
  simp [show ¬ (i : Int) < 0 by omega, show ¬ (a.length : Int) < 0 by omega, e]
theorem sl_from {a : List Nat} {i : Nat} : Txt.slice (S a) (some (i : Int)) none = S (a.drop i) := by
  by_cases h : i ≤ a.length
  · exact sl_fr h
  · rw [idx_ge (by omega), sl_fr (Nat.le_refl _), List.drop_length, List.drop_eq_nil_of_le (by omega)]
theorem TP.to (h : TP m env s B) (hi : IP mi env k) (hz : B ≤ 1000000) : TP (mSl m mON (mOS mi)) env s B := fun s0 t f => by
  obtain ⟨w, s1, e1, x1, t1, f1⟩ := h s0 t f
  have l1 := x1.2
  refine ⟨w.take k, s1, Ev.eq fun K E kk => ?_, ⟨asc_take x1.1, by rw [List.length_take]; omega⟩, t1, f1⟩
  rw [wp_mSl, e1, wp_ok, wp_mON, wp_mOS, hi s1, wp_ok]
  dsimp only
  rw [f_sl_s, if_pos (by omega), sl_to]
  exact kk
theorem TP.fr (h : TP m env s B) (hi : IP mi env k) (hz : B ≤ 1000000) : TP (mSl m (mOS mi) mON) env s B := fun s0 t f => by
  obtain ⟨w, s1, e1, x1, t1, f1⟩ := h s0 t f
  have l1 := x1.2
  refine ⟨w.drop k, s1, Ev.eq fun K E kk => ?_, ⟨asc_drop x1.1, by rw [List.length_drop]; omega⟩, t1, f1⟩
  rw [wp_mSl, e1, wp_ok, wp_mOS, hi s1, wp_ok]
  dsimp only
  rw [wp_mON, f_sl_s, if_pos (by omega), sl_from]
  exact kk
theorem TP.mono (h : TP m env s B) (g : B ≤ C) : TP m env s C := fun s0 t f => by
  obtain ⟨w, s1, e1, x1, t1, f1⟩ := h s0 t f
  exact ⟨w, s1, e1, x1.mono g, t1, f1⟩
theorem f_add_l {s : Store} {l m : Nat} {xs ys : List D} (h1 : s[l]? = some (.lst xs)) (h2 : s[m]? = some (.lst ys)) (hz : xs.length + ys.length ≤ 1000000) : fAdd (.ref l) (.ref m) s = .ok (.ref s.length) (s ++ [.lst (xs ++ ys)]) := by
  unfold fAdd; simp only [h1, h2]; rw [if_pos hz]
theorem LP.v (he : env[i]? = some (some (.ref L))) (hL : s[L]? = some (.lst (sL ws))) (h2 : 2 ≤ L) (h : AL B ws) : LP (mVar i) env s B := fun s0 t f => ⟨ws, L, s0, by unfold mVar; rw [he], f.get hL (by simp; omega), h2, h, t, Fr.refl⟩
theorem LP.add (h : LP ma env s B) (g : LP mb env s C) (hz : B + C ≤ 1000000) : LP (mBin fAdd ma mb) env s (B + C) := fun s0 t f => by
  obtain ⟨w1, r1, s1, e1, q1, n1, x1, t1, f1⟩ := h s0 t f
  obtain ⟨w2, r2, s2, e2, q2, n2, x2, t2, f2⟩ := g s1 t1 (f.trans f1)
  have l1 := x1.2
  have l2 := x2.2
  have q1' := f2.get q1 (by simp; omega)
  have ea := f_add_l q1' q2 (by rw [sL_len, sL_len]; omega)
  refine ⟨w1 ++ w2, s2.length, s2 ++ [.lst (sL (w1 ++ w2))], Ev.eq fun K E k => ?_, app_new, t2.two, x1.app x2, t2.app, (f1.trans f2).app⟩
  rw [wp_mBin, e1, wp_ok, e2, wp_ok, ea, wp_ok, ← sL_app]
  exact k
theorem cut_to {t : Nat} : cutD (sL ws) none (some (t : Int)) = sL (ws.take t) := by
  unfold cutD
  rw [HT.sIx_none, HT.sIx_nat, List.drop_zero, Nat.sub_zero, sL_len]
  unfold sL
  rw [← List.map_take]
  congr 1
  by_cases h : t ≤ ws.length
  · rw [Nat.min_eq_left h]
  · rw [Nat.min_eq_right (by omega), List.take_length, List.take_of_length_le (by omega)]
theorem cut_fr {t : Nat} : cutD (sL ws) (some (t : Int)) none = sL (ws.drop t) := by
  unfold cutD
  rw [HT.sIx_none, HT.sIx_nat, sL_len]
  rw [List.take_of_length_le (by rw [List.length_drop, sL_len]; omega)]
  unfold sL
  rw [← List.map_drop]
  congr 1
  by_cases h : t ≤ ws.length
  · rw [Nat.min_eq_left h]
  · rw [Nat.min_eq_right (by omega), List.drop_length, List.drop_eq_nil_of_le (by omega)]
theorem LP.to (h : LP m env s B) (hi : IP mi env k) : LP (mSl m mON (mOS mi)) env s B := fun s0 t f => by
  obtain ⟨w, r, s1, e1, q1, n1, x1, t1, f1⟩ := h s0 t f
  have ec : fSl (.ref r) none (some (k : Int)) s1 = .ok (.ref s1.length) (s1 ++ [.lst (sL (w.take k))]) := by
    unfold fSl; simp only [items_l q1, cut_to]
  refine ⟨w.take k, s1.length, s1 ++ [.lst (sL (w.take k))], Ev.eq fun K E kk => ?_, app_new, t1.two, x1.take, t1.app, f1.app⟩
  rw [wp_mSl, e1, wp_ok, wp_mON, wp_mOS, hi s1, wp_ok]
  dsimp only
  rw [ec]
  exact kk
theorem LP.fr (h : LP m env s B) (hi : IP mi env k) : LP (mSl m (mOS mi) mON) env s B := fun s0 t f => by
  obtain ⟨w, r, s1, e1, q1, n1, x1, t1, f1⟩ := h s0 t f
  have ec : fSl (.ref r) (some (k : Int)) none s1 = .ok (.ref s1.length) (s1 ++ [.lst (sL (w.drop k))]) := by
    unfold fSl; simp only [items_l q1, cut_fr]
  refine ⟨w.drop k, s1.length, s1 ++ [.lst (sL (w.drop k))], Ev.eq fun K E kk => ?_, app_new, t1.two, x1.drop, t1.app, f1.app⟩
  rw [wp_mSl, e1, wp_ok, wp_mOS, hi s1, wp_ok]
  dsimp only
  rw [wp_mON, ec]
  exact kk
theorem LP.one (h : TP m env s B) : LP (mLst (mCons m mNil)) env s (B + 1) := fun s0 t f => by
  obtain ⟨w, s1, e1, x1, t1, f1⟩ := h s0 t f
  refine ⟨[w], s1.length, s1 ++ [.lst (sL [w])], Ev.eq fun K E kk => ?_, app_new, t1.two, AL.one x1, t1.app, f1.app⟩
  rw [wp_mLst, wp_mCons, e1, wp_ok, wp_mNil, if_pos (by simp)]
  exact kk
theorem LP.mono (h : LP m env s B) (g : B ≤ C) : LP m env s C := fun s0 t f => by
  obtain ⟨w, r, s1, e1, q1, n1, x1, t1, f1⟩ := h s0 t f
  exact ⟨w, r, s1, e1, q1, n1, x1.mono g, t1, f1⟩
theorem TP.join {x : Str} (hx : x = S [c]) (hc : c < 128) (h : LP m env s B) (hz : B ≤ 1000000) : TP (mM fJoin (mRecv "str" (mC (.str x))) (mCons m mNil)) env s B := fun s0 t f => by
  obtain ⟨w, r, s1, e1, q1, n1, x1, t1, f1⟩ := h s0 t f
  have l1 := x1.2
  have ej := f_join (x := [c]) q1 (by rw [List.length_singleton]; omega)
  refine ⟨TL.joinL [c] w, s1, Ev.eq fun K E kk => ?_, join_TX hc x1, t1, f1⟩
  rw [wp_mM, wp_mRecv, wp_mC, hx, rec_s, if_pos rfl, wp_mCons, e1, wp_ok, wp_mNil, ej]
  exact kk
theorem TP.ix (he : env[i]? = some (some (.ref L))) (hL : s[L]? = some (.lst (sL ws))) (h2 : 2 ≤ L) (hi : IP mi env k) (hk : ws[k]? = some w) (h : TX B w) : TP (mBin fIx (mVar i) mi) env s B := fun s0 t f => ⟨w, s0, Ev.eq fun K E kk => by
  rw [wp_mBin, wp_mVar, he]
  dsimp only
  rw [hi s0, wp_ok, ix_fs (f.get hL (by simp; omega)) hk]
  exact kk, h, t, Fr.refl⟩
theorem IP.v (he : env[i]? = some (some (.int (k : Nat)))) : IP (mVar i) env k := fun s0 => by unfold mVar; rw [he]
theorem IP.v1 (he : env[i]? = some (some (.int (k : Nat)))) : IP (mBin fAdd (mVar i) (mC (.int 1))) env (k + 1) := fun s0 => Ev.eq fun K E kk => by
  rw [wp_mBin, wp_mVar, he]
  exact kk
end
end K65
/-! ## Sp37 -/
set_option Elab.async false
set_option linter.all false
set_option maxRecDepth 100000
set_option maxHeartbeats 4000000
namespace K65
open PySem L2 SX Mi
variable {l a : List Nat} {c : Nat}
theorem f_rep {c n : Nat} {s : Store} (h : n ≤ 1000) : fMulA (.str (S [c])) (.int (n : Nat)) s = .ok (.str (S (List.replicate n c))) s := by
  show (if 0 ≤ (n : Int) ∧ (n : Int) ≤ 1000 ∧ (S [c]).length ≤ 1000 then Out.ok (D.str (Txt.mul (S [c]) n)) s else .no) = _
  rw [if_pos ⟨by omega, by omega, by rw [S_len, List.length_singleton]; decide⟩]
  have e := PyProof.Rows.mul_one_list c (n : Int)
  rw [Int.toNat_natCast] at e
  have e2 : Txt.mul (S [c]) (n : Int) = S (List.replicate n c) := by
    rw [← S_tl (Txt.mul (S [c]) (n : Int))]
    exact congrArg S e
  rw [e2]
def OD1 : List (List Nat) := [[], [48], [48, 48], [48, 49], [45, 49], [43, 49], [49, 46, 48], [120], [102, 40, 41], [102, 40, 97], [97, 41], [63], [102, 40, 63, 41], [46], [46, 40, 97, 41], [102, 40, 97, 44, 97, 44, 97, 44, 97, 41]]
def OD2 : List (List Nat) := [[102, 40, 97, 44, 97, 44, 97, 44, 97, 44, 97, 41], [65], [97, 50, 51, 52, 53, 54, 55, 56, 57, 48, 49, 50, 51, 52, 53, 54], [97, 50, 51, 52, 53, 54, 55, 56, 57, 48, 49, 50, 51, 52, 53, 54, 55], [112, 117, 116], [103, 105, 118, 101, 110], [114, 111, 111, 116], [117, 112], [100, 111, 119, 110]]
def OD3 : List (List Nat) := [[49] ++ List.replicate 59 48, [49] ++ List.replicate 60 48, List.replicate 60 57, List.replicate 61 57, [49, 95, 48], [102, 40, 97, 41, 40, 97, 41], [102, 40, 44, 97, 41], [102, 40, 97, 44, 41], [97, 44, 97], [40, 97, 41], [45, 97]]
theorem od_good : ∀ w ∈ OD1 ++ OD2 ++ OD3, TX 61 w := by
  have : (OD1 ++ OD2 ++ OD3).all (fun w => w.all (fun c => decide (c < 128)) && decide (w.length ≤ 61)) = true := by decide +kernel
  intro w hw
  have q := List.all_eq_true.mp this w hw
  rw [Bool.and_eq_true] at q
  exact ⟨fun c hc => of_decide_eq_true (List.all_eq_true.mp q.1 c hc), of_decide_eq_true q.2⟩
theorem od_len : (OD1 ++ OD2 ++ OD3).length = 36 := rfl
theorem f_rep59 {s : Store} {c : Nat} : fMulA (.str (S [c])) (.int 59) s = .ok (.str (S (List.replicate 59 c))) s := f_rep (n := 59) (by decide)
theorem f_rep60 {s : Store} {c : Nat} : fMulA (.str (S [c])) (.int 60) s = .ok (.str (S (List.replicate 60 c))) s := f_rep (n := 60) (by decide)
theorem f_rep61 {s : Store} {c : Nat} : fMulA (.str (S [c])) (.int 61) s = .ok (.str (S (List.replicate 61 c))) s := f_rep (n := 61) (by decide)
theorem odd_eq {s : Store} (h : TapeAt s) : ∃ (w : List Nat) (s' : Store), m_law_odd [.ref 1] s = .ok (.str (S w)) s' ∧ TX 61 w ∧ TapeAt s' ∧ Fr [1] s s' := by
  have key : wp (m_law_odd [.ref 1] s) (fun d s' => ∃ w, d = .str (S w) ∧ TX 61 w ∧ TapeAt s' ∧ Fr [1] s s') fun _ _ _ => False := by
    refine wp_def (show wpS (b_law_odd [some (.ref 1), none] s) _ _ _ from ?_)
    have two := h.two
    refine s_seq (s_set (v := .ref s.length) (st' := s ++ [.lst (sL OD1)]) (fun K E k => by simp; exact k) ?_)
    have h1 : (s ++ [Ob.lst (sL OD1)])[s.length]? = some (.lst (sL OD1)) := app_new
    have t1 : TapeAt (s ++ [Ob.lst (sL OD1)]) := h.app
    have f1 : Fr [1] s (s ++ [Ob.lst (sL OD1)]) := Fr.refl.app
    generalize s ++ [Ob.lst (sL OD1)] = s1 at *
    generalize s.length = r1 at *
    have h2 : (s1 ++ [Ob.lst (sL OD2)])[s1.length]? = some (.lst (sL OD2)) := app_new
    have h1' : (s1 ++ [Ob.lst (sL OD2)])[r1]? = some (.lst (sL OD1)) := app_at h1
    have t2 : TapeAt (s1 ++ [Ob.lst (sL OD2)]) := t1.app
    have f2 : Fr [1] s (s1 ++ [Ob.lst (sL OD2)]) := f1.app
    have ea := f_add_l h1' h2 (by rw [sL_len, sL_len]; decide)
    have h3 : (s1 ++ [Ob.lst (sL OD2)] ++ [Ob.lst (sL OD1 ++ sL OD2)])[(s1 ++ [Ob.lst (sL OD2)]).length]? = some (.lst (sL (OD1 ++ OD2))) := app_new.trans (congrArg (fun x => some (Ob.lst x)) sL_app.symm)
    have t3 : TapeAt (s1 ++ [Ob.lst (sL OD2)] ++ [Ob.lst (sL OD1 ++ sL OD2)]) := t2.app
    have f3 : Fr [1] s (s1 ++ [Ob.lst (sL OD2)] ++ [Ob.lst (sL OD1 ++ sL OD2)]) := f2.app
    have el2 : Ev (mLst (mCons (mC (.str "f(a,a,a,a,a)")) (mCons (mC (.str "A")) (mCons (mC (.str "a234567890123456")) (mCons (mC (.str "a2345678901234567")) (mCons (mC (.str "put")) (mCons (mC (.str "given")) (mCons (mC (.str "root")) (mCons (mC (.str "up")) (mCons (mC (.str "down")) mNil))))))))) [some (.ref 1), some (.ref r1)] s1) (.ref s1.length) (s1 ++ [.lst (sL OD2)]) := fun K E k => by simp; exact k
    refine s_seq (s_set (v := .ref (s1 ++ [Ob.lst (sL OD2)]).length) (st' := s1 ++ [Ob.lst (sL OD2)] ++ [Ob.lst (sL OD1 ++ sL OD2)]) (fun K E k => by
      simp only [List.set_cons_succ, List.set_cons_zero]
      rw [wp_mBin, wp_mVar]
      simp only [List.getElem?_cons_zero, List.getElem?_cons_succ]
      rw [el2.eq, wp_ok, ea]; exact k) ?_)
    generalize s1 ++ [Ob.lst (sL OD2)] ++ [Ob.lst (sL OD1 ++ sL OD2)] = s3 at *
    generalize (s1 ++ [Ob.lst (sL OD2)]).length = r3 at *
    simp only [List.set_cons_succ, List.set_cons_zero]
    have h4 : (s3 ++ [Ob.lst (sL OD3)])[s3.length]? = some (.lst (sL OD3)) := app_new
    have h3' : (s3 ++ [Ob.lst (sL OD3)])[r3]? = some (.lst (sL (OD1 ++ OD2))) := app_at h3
    have t4 : TapeAt (s3 ++ [Ob.lst (sL OD3)]) := t3.app
    have f4 : Fr [1] s (s3 ++ [Ob.lst (sL OD3)]) := f3.app
    have eb := f_add_l h3' h4 (by rw [sL_len, sL_len]; decide)
    have h5 : (s3 ++ [Ob.lst (sL OD3)] ++ [Ob.lst (sL (OD1 ++ OD2) ++ sL OD3)])[(s3 ++ [Ob.lst (sL OD3)]).length]? = some (.lst (sL (OD1 ++ OD2 ++ OD3))) := app_new.trans (congrArg (fun x => some (Ob.lst x)) sL_app.symm)
    have t5 : TapeAt (s3 ++ [Ob.lst (sL OD3)] ++ [Ob.lst (sL (OD1 ++ OD2) ++ sL OD3)]) := t4.app
    have f5 : Fr [1] s (s3 ++ [Ob.lst (sL OD3)] ++ [Ob.lst (sL (OD1 ++ OD2) ++ sL OD3)]) := f4.app
    have el3 : Ev (mLst (mCons (mBin fAdd (mC (.str "1")) (mBin fMulA (mC (.str "0")) (mC (.int 59)))) (mCons (mBin fAdd (mC (.str "1")) (mBin fMulA (mC (.str "0")) (mC (.int 60)))) (mCons (mBin fMulA (mC (.str "9")) (mC (.int 60))) (mCons (mBin fMulA (mC (.str "9")) (mC (.int 61))) (mCons (mC (.str "1_0")) (mCons (mC (.str "f(a)(a)")) (mCons (mC (.str "f(,a)")) (mCons (mC (.str "f(a,)")) (mCons (mC (.str "a,a")) (mCons (mC (.str "(a)")) (mCons (mC (.str "-a")) mNil))))))))))) [some (.ref 1), some (.ref r3)] s3) (.ref s3.length) (s3 ++ [.lst (sL OD3)]) := fun K E k => by
      simp only [wp_mLst, wp_mCons, wp_mBin, wp_mC, lit_70, lit_20, lit_71, lit_55, lit_56, lit_57, lit_58, lit_59, lit_60, lit_61, f_rep59, f_rep60, f_rep61, wp_ok, f_add_s, f_cat, wp_mNil, S_len, List.length_replicate, List.length_cons, List.length_nil]
      exact k
    refine s_seq (s_set (v := .ref (s3 ++ [Ob.lst (sL OD3)]).length) (st' := s3 ++ [Ob.lst (sL OD3)] ++ [Ob.lst (sL (OD1 ++ OD2) ++ sL OD3)]) (fun K E k => by
      rw [wp_mBin, wp_mVar]
      simp only [List.getElem?_cons_zero, List.getElem?_cons_succ]
      rw [el3.eq, wp_ok, eb]; exact k) ?_)
    generalize s3 ++ [Ob.lst (sL OD3)] ++ [Ob.lst (sL (OD1 ++ OD2) ++ sL OD3)] = s5 at *
    generalize (s3 ++ [Ob.lst (sL OD3)]).length = r5 at *
    simp only [List.set_cons_succ, List.set_cons_zero]
    have hr5 : r5 ≠ 1 := by
      rintro rfl
      obtain ⟨_, _, _, _, q, -⟩ := t5
      rw [q] at h5
      have := congrArg (fun o : Option Ob => match o with | some (.lst ds) => ds.length | _ => 0) h5
      simp [od_len] at this
      revert this
      decide
    obtain ⟨v, s6, e6, b6, t6, f6⟩ := drawI t5 36 (by decide) (by decide)
    have h6 := f6.get h5 (by simpa using hr5)
    have hv : v < (OD1 ++ OD2 ++ OD3).length := by rw [od_len]; omega
    have eL := lenL h5
    rw [sL_len, od_len] at eL
    have eL : fLen [.ref r5] s5 = .ok (.int 36) s5 := eL
    have ex := ix_fs h6 (List.getElem?_eq_getElem hv)
    have hg := od_good _ (List.getElem_mem hv)
    generalize (OD1 ++ OD2 ++ OD3)[v] = w at *
    exact s_ret (v := .str (S w)) (st' := s6) (fun K E k => by
      simp only [wp_mBin, wp_mVar, wp_mCall, wp_mCons, wp_mFn, wp_mNil, List.getElem?_cons_zero, List.getElem?_cons_succ, eL, wp_ok, e6, ex]
      exact k) ⟨w, rfl, hg, t6, f5.trans f6⟩
  obtain ⟨d, s', e, w, rfl, h3, h4, h5⟩ := wp_get key
  exact ⟨w, s', e, h3, h4, h5⟩
theorem TP.odd {env : Mi.Env} {s : Store} (he : env[0]? = some (some (.ref 1))) : TP (mCall m_law_odd (mCons (mVar 0) mNil)) env s 61 := fun s0 t f => by
  obtain ⟨w, s', e, h1, h2, h3⟩ := odd_eq t
  refine ⟨w, s', Ev.eq fun K E k => ?_, h1, h2, h3⟩
  rw [wp_mCall, wp_mCons, wp_mVar, he]
  dsimp only
  rw [wp_mNil, e]
  exact k
theorem TP.sign {env : Mi.Env} {s : Store} (he : env[0]? = some (some (.ref 1))) : TP (mCall m_law_sign (mCons (mVar 0) mNil)) env s 1 := fun s0 t f => by
  obtain ⟨c, s', e, h1, h2, h3⟩ := sign_eq t
  refine ⟨[c], s', Ev.eq fun K E k => ?_, ⟨asc_one h1, by simp⟩, h2, h3⟩
  rw [wp_mCall, wp_mCons, wp_mVar, he]
  dsimp only
  rw [wp_mNil, e]
  exact k
end K65
/-! ## Sp38 -/
set_option Elab.async false
set_option linter.all false
set_option maxRecDepth 100000
set_option maxHeartbeats 4000000
namespace K65
open PySem L2 SX Mi
variable {l a : List Nat} {c : Nat}
def KN : List (List Nat) := [[103, 105, 118, 101, 110, 32, 97], [112, 117, 116, 32, 48, 32, 51, 32, 49, 50, 32, 48, 32, 55], [114, 111, 111, 116, 32, 97, 32, 102, 40, 97, 41], [117, 112, 32, 102, 40, 98, 41, 32, 46], [100, 111, 119, 110, 32, 50, 32, 103, 40, 97, 44, 98, 41, 32, 97], [100, 111, 119, 110, 32, 48, 32, 97, 32, 98], [112, 117, 116, 32, 49, 32, 49, 32, 49, 32, 49, 32, 49]]
theorem kn_good : ∀ w ∈ KN, TX 20 w ∧ ∀ f ∈ spl1 32 w, f ≠ [] := by
  have : KN.all (fun w => w.all (fun c => decide (c < 128)) && (decide (w.length ≤ 20) && (spl1 32 w).all fun f => !f.isEmpty)) = true := by decide +kernel
  intro w hw
  have q := List.all_eq_true.mp this w hw
  rw [Bool.and_eq_true, Bool.and_eq_true] at q
  refine ⟨⟨fun c hc => of_decide_eq_true (List.all_eq_true.mp q.1 c hc), of_decide_eq_true q.2.1⟩, fun f hf e => ?_⟩
  have := List.all_eq_true.mp q.2.2 f hf
  rw [e] at this
  cases this
def QD : List (List Nat) := [[48, 48], [48, 49], [45, 49], [], List.replicate 60 57, List.replicate 61 57, [49] ++ List.replicate 59 48, [48] ++ List.replicate 59 49, [97], [49, 48]]
theorem qd_good : ∀ w ∈ QD, TX 61 w := by
  have : QD.all (fun w => w.all (fun c => decide (c < 128)) && decide (w.length ≤ 61)) = true := by decide +kernel
  intro w hw
  have q := List.all_eq_true.mp this w hw
  rw [Bool.and_eq_true] at q
  exact ⟨fun c hc => of_decide_eq_true (List.all_eq_true.mp q.1 c hc), of_decide_eq_true q.2⟩
theorem not_tape {s : Store} {r : Nat} {ws : List (List Nat)} (t : TapeAt s) (h : s[r]? = some (.lst (sL ws))) : r ≠ 1 := by
  rintro rfl
  obtain ⟨a, c, b, ns, q, -⟩ := t
  rw [q] at h
  have h := Option.some.inj h
  have h := Ob.lst.inj h
  cases ws with
  | nil => cases h
  | cons w ws => cases h
/-- the end of such a line -/
theorem oline_end {s0 s : Store} {F k : Nat} {fs : List (List Nat)} {w : List Nat} {x1 : Option D} (t : TapeAt s) (f : Fr [1] s0 s) (hF : s[F]? = some (.lst (sL fs))) (hF2 : 2 ≤ F) (hF3 : s0.length ≤ F) (hk : k < fs.length) (hA : AL 21 fs) (hw : TX 61 w) :
    wpS (kSeq (kSetIx (mVar 2) (mVar 3) (mVar 4))
  (kRet (mM fJoin (mRecv "str" (mC (.str " "))) (mCons (mVar 2) mNil))) [some (.ref 1), x1, some (.ref F), some (.int (k : Nat)), some (.str (S w))] s) (fun _ _ => False) (fun d s' => ∃ w, d = .str (S w) ∧ TX 200 w ∧ TapeAt s' ∧ Fr [1] s0 s') (fun _ _ _ _ => False) := by
  have hsf := set_f (d := .str (S w)) hF (k := k) (by rw [sL_len]; exact hk)
  have e : (sL fs).set k (.str (S w)) = sL (fs.set k w) := by unfold sL; rw [List.map_set]
  rw [e] at hsf
  refine s_seq (s_setIx (v := .str (S w)) (o := .ref F) (id := .int (k : Nat)) (st1 := s) (st2 := s) (st3 := s) (fun K E kk => by simp; exact kk) (fun K E kk => by simp; exact kk) (fun K E kk => by simp; exact kk) hsf ?_)
  have h2 : (s.set F (.lst (sL (fs.set k w))))[F]? = some (.lst (sL (fs.set k w))) := set_at hF
  have t2 : TapeAt (s.set F (.lst (sL (fs.set k w)))) := t.set hF2
  have f2 : Fr [1] s0 (s.set F (.lst (sL (fs.set k w)))) := f.set (.inl hF3)
  have hA2 : AL 82 (fs.set k w) := hA.set hw
  generalize s.set F (.lst (sL (fs.set k w))) = s2 at *
  obtain ⟨w2, s3, e3, x3, t3, f3⟩ := TP.join (env := [some (.ref 1), x1, some (.ref F), some (.int (k : Nat)), some (.str (S w))]) lit_18 (by decide) (LP.v (i := 2) (s := s2) rfl h2 hF2 hA2) (by decide) s2 t2 Fr.refl
  exact s_ret (v := .str (S w2)) (st' := s3) (fun K E kk => by rw [e3]; exact kk) ⟨w2, rfl, x3.mono (by decide), t3, f2.trans f3⟩
theorem odd_line_eq {s : Store} (h : TapeAt s) : ∃ (w : List Nat) (s' : Store), m_law_odd_line [.ref 1] s = .ok (.str (S w)) s' ∧ TX 200 w ∧ TapeAt s' ∧ Fr [1] s s' := by
  have key : wp (m_law_odd_line [.ref 1] s) (fun d s' => ∃ w, d = .str (S w) ∧ TX 200 w ∧ TapeAt s' ∧ Fr [1] s s') fun _ _ _ => False := by
    refine wp_def (show wpS (b_law_odd_line [some (.ref 1), none, none, none, none] s) _ _ _ from ?_)
    have two := h.two
    refine s_seq (s_set (v := .ref s.length) (st' := s ++ [.lst (sL KN)]) (fun K E k => by simp; exact k) ?_)
    have h1 : (s ++ [Ob.lst (sL KN)])[s.length]? = some (.lst (sL KN)) := app_new
    have t1 : TapeAt (s ++ [Ob.lst (sL KN)]) := h.app
    have f1 : Fr [1] s (s ++ [Ob.lst (sL KN)]) := Fr.refl.app
    have hl1 : s.length ≤ (s ++ [Ob.lst (sL KN)]).length := f1.1
    generalize hs1 : s ++ [Ob.lst (sL KN)] = s1 at *
    generalize hr1 : s.length = r1 at *
    simp only [List.set_cons_succ, List.set_cons_zero]
    obtain ⟨v, s2, e2, b2, t2, f2⟩ := drawI t1 7 (by decide) (by decide)
    have h2 := f2.get h1 (by simpa using not_tape t1 h1)
    have hv : v < KN.length := by show v < 7; omega
    have ex := ix_fs h2 (List.getElem?_eq_getElem hv)
    obtain ⟨gw, gne⟩ := kn_good _ (List.getElem_mem hv)
    generalize KN[v] = w at *
    have wl := gw.2
    have hsp := split_ok (st := s2) (c := 32) (l := w) (by decide) (by omega)
    have hAL := spl_AL (c := 32) (l := w) (by decide) gw.1
    have hne := spl1_ne 32 w
    have hcnt := spl1_cnt (c := 32) (by decide) w
    refine s_seq (s_set (v := .ref s2.length) (st' := s2 ++ [.lst (sL (spl1 32 w))]) (fun K E k => by
      simp only [wp_mM, wp_mRecv, wp_mBin, wp_mVar, wp_mCall, wp_mCons, wp_mC, wp_mNil, List.getElem?_cons_zero, List.getElem?_cons_succ, e2, wp_ok, ex, rec_s, if_true, lit_18, hsp]
      exact k) ?_)
    simp only [List.set_cons_succ, List.set_cons_zero]
    have h3 : (s2 ++ [Ob.lst (sL (spl1 32 w))])[s2.length]? = some (.lst (sL (spl1 32 w))) := app_new
    have t3 : TapeAt (s2 ++ [Ob.lst (sL (spl1 32 w))]) := t2.app
    have f3 : Fr [1] s (s2 ++ [Ob.lst (sL (spl1 32 w))]) := (f1.trans f2).app
    have hF2 := t2.two
    have hF3 : s.length ≤ s2.length := (f1.trans f2).1
    generalize s2 ++ [Ob.lst (sL (spl1 32 w))] = s3 at *
    generalize s2.length = F at *
    have hfn : 1 ≤ (spl1 32 w).length := List.length_pos_iff.mpr hne
    have hAL : AL 21 (spl1 32 w) := hAL.mono (by omega)
    generalize spl1 32 w = fs at *
    have eL := lenL h3
    rw [sL_len] at eL
    obtain ⟨k, s4, e4, b4, t4, f4⟩ := drawI t3 (fs.length : Nat) (by omega) (by omega)
    refine s_seq (s_set (v := .int (k : Nat)) (st' := s4) (fun K E kk => by
      simp only [wp_mCall, wp_mCons, wp_mFn, wp_mVar, wp_mNil, List.getElem?_cons_zero, List.getElem?_cons_succ, eL, wp_ok, e4]
      exact kk) ?_)
    simp only [List.set_cons_succ, List.set_cons_zero]
    have h4 := f4.get h3 (by simp; omega)
    obtain ⟨w5, s5, e5, x5, t5, f5⟩ := odd_eq t4
    refine s_seq (s_set (v := .str (S w5)) (st' := s5) (fun K E kk => by
      simp only [wp_mCall, wp_mCons, wp_mVar, wp_mNil, List.getElem?_cons_zero, e5, wp_ok]
      exact kk) ?_)
    simp only [List.set_cons_succ, List.set_cons_zero]
    have h5 := f5.get h4 (by simp; omega)
    obtain ⟨v6, s6, e6, b6, t6, f6⟩ := drawI t5 4 (by decide) (by decide)
    have h6 := f6.get h5 (by simp; omega)
    have hk : k < fs.length := by omega
    have ef := ix_fs h6 (List.getElem?_eq_getElem hk)
    have hfn2 := gne fs[k] (List.getElem_mem hk)
    have hfl : TX 21 fs[k] := hAL.mem (List.getElem?_eq_getElem hk)
    generalize fs[k] = f0 at *
    obtain ⟨c0, fr0, rfl⟩ := List.exists_cons_of_ne_nil hfn2
    have f06 : Fr [1] s s6 := f3.trans (f4.trans (f5.trans f6))
    refine s_seq (s_if (b := decide (0 < v6) && decide (c0 ∈ DIG)) (st' := s6) (fun K E kk => ?_) (fun hb => ?_) fun hb => s_skip ?_)
    · have d6 : decide ((0 : Int) < (v6 : Int)) = decide (0 < v6) := by
        by_cases q : 0 < v6
        · rw [decide_eq_true q, decide_eq_true (by omega)]
        · rw [decide_eq_false q, decide_eq_false (by omega)]
      have eat : atI (c0 :: fr0) 0 = some c0 := atI_k (k := 0)
      have hl := hfl.2
      simp only [wp_mAndT, wp_mB, wp_mBin, wp_mCall, wp_mCons, wp_mVar, wp_mC, wp_mNil, List.getElem?_cons_zero, List.getElem?_cons_succ, e6, wp_ok, f_gt, d6]
      by_cases q : 0 < v6
      · rw [decide_eq_true q] at kk ⊢
        rw [if_pos rfl, ef, wp_ok, f_ix_s, if_pos (by omega), eat]
        dsimp only
        rw [lit_62, f_in]
        exact kk
      · rw [decide_eq_false q] at kk ⊢
        rw [if_neg (by decide)]
        exact kk
    · have h7 : (s6 ++ [Ob.lst (sL QD)])[s6.length]? = some (.lst (sL QD)) := app_new
      have h6' : (s6 ++ [Ob.lst (sL QD)])[F]? = some (.lst (sL fs)) := app_at h6
      have t7 : TapeAt (s6 ++ [Ob.lst (sL QD)]) := t6.app
      have f7 : Fr [1] s (s6 ++ [Ob.lst (sL QD)]) := f06.app
      have el : Ev (mLst (mCons (mC (.str "00")) (mCons (mC (.str "01")) (mCons (mC (.str "-1")) (mCons (mC (.str "")) (mCons (mBin fMulA (mC (.str "9")) (mC (.int 60))) (mCons (mBin fMulA (mC (.str "9")) (mC (.int 61))) (mCons (mBin fAdd (mC (.str "1")) (mBin fMulA (mC (.str "0")) (mC (.int 59)))) (mCons (mBin fAdd (mC (.str "0")) (mBin fMulA (mC (.str "1")) (mC (.int 59)))) (mCons (mC (.str "a")) (mCons (mC (.str "10")) mNil)))))))))) [some (.ref 1), some (.ref r1), some (.ref F), some (.int (k : Nat)), some (.str (S w5))] s6) (.ref s6.length) (s6 ++ [.lst (sL QD)]) := fun K E k => by
        simp only [wp_mLst, wp_mCons, wp_mBin, wp_mC, lit_70, lit_20, lit_71, lit_21, lit_22, lit_23, lit_11, lit_72, lit_73, f_rep59, f_rep60, f_rep61, wp_ok, f_add_s, f_cat, wp_mNil, S_len, List.length_replicate, List.length_cons, List.length_nil]
        exact k
      have hq1 := not_tape t7 h7
      generalize s6 ++ [Ob.lst (sL QD)] = s7 at *
      generalize s6.length = r7 at *
      obtain ⟨v8, s8, e8, b8, t8, f8⟩ := drawI t7 10 (by decide) (by decide)
      have h8 := f8.get h7 (by simpa using hq1)
      have hv8 : v8 < QD.length := by show v8 < 10; omega
      have eq8 := ix_fs h8 (List.getElem?_eq_getElem hv8)
      have g8 := qd_good _ (List.getElem_mem hv8)
      generalize QD[v8] = w8 at *
      refine s_set (v := .str (S w8)) (st' := s8) (fun K E kk => by
        rw [wp_mBin, el.eq, wp_ok]
        simp only [wp_mVar, wp_mCall, wp_mCons, wp_mC, wp_mNil, List.getElem?_cons_zero, List.getElem?_cons_succ, e8, wp_ok, eq8]
        exact kk) ?_
      simp only [List.set_cons_succ, List.set_cons_zero]
      have := oline_end (x1 := some (.ref r1)) t8 (f7.trans f8) (f8.get h6' (by simp; omega)) hF2 (by omega) hk hAL g8
      exact wpS_mono this (fun _ _ h => h.elim) (fun _ _ h => h) (fun _ _ _ _ h => h)
    · have := oline_end (x1 := some (.ref r1)) t6 f06 h6 hF2 (by omega) hk hAL x5
      exact wpS_mono this (fun _ _ h => h.elim) (fun _ _ h => h) (fun _ _ _ _ h => h)
  obtain ⟨d, s', e, w, rfl, h3, h4, h5⟩ := wp_get key
  exact ⟨w, s', e, h3, h4, h5⟩
end K65
/-! ## Sp39 -/
set_option Elab.async false
set_option linter.all false
set_option maxRecDepth 100000
set_option maxHeartbeats 4000000
namespace K65
open PySem L2 SX Mi
variable {l a : List Nat} {c : Nat}
/-- lines bent -/
theorem lines_bent_eq {s : Store} {L B : Nat} {ls : List (List Nat)} (h : TapeAt s) (hL : s[L]? = some (.lst (sL ls))) (hL2 : 2 ≤ L) (hls : ls ≠ []) (hA : AL B ls) (hB : B ≤ 200000) :
    ∃ (ws : List (List Nat)) (r : Nat) (s' : Store), m_law_lines_bent [.ref 1, .ref L] s = .ok (.ref r) s' ∧ s'[r]? = some (.lst (sL ws)) ∧ 2 ≤ r ∧ AL (4 * B + 100) ws ∧ TapeAt s' ∧ Fr [1] s s' := by
  have key : wp (m_law_lines_bent [.ref 1, .ref L] s) (fun d s' => ∃ ws r, d = .ref r ∧ s'[r]? = some (.lst (sL ws)) ∧ 2 ≤ r ∧ AL (4 * B + 100) ws ∧ TapeAt s' ∧ Fr [1] s s') fun _ _ _ => False := by
    refine wp_def (show wpS (b_law_lines_bent [some (.ref 1), some (.ref L), none, none, none, none] s) _ _ _ from ?_)
    have hlen := hA.2
    have hlp : 1 ≤ ls.length := List.length_pos_iff.mpr hls
    obtain ⟨m, s1, e1, b1, t1, f1⟩ := drawI h 5 (by decide) (by decide)
    have hL1 := f1.get hL (by simp; omega)
    refine s_seq (s_set (v := .int (m : Nat)) (st' := s1) (fun K E k => by
      simp only [wp_mCall, wp_mCons, wp_mVar, wp_mC, wp_mNil, List.getElem?_cons_zero, e1, wp_ok]; exact k) ?_)
    have eL := lenL hL1
    rw [sL_len] at eL
    obtain ⟨p, s2, e2, b2, t2, f2⟩ := drawI t1 (ls.length : Nat) (by omega) (by omega)
    have hL2' := f2.get hL1 (by simp; omega)
    refine s_seq (s_set (v := .int (p : Nat)) (st' := s2) (fun K E k => by
      simp only [wp_mCall, wp_mCons, wp_mFn, wp_mVar, wp_mC, wp_mNil, List.set_cons_succ, List.set_cons_zero, List.getElem?_cons_zero, List.getElem?_cons_succ, eL, e2, wp_ok]; exact k) ?_)
    have hp : p < ls.length := by omega
    have hpw := List.getElem?_eq_getElem hp
    have ex := ix_fs hL2' hpw
    have hw : TX B ls[p] := hA.mem hpw
    generalize ls[p] = w at *
    have wl := hw.2
    have hsp := split_ok (st := s2) (c := 32) (l := w) (by decide) (by omega)
    have hAF : AL (B + 1) (spl1 32 w) := (spl_AL (c := 32) (l := w) (by decide) hw.1).mono (by omega)
    have hne := spl1_ne 32 w
    refine s_seq (s_set (v := .ref s2.length) (st' := s2 ++ [.lst (sL (spl1 32 w))]) (fun K E k => by
      simp only [wp_mM, wp_mRecv, wp_mBin, wp_mVar, wp_mCons, wp_mC, wp_mNil, List.set_cons_succ, List.set_cons_zero, List.getElem?_cons_zero, List.getElem?_cons_succ, wp_ok, ex, rec_s, if_true, lit_18, hsp]
      exact k) ?_)
    have h3 : (s2 ++ [Ob.lst (sL (spl1 32 w))])[s2.length]? = some (.lst (sL (spl1 32 w))) := app_new
    have hL3 : (s2 ++ [Ob.lst (sL (spl1 32 w))])[L]? = some (.lst (sL ls)) := app_at hL2'
    have t3 : TapeAt (s2 ++ [Ob.lst (sL (spl1 32 w))]) := t2.app
    have f3 : Fr [1] s (s2 ++ [Ob.lst (sL (spl1 32 w))]) := (f1.trans f2).app
    have hF2 := t2.two
    have hF3 : s.length ≤ s2.length := (f1.trans f2).1
    have hLl := (List.getElem?_eq_some_iff.mp hL).1
    generalize s2 ++ [Ob.lst (sL (spl1 32 w))] = s3 at *
    generalize s2.length = F at *
    have hfn : 1 ≤ (spl1 32 w).length := List.length_pos_iff.mpr hne
    generalize spl1 32 w = fs at *
    have eLf := lenL h3
    rw [sL_len] at eLf
    have hfl := hAF.2
    obtain ⟨q, s4, e4, b4, t4, f4⟩ := drawI t3 (fs.length : Nat) (by omega) (by omega)
    refine s_seq (s_set (v := .int (q : Nat)) (st' := s4) (fun K E kk => by
      simp only [wp_mCall, wp_mCons, wp_mFn, wp_mVar, wp_mNil, List.set_cons_succ, List.set_cons_zero, List.getElem?_cons_zero, List.getElem?_cons_succ, eLf, wp_ok, e4]
      exact kk) ?_)
    simp only [List.set_cons_succ, List.set_cons_zero]
    have h4 := f4.get h3 (by simp; omega)
    have hL4 := f4.get hL3 (by simp; omega)
    have f04 : Fr [1] s s4 := f3.trans f4
    have hq : q < fs.length := by omega
    -- what stands in the slots
    have vL : LP (mVar 1) [some (.ref 1), some (.ref L), some (.int (m : Nat)), some (.int (p : Nat)), some (.ref F), some (.int (q : Nat))] s4 B := LP.v rfl hL4 hL2 hA
    have vF : LP (mVar 4) [some (.ref 1), some (.ref L), some (.int (m : Nat)), some (.int (p : Nat)), some (.ref F), some (.int (q : Nat))] s4 (B + 1) := LP.v rfl h4 hF2 hAF
    have ip : IP (mVar 3) [some (.ref 1), some (.ref L), some (.int (m : Nat)), some (.int (p : Nat)), some (.ref F), some (.int (q : Nat))] p := IP.v rfl
    have ip1 : IP (mBin fAdd (mVar 3) (mC (.int 1))) [some (.ref 1), some (.ref L), some (.int (m : Nat)), some (.int (p : Nat)), some (.ref F), some (.int (q : Nat))] (p + 1) := IP.v1 rfl
    have iq : IP (mVar 5) [some (.ref 1), some (.ref L), some (.int (m : Nat)), some (.int (p : Nat)), some (.ref F), some (.int (q : Nat))] q := IP.v rfl
    have iq1 : IP (mBin fAdd (mVar 5) (mC (.int 1))) [some (.ref 1), some (.ref L), some (.int (m : Nat)), some (.int (p : Nat)), some (.ref F), some (.int (q : Nat))] (q + 1) := IP.v1 rfl
    have ret : ∀ {me : ME} {env : Mi.Env} {s5 : Store} {N : Mi.Env → Store → Prop} {C : Nat}, LP me env s5 C → C ≤ 4 * B + 100 → TapeAt s5 → Fr [1] s s5 → wpS (kRet me env s5) N (fun d s' => ∃ ws r, d = .ref r ∧ s'[r]? = some (.lst (sL ws)) ∧ 2 ≤ r ∧ AL (4 * B + 100) ws ∧ TapeAt s' ∧ Fr [1] s s') (fun _ _ _ _ => False) := by
      intro me env s5 N C hme hC t5 f5
      obtain ⟨ws, r, s6, e6, q6, n6, x6, t6, f6⟩ := hme s5 t5 Fr.refl
      exact s_ret (v := .ref r) (st' := s6) (fun K E kk => by rw [e6]; exact kk) ⟨ws, r, rfl, q6, n6, x6.mono hC, t6, f5.trans f6⟩
    have tst : ∀ (j : Nat), Ev (mB (mBin fEq (mVar 2) (mC (.int (j : Nat)))) [some (.ref 1), some (.ref L), some (.int (m : Nat)), some (.int (p : Nat)), some (.ref F), some (.int (q : Nat))] s4) (decide (m = j)) s4 := fun j K E kk => by
      have d : decide ((m : Int) = (j : Int)) = decide (m = j) := by
        by_cases z : m = j
        · rw [decide_eq_true z, decide_eq_true (by omega)]
        · rw [decide_eq_false z, decide_eq_false (by omega)]
      simp only [wp_mB, wp_mBin, wp_mVar, wp_mC, List.getElem?_cons_zero, List.getElem?_cons_succ, f_eq_i, wp_ok, d]
      exact kk
    refine s_seq (s_if (tst 0) (fun _ => ?_) fun _ => s_skip ?_)
    · exact ret ((vL.to ip).add (vL.fr ip1) (by omega)) (by omega) t4 f04
    refine s_seq (s_if (tst 1) (fun _ => ?_) fun _ => s_skip ?_)
    · exact ret (vL.add (LP.one (TP.ix (i := 1) rfl hL4 hL2 ip hpw hw)) (by omega)) (by omega) t4 f04
    refine s_seq (s_if (tst 2) (fun _ => ?_) fun _ => s_skip ?_)
    · exact ret (((LP.one (TP.join lit_18 (by decide) ((vF.to iq).add (vF.fr iq1) (by omega)) (by omega))).add (vL.to ip) (by omega)).add (vL.fr ip1) (by omega)) (by omega) t4 f04
    have fin : ∀ {F5 : Nat} {s5 : Store} {fs5 : List (List Nat)}, s5[F5]? = some (.lst (sL fs5)) → 2 ≤ F5 → AL (2 * B + 64) fs5 → TapeAt s5 → Fr [1] s s5 → s5[L]? = some (.lst (sL ls)) → wpS (kRet (mBin fAdd (mBin fAdd (mSl (mVar 1) mON (mOS (mVar 3))) (mLst (mCons (mM fJoin (mRecv "str" (mC (.str " "))) (mCons (mVar 4) mNil)) mNil))) (mSl (mVar 1) (mOS (mBin fAdd (mVar 3) (mC (.int 1)))) mON)) [some (.ref 1), some (.ref L), some (.int (m : Nat)), some (.int (p : Nat)), some (.ref F5), some (.int (q : Nat))] s5) (fun _ _ => False) (fun d s' => ∃ ws r, d = .ref r ∧ s'[r]? = some (.lst (sL ws)) ∧ 2 ≤ r ∧ AL (4 * B + 100) ws ∧ TapeAt s' ∧ Fr [1] s s') (fun _ _ _ _ => False) := by
      intro F5 s5 fs5 h5 h52 hA5 t5 f5 hL5
      have vL5 : LP (mVar 1) [some (.ref 1), some (.ref L), some (.int (m : Nat)), some (.int (p : Nat)), some (.ref F5), some (.int (q : Nat))] s5 B := LP.v rfl hL5 hL2 hA
      have vF5 : LP (mVar 4) [some (.ref 1), some (.ref L), some (.int (m : Nat)), some (.int (p : Nat)), some (.ref F5), some (.int (q : Nat))] s5 (2 * B + 64) := LP.v rfl h5 h52 hA5
      exact ret (((vL5.to (IP.v rfl)).add (LP.one (TP.join lit_18 (by decide) vF5 (by omega))) (by omega)).add (vL5.fr (IP.v1 rfl)) (by omega)) (by omega) t5 f5
    refine s_seq (s_if (tst 3) (fun _ => ?_) fun _ => ?_)
    · obtain ⟨ws, r, s5, e5, q5, n5, x5, t5, f5⟩ := (((vF.to iq).add (LP.one (TP.odd rfl)) (by omega)).add (vF.fr iq) (by omega)) s4 t4 Fr.refl
      refine s_set (v := .ref r) (st' := s5) (fun K E kk => by rw [e5]; exact kk) ?_
      simp only [List.set_cons_succ, List.set_cons_zero]
      exact wpS_mono (fin q5 n5 (x5.mono (by omega)) t5 (f04.trans f5) (f5.get hL4 (by simp; omega))) (fun _ _ h => h.elim) (fun _ _ h => h) (fun _ _ _ _ h => h)
    · obtain ⟨w5, s5, e5, x5, t5, f5⟩ := odd_eq t4
      have h5 := f5.get h4 (by simp; omega)
      have hsf := set_f (d := .str (S w5)) h5 (k := q) (by rw [sL_len]; exact hq)
      have e : (sL fs).set q (.str (S w5)) = sL (fs.set q w5) := by unfold sL; rw [List.map_set]
      rw [e] at hsf
      refine s_setIx (v := .str (S w5)) (o := .ref F) (id := .int (q : Nat)) (st1 := s5) (st2 := s5) (st3 := s5) (fun K E kk => ?_) (fun K E kk => by simp; exact kk) (fun K E kk => by simp; exact kk) hsf ?_
      · simp only [wp_mCall, wp_mCons, wp_mVar, wp_mNil, List.getElem?_cons_zero, e5, wp_ok]; exact kk
      exact wpS_mono (fin (set_at h5) hF2 ((hAF.set x5).mono (by omega)) (t5.set hF2) ((f04.trans f5).set (.inl (by omega))) (by
        rw [set_no (by omega)]
        exact f5.get hL4 (by simp; omega))) (fun _ _ h => h.elim) (fun _ _ h => h) (fun _ _ _ _ h => h)
  obtain ⟨d, s', e, ws, r, rfl, h3, h4, h5, h6, h7⟩ := wp_get key
  exact ⟨ws, r, s', e, h3, h4, h5, h6, h7⟩
end K65
/-! ## Sp40 -/
set_option Elab.async false
set_option linter.all false
set_option maxRecDepth 100000
set_option maxHeartbeats 4000000
namespace K65
open PySem L2 SX Mi
variable {l a : List Nat} {c : Nat}
theorem lit_nl2 : Str.ofString "\n\n" = S [10, 10] := lit_74
/-- a text bent -/
theorem bent_eq {s : Store} {B : Nat} {w : List Nat} (h : TapeAt s) (hw : TX B w) (hB : B ≤ 150000) :
    ∃ (w' : List Nat) (s' : Store), m_law_bent [.ref 1, .str (S w)] s = .ok (.str (S w')) s' ∧ TX (4 * B + 200) w' ∧ TapeAt s' ∧ Fr [1] s s' := by
  have key : wp (m_law_bent [.ref 1, .str (S w)] s) (fun d s' => ∃ w', d = .str (S w') ∧ TX (4 * B + 200) w' ∧ TapeAt s' ∧ Fr [1] s s') fun _ _ _ => False := by
    refine wp_def (show wpS (b_law_bent [some (.ref 1), some (.str (S w)), none, none] s) _ _ _ from ?_)
    have wl := hw.2
    obtain ⟨m, s1, e1, b1, t1, f1⟩ := drawI h 8 (by decide) (by decide)
    refine s_seq (s_set (v := .int (m : Nat)) (st' := s1) (fun K E k => by
      simp only [wp_mCall, wp_mCons, wp_mVar, wp_mC, wp_mNil, List.getElem?_cons_zero, e1, wp_ok]; exact k) ?_)
    obtain ⟨p, s2, e2, b2, t2, f2⟩ := drawI t1 ((w.length : Nat) + 1) (by omega) (by omega)
    refine s_seq (s_set (v := .int (p : Nat)) (st' := s2) (fun K E k => by
      simp only [wp_mCall, wp_mCons, wp_mFn, wp_mBin, wp_mVar, wp_mC, wp_mNil, List.set_cons_succ, List.set_cons_zero, List.getElem?_cons_zero, List.getElem?_cons_succ, f_len_s, if_pos (show w.length ≤ 1000000 by omega), f_add_i, e2, wp_ok]; exact k) ?_)
    simp only [List.set_cons_succ, List.set_cons_zero]
    have f02 : Fr [1] s s2 := f1.trans f2
    have vT : TP (mVar 1) [some (.ref 1), some (.str (S w)), some (.int (m : Nat)), some (.int (p : Nat))] s2 B := TP.v rfl hw
    have ip : IP (mVar 3) [some (.ref 1), some (.str (S w)), some (.int (m : Nat)), some (.int (p : Nat))] p := IP.v rfl
    have ip1 : IP (mBin fAdd (mVar 3) (mC (.int 1))) [some (.ref 1), some (.str (S w)), some (.int (m : Nat)), some (.int (p : Nat))] (p + 1) := IP.v1 rfl
    have ret : ∀ {me : ME} {env : Mi.Env} {N : Mi.Env → Store → Prop} {C : Nat}, TP me env s2 C → C ≤ 4 * B + 200 → wpS (kRet me env s2) N (fun d s' => ∃ w', d = .str (S w') ∧ TX (4 * B + 200) w' ∧ TapeAt s' ∧ Fr [1] s s') (fun _ _ _ _ => False) := by
      intro me env N C hme hC
      obtain ⟨w6, s6, e6, x6, t6, f6⟩ := hme s2 t2 Fr.refl
      exact s_ret (v := .str (S w6)) (st' := s6) (fun K E kk => by rw [e6]; exact kk) ⟨w6, rfl, x6.mono hC, t6, f02.trans f6⟩
    have tst : ∀ (j : Nat), Ev (mB (mBin fEq (mVar 2) (mC (.int (j : Nat)))) [some (.ref 1), some (.str (S w)), some (.int (m : Nat)), some (.int (p : Nat))] s2) (decide (m = j)) s2 := fun j K E kk => by
      have d : decide ((m : Int) = (j : Int)) = decide (m = j) := by
        by_cases z : m = j
        · rw [decide_eq_true z, decide_eq_true (by omega)]
        · rw [decide_eq_false z, decide_eq_false (by omega)]
      simp only [wp_mB, wp_mBin, wp_mVar, wp_mC, List.getElem?_cons_zero, List.getElem?_cons_succ, f_eq_i, wp_ok, d]
      exact kk
    refine s_seq (s_if (tst 0) (fun _ => ?_) fun _ => s_skip ?_)
    · exact ret (((vT.to ip (by omega)).add (TP.sign rfl) (by omega)).add (vT.fr ip (by omega)) (by omega)) (by omega)
    refine s_seq (s_if (tst 1) (fun _ => ?_) fun _ => s_skip ?_)
    · exact ret ((vT.to ip (by omega)).add (vT.fr ip1 (by omega)) (by omega)) (by omega)
    refine s_seq (s_if (tst 2) (fun _ => ?_) fun _ => s_skip ?_)
    · exact ret (vT.to ip (by omega)) (by omega)
    refine s_seq (s_if (tst 3) (fun _ => ?_) fun _ => s_skip ?_)
    · have el : Ev (mLst (mCons (mBin fAdd (mVar 1) (mC (.str "\n"))) (mCons (mBin fAdd (mVar 1) (mC (.str " "))) (mCons (mBin fAdd (mC (.str " ")) (mVar 1)) (mCons (mBin fAdd (mC (.str "\n")) (mVar 1)) (mCons (mBin fAdd (mVar 1) (mC (.str "\n\n"))) (mCons (mBin fAdd (mVar 1) (mC (.str "\nput 0 0 0 0 0"))) mNil)))))) [some (.ref 1), some (.str (S w)), some (.int (m : Nat)), some (.int (p : Nat))] s2) (.ref s2.length) (s2 ++ [.lst (sL [w ++ [10], w ++ [32], [32] ++ w, [10] ++ w, w ++ [10, 10], w ++ [10, 112, 117, 116, 32, 48, 32, 48, 32, 48, 32, 48, 32, 48]])]) := fun K E k => by
        simp only [wp_mLst, wp_mCons, wp_mBin, wp_mVar, wp_mC, lit_13, lit_18, lit_74, lit_75, List.getElem?_cons_zero, List.getElem?_cons_succ, wp_ok, f_add_s, f_cat, wp_mNil, S_len, List.length_cons, List.length_nil]
        rw [if_pos (by omega), if_pos (by omega), if_pos (by omega), if_pos (by omega), if_pos (by omega), if_pos (by omega), if_pos (by decide)]
        exact k
      have h7 : (s2 ++ [Ob.lst (sL [w ++ [10], w ++ [32], [32] ++ w, [10] ++ w, w ++ [10, 10], w ++ [10, 112, 117, 116, 32, 48, 32, 48, 32, 48, 32, 48, 32, 48]])])[s2.length]? = some (.lst (sL [w ++ [10], w ++ [32], [32] ++ w, [10] ++ w, w ++ [10, 10], w ++ [10, 112, 117, 116, 32, 48, 32, 48, 32, 48, 32, 48, 32, 48]])) := app_new
      have t7 : TapeAt (s2 ++ [Ob.lst (sL [w ++ [10], w ++ [32], [32] ++ w, [10] ++ w, w ++ [10, 10], w ++ [10, 112, 117, 116, 32, 48, 32, 48, 32, 48, 32, 48, 32, 48]])]) := t2.app
      have f7 : Fr [1] s (s2 ++ [Ob.lst (sL [w ++ [10], w ++ [32], [32] ++ w, [10] ++ w, w ++ [10, 10], w ++ [10, 112, 117, 116, 32, 48, 32, 48, 32, 48, 32, 48, 32, 48]])]) := f02.app
      have hg : ∀ v ∈ [w ++ [10], w ++ [32], [32] ++ w, [10] ++ w, w ++ [10, 10], w ++ [10, 112, 117, 116, 32, 48, 32, 48, 32, 48, 32, 48, 32, 48]], TX (B + 14) v := by
        have two : ∀ z : List Nat, Asc z → z.length ≤ 14 → TX (B + 14) (w ++ z) ∧ TX (B + 14) (z ++ w) := fun z hz hz2 => ⟨⟨asc_app hw.1 hz, by rw [List.length_append]; omega⟩, ⟨asc_app hz hw.1, by rw [List.length_append]; omega⟩⟩
        intro v hv
        simp only [List.mem_cons, List.not_mem_nil, or_false] at hv
        rcases hv with rfl | rfl | rfl | rfl | rfl | rfl
        · exact (two [10] (asc_one (by decide)) (by decide)).1
        · exact (two [32] (asc_one (by decide)) (by decide)).1
        · exact (two [32] (asc_one (by decide)) (by decide)).2
        · exact (two [10] (asc_one (by decide)) (by decide)).2
        · exact (two [10, 10] (by unfold Asc; decide) (by decide)).1
        · exact (two _ (by unfold Asc; decide) (by decide)).1
      have hln : [w ++ [10], w ++ [32], [32] ++ w, [10] ++ w, w ++ [10, 10], w ++ [10, 112, 117, 116, 32, 48, 32, 48, 32, 48, 32, 48, 32, 48]].length = 6 := rfl
      have hq1 := not_tape t7 h7
      generalize [w ++ [10], w ++ [32], [32] ++ w, [10] ++ w, w ++ [10, 10], w ++ [10, 112, 117, 116, 32, 48, 32, 48, 32, 48, 32, 48, 32, 48]] = vs at *
      generalize s2 ++ [Ob.lst (sL vs)] = s7 at *
      generalize s2.length = r7 at *
      obtain ⟨v8, s8, e8, b8, t8, f8⟩ := drawI t7 6 (by decide) (by decide)
      have h8 := f8.get h7 (by simpa using hq1)
      have hv8 : v8 < vs.length := by omega
      have eq8 := ix_fs h8 (List.getElem?_eq_getElem hv8)
      have g8 := hg _ (List.getElem_mem hv8)
      generalize vs[v8] = w8 at *
      exact s_ret (v := .str (S w8)) (st' := s8) (fun K E kk => by
        rw [wp_mBin, el.eq, wp_ok]
        simp only [wp_mVar, wp_mCall, wp_mCons, wp_mC, wp_mNil, List.getElem?_cons_zero, List.getElem?_cons_succ, e8, wp_ok, eq8]
        exact kk) ⟨w8, rfl, g8.mono (by omega), t8, f7.trans f8⟩
    refine s_seq (s_if (tst 4) (fun _ => ?_) fun _ => s_skip ?_)
    · exact ret (((vT.to ip (by omega)).add (TP.sign rfl) (by omega)).add (vT.fr ip1 (by omega)) (by omega)) (by omega)
    refine ret (TP.join (B := 4 * (B + 1) + 100) lit_13 (by decide) (fun s0 t f => ?_) (by omega)) (by omega)
    have hsp := split_ok (st := s0) (c := 10) (l := w) (by decide) (by omega)
    have hAL := (spl_AL (c := 10) (l := w) (by decide) hw.1).mono (show w.length + 1 ≤ B + 1 by omega)
    have hne := spl1_ne 10 w
    obtain ⟨ws, r, s9, e9, q9, n9, x9, t9, f9⟩ := lines_bent_eq (s := s0 ++ [.lst (sL (spl1 10 w))]) (L := s0.length) t.app app_new t.two hne hAL (by omega)
    refine ⟨ws, r, s9, Ev.eq fun K E kk => ?_, q9, n9, x9, t9, Fr.trans Fr.refl.app f9⟩
    simp only [wp_mCall, wp_mCons, wp_mM, wp_mRecv, wp_mVar, wp_mC, wp_mNil, List.getElem?_cons_zero, List.getElem?_cons_succ, rec_s, if_true, lit_13, hsp, wp_ok, e9]
    exact kk
  obtain ⟨d, s', e, w', rfl, h3, h4, h5⟩ := wp_get key
  exact ⟨w', s', e, h3, h4, h5⟩
end K65
/-! ## Sp41 -/
set_option Elab.async false
set_option linter.all false
set_option maxRecDepth 100000
set_option maxHeartbeats 4000000
namespace K65
open PySem L2 SX Mi
variable {l a : List Nat} {c : Nat}
/-! ### what is no text -/
def noText (st : Store) (d : D) : Prop := ∃ U, tyD st d = some U ∧ kitB U "str" = some false
def eNU : Fs := [(Str.ofString "at", .int (-1)), (Str.ofString "word", .str (S [116, 101, 120, 116]))]
def refD : D := .tup [.str (S [114, 101, 102, 117, 115, 101, 100]), .str (S [116, 101, 120, 116]), .int (-1)]
theorem isi_no {st : Store} {d : D} (h : noText st d) : fIsi [d, .ty "str"] st = .ok (.bl false) st := by
  obtain ⟨U, h1, h2⟩ := h
  unfold fIsi
  simp only [h1, h2]
theorem read_bad {chain : Bool} {d : D} {st : Store} (h : noText st d) : (if chain = true then m_read_chain else m_read_joins) [d] st = .ex "NotUsable" eNU st := by
  have fin : ∀ {o : Out D}, wp o (fun _ _ => False) (fun c fs s => c = "NotUsable" ∧ fs = eNU ∧ s = st) → o = .ex "NotUsable" eNU st := by
    intro o h
    cases o with
    | no => exact h.elim
    | ok _ _ => exact h.elim
    | ex c fs s => obtain ⟨rfl, rfl, rfl⟩ := h; rfl
  cases chain
  · refine fin (show wp (m_read_joins [d] st) _ _ from wp_def (show wpS (b_read_joins [some d, none, none, none] st) _ _ _ from ?_))
    refine s_seq (s_if (b := true) (st' := st) (fun K E k => ?_) (fun _ => ?_) (fun h => by cases h))
    · simp only [wp_mNotT, wp_mTru, wp_mFn, wp_mCons, wp_mVar, wp_mC, wp_mNil, List.getElem?_cons_zero, isi_no h, wp_ok, tru_b, wp_tru]
      exact k
    · exact s_raise (d1 := .str (S [116, 101, 120, 116])) (d2 := .int (-1)) (st' := st) (fun K E k => by simp only [wp_mCons, wp_mC, wp_mNeg, wp_mNil, lit_41]; exact k) ⟨rfl, rfl, rfl⟩
  · refine fin (show wp (m_read_chain [d] st) _ _ from wp_def (show wpS (b_read_chain [some d, none, none, none] st) _ _ _ from ?_))
    refine s_seq (s_if (b := true) (st' := st) (fun K E k => ?_) (fun _ => ?_) (fun h => by cases h))
    · simp only [wp_mNotT, wp_mTru, wp_mFn, wp_mCons, wp_mVar, wp_mC, wp_mNil, List.getElem?_cons_zero, isi_no h, wp_ok, tru_b, wp_tru]
      exact k
    · exact s_raise (d1 := .str (S [116, 101, 120, 116])) (d2 := .int (-1)) (st' := st) (fun K E k => by simp only [wp_mCons, wp_mC, wp_mNeg, wp_mNil, lit_41]; exact k) ⟨rfl, rfl, rfl⟩
theorem told_bad {chain : Bool} {d : D} {st : Store} (h : noText st d) : m_law_told [d, .bl chain] st = .ok refD st := by
  refine wp_ok_eq (wp_def (show wpS (b_law_told [some d, some (.bl chain), none] st) _ _ _ from ?_))
  have hand : (Str.ofString "NotUsable" ∈ errs) ∧ wpS (kHand [("InvalidText", some 2, fun fs => (kRet (mTup (mCons (mC (.str "fault")) (mCons (mXf fs "line") (mCons (mXf fs "at") mNil)))))), ("NotUsable", some 2, fun fs => (kRet (mTup (mCons (mC (.str "refused")) (mCons (mXf fs "word") (mCons (mXf fs "at") mNil))))))] "NotUsable" eNU [some d, some (.bl chain), none] st)
        (fun _ s' => D.non = refD ∧ s' = st) (fun d s => d = refD ∧ s = st) (fun _ _ _ _ => False) := by
    refine ⟨by decide +kernel, ?_⟩
    unfold kHand
    rw [if_neg (by decide +kernel)]
    unfold kHand
    rw [if_pos rfl, if_pos (show okN (some 2) [some d, some (.bl chain), none] = true from rfl)]
    have e1 : eNU.lookup (Str.ofString "word") = some (D.str (S [116, 101, 120, 116])) := by
      unfold eNU
      rw [List.lookup_cons, show ((Str.ofString "word") == (Str.ofString "at")) = false from by decide +kernel]
      rw [List.lookup_cons, show ((Str.ofString "word") == (Str.ofString "word")) = true from by decide +kernel]
    have e2 : eNU.lookup (Str.ofString "at") = some (D.int (-1)) := by
      unfold eNU
      rw [List.lookup_cons, show ((Str.ofString "at") == (Str.ofString "at")) = true from by decide +kernel]
    have e3 : (kRet (mTup (mCons (mC (.str "refused")) (mCons (mXf eNU "word") (mCons (mXf eNU "at") mNil)))) (setN (some 2) [some d, some (.bl chain), none]) st) = .rt refD st := by
      unfold kRet
      have : mTup (mCons (mC (.str "refused")) (mCons (mXf eNU "word") (mCons (mXf eNU "at") mNil))) (setN (some 2) [some d, some (.bl chain), none]) st = .ok refD st := by
        refine Ev.eq fun K E kk => ?_
        simp only [wp_mTup, wp_mCons, wp_mC, wp_mXf, e1, e2, wp_mNil, lit_63, List.length_cons, List.length_nil]
        rw [if_pos (by decide)]
        exact kk
      rw [this]; rfl
    dsimp only
    rw [e3]
    exact ⟨rfl, rfl⟩
  refine s_try ?_
  have hr := read_bad (chain := chain) h
  refine s_seq (s_if (b := chain) (st' := st) (fun K E k => by simp; exact k) (fun hb => ?_) fun hb => s_skip ?_)
  · subst hb
    have hr : m_read_chain [d] st = .ex "NotUsable" eNU st := hr
    refine w_ret ?_
    simp only [wp_mTup, wp_mCons, wp_mC, wp_mNil, lit_19, wp_mCall, wp_mVar, List.getElem?_cons_zero, List.length_cons, List.length_nil]
    rw [hr, wp_ex]
    exact ⟨hand.1, wpS_mono hand.2 (fun _ _ h => h) (fun _ _ h => h) (fun _ _ _ _ h => h)⟩
  · subst hb
    have hr : m_read_joins [d] st = .ex "NotUsable" eNU st := hr
    refine w_ret ?_
    simp only [wp_mTup, wp_mCons, wp_mC, wp_mNil, lit_19, wp_mCall, wp_mVar, List.getElem?_cons_zero, List.length_cons, List.length_nil]
    rw [hr, wp_ex]
    exact ⟨hand.1, wpS_mono hand.2 (fun _ _ h => h) (fun _ _ h => h) (fun _ _ _ _ h => h)⟩
theorem pure_ref : pureD 5 refD := by
  unfold refD pureD
  refine ⟨by decide, fun d hd => ?_⟩
  simp only [List.mem_cons, List.not_mem_nil, or_false] at hd
  rcases hd with rfl | rfl | rfl <;> (unfold pureD; trivial)
end K65
/-! ## Sp42 -/
set_option Elab.async false
set_option linter.all false
set_option maxRecDepth 100000
set_option maxHeartbeats 4000000
namespace K65
open PySem L2 SX Mi
variable {l a : List Nat} {c : Nat}
/-! ### parts of the law's def -/
theorem tape_eq (ns : List Int) : ∃ s, m_law_tape [.fl (ns.map D.int)] [] = .ok (.ref 1) s ∧ TapeAt s := by
  refine ⟨[.lst (zL ns), .lst [.int 0, .int 0, .int 40487, .ref 0]], ?_, ⟨0, 40487, 0, ns, rfl, rfl⟩⟩
  refine wp_ok_eq (wp_def (show wpS (b_law_tape [some (.fl (ns.map D.int))] []) _ _ _ from ?_))
  have el : fList [.fl (ns.map D.int)] [] = .ok (.ref 0) [.lst (zL ns)] := rfl
  refine s_ret (v := .ref 1) (st' := [.lst (zL ns), .lst [.int 0, .int 0, .int 40487, .ref 0]]) (fun K E k => ?_) ⟨rfl, rfl⟩
  simp only [wp_mLst, wp_mCons, wp_mC, wp_mFn, wp_mVar, wp_mNil, List.getElem?_cons_zero, el, wp_ok]
  rw [if_pos (by simp)]
  exact k
/-- sizes by draw -/
theorem lc_sizes {s s1 : Store} {env : Mi.Env} {r : MA} {n : Nat} (t1 : TapeAt s1) (hr : r env s = .ok [.int (n : Nat)] s1) (hn : n ≤ 5) (h1 : env[1]? = some (some (.ref 1))) (h11 : 11 < env.length) :
    ∃ (sz : List Nat) (s' : Store), mLc (iRng1 r) [11] (gN 11) mYes (mBin fAdd (mC (.int 1)) (mCall m_law_draw (mCons (mVar 1) (mCons (mC (.int 12)) mNil)))) env s = .ok (.ref s1.length) s' ∧ s'[s1.length]? = some (.lst (nL sz)) ∧ sz.length = n ∧ (∀ x ∈ sz, 1 ≤ x ∧ x ≤ 60) ∧ TapeAt s' ∧ Fr [1] s1 s' := by
  have h2 := t1.two
  obtain ⟨acc, s2, e2, ⟨sz, q2, q5, q6⟩, q3, q4, q7⟩ := c_lc (env := env) (st := s) (st' := s1) (mi := iRng1 r) (src := sItems (rng 0 n)) (own := [11]) (g := gN 11) (t := mYes) (m := mBin fAdd (mC (.int 1)) (mCall m_law_draw (mCons (mVar 1) (mCons (mC (.int 12)) mNil))))
    (rng 0 n) (fun j acc s' => (∃ sz : List Nat, acc = nL sz ∧ sz.length = j ∧ ∀ x ∈ sz, 1 ≤ x ∧ x ≤ 60) ∧ s'[s1.length]? = some (.lst acc) ∧ TapeAt s' ∧ Fr [1] s1 s') (ev_rng1' (n := n) hr (by omega)) rfl
    ⟨⟨[], rfl, rfl, (fun _ h => nomatch h)⟩, app_new, t1.app, Fr.refl.app⟩ (fun _ _ _ _ => rfl) (fun _ _ _ h => h.2.1) (fun j x acc s' hd h => by
      obtain ⟨⟨sz, rfl, hl, hg⟩, hs, tp, fr⟩ := h
      obtain ⟨hj, rfl⟩ := rng_get hd
      obtain ⟨v, s3, e, hv, t3, f3⟩ := drawI tp 12 (by decide) (by decide)
      have e0 : ((wipeE env [11]).set 11 (some (.int (0 + (j : Int)))))[1]? = some (some (.ref 1)) := by
        rw [List.getElem?_set_ne (by decide)]
        simp only [wipeE]
        rw [List.getElem?_set_ne (by decide)]
        exact h1
      refine ⟨_, true, s', rfl, rfl, (fun h => by cases h), fun _ => ⟨.int ((1 + v : Nat) : Int), s3, Ev.eq fun K E k => ?_, f3.get hs (by simp; omega), by simp; omega, ⟨sz ++ [1 + v], nL_app, by simp [hl], fun x hx => ?_⟩, set_at (f3.get hs (by simp; omega)), t3.set (by omega), (fr.trans f3).set (.inl (Nat.le_refl _))⟩⟩
      · simp only [wp_mBin, wp_mC, wp_mCall, wp_mCons, wp_mVar, wp_mNil, e0, e, wp_ok, f_add_i]
        simpa using k
      · rcases List.mem_append.mp hx with hx | hx
        · exact hg x hx
        · simp at hx; subst hx; omega)
  subst q2
  rw [rng_len] at q5
  exact ⟨sz, s2, e2, q3, q5, q6, q4, q7⟩
theorem szs_at (v : Nat) (h : v < 6) : ∃ n : Nat, ([2, 3, 1, 4, 5, 0] : List Nat)[v]? = some n ∧ n ≤ 5 := by
  match v, h with
  | 0, _ => exact ⟨2, rfl, by decide⟩
  | 1, _ => exact ⟨3, rfl, by decide⟩
  | 2, _ => exact ⟨1, rfl, by decide⟩
  | 3, _ => exact ⟨4, rfl, by decide⟩
  | 4, _ => exact ⟨5, rfl, by decide⟩
  | 5, _ => exact ⟨0, rfl, by decide⟩
  | v + 6, h => exact absurd h (by omega)
theorem nL_get {ns : List Nat} {i : Nat} : (nL ns)[i]? = ns[i]?.map fun n => D.int (n : Nat) := List.getElem?_map ..
/-- odd lines by draw -/
theorem lc_odds {s : Store} {env : Mi.Env} (t : TapeAt s) (h1 : env[1]? = some (some (.ref 1))) (h11 : 11 < env.length) :
    ∃ (ws : List (List Nat)) (s' : Store), mLc (iRng1 (mCons (mC (.int 6)) mNil)) [11] (gN 11) mYes (mCall m_law_odd_line (mCons (mVar 1) mNil)) env s = .ok (.ref s.length) s' ∧ s'[s.length]? = some (.lst (sL ws)) ∧ AL 1206 ws ∧ TapeAt s' ∧ Fr [1] s s' := by
  have h2 := t.two
  obtain ⟨acc, s2, e2, ⟨ws, q2, q5, q6⟩, q3, q4, q7⟩ := c_lc (env := env) (st := s) (st' := s) (mi := iRng1 (mCons (mC (.int 6)) mNil)) (src := sItems (rng 0 6)) (own := [11]) (g := gN 11) (t := mYes) (m := mCall m_law_odd_line (mCons (mVar 1) mNil))
    (rng 0 6) (fun j acc s' => (∃ ws : List (List Nat), acc = sL ws ∧ ws.length = j ∧ AL (201 * j) ws) ∧ s'[s.length]? = some (.lst acc) ∧ TapeAt s' ∧ Fr [1] s s') (ev_rng1 (n := 6) rfl (by decide)) rfl
    ⟨⟨[], rfl, rfl, ⟨(fun _ h => nomatch h), Nat.le_refl _⟩⟩, app_new, t.app, Fr.refl.app⟩ (fun _ _ _ _ => rfl) (fun _ _ _ h => h.2.1) (fun j x acc s' hd h => by
      obtain ⟨⟨ws, rfl, hl, hg⟩, hs, tp, fr⟩ := h
      obtain ⟨hj, rfl⟩ := rng_get hd
      obtain ⟨w, s3, e, hw, t3, f3⟩ := odd_line_eq tp
      have e0 : ((wipeE env [11]).set 11 (some (.int (0 + (j : Int)))))[1]? = some (some (.ref 1)) := by
        rw [List.getElem?_set_ne (by decide)]
        simp only [wipeE]
        rw [List.getElem?_set_ne (by decide)]
        exact h1
      refine ⟨_, true, s', rfl, rfl, (fun h => by cases h), fun _ => ⟨.str (S w), s3, Ev.eq fun K E k => ?_, f3.get hs (by simp; omega), by simp; omega, ⟨ws ++ [w], by rw [sL_app]; rfl, by simp [hl], (hg.app (AL.one hw)).mono (by omega)⟩, set_at (f3.get hs (by simp; omega)), t3.set (by omega), (fr.trans f3).set (.inl (Nat.le_refl _))⟩⟩
      simp only [wp_mCall, wp_mCons, wp_mVar, wp_mNil, e0, e, wp_ok]
      exact k)
  subst q2
  rw [rng_len] at q6
  exact ⟨ws, s2, e2, q3, q6, q4, q7⟩
/-- all texts of a list are read as they should be -/
theorem reads_loop {mi : MI} {env : Mi.Env} {s0 s : Store} {r : Nat} {ts : List (List Nat)} {N : Mi.Env → Store → Prop} {R : D → Store → Prop} {E : Str → Fs → Mi.Env → Store → Prop} (hm : Ev (mi env s0) (sLive r) s) (hr : s[r]? = some (.lst (sL ts))) (hts : ∀ w ∈ ts, TX 900000 w) (h8 : 8 < env.length)
    (fin : ∀ (x : D) (env' : Mi.Env) (s' : Store), env' = env ∨ env' = env.set 8 (some x) → Fr [] s s' → N env' s') :
    wpS (kFor mi (gN 8) (kIf (mOrT (mNotT (mTru (mCall m_law_reads (mCons (mVar 8) (mCons (mC (.bl true)) mNil))))) (mNotT (mTru (mCall m_law_reads (mCons (mVar 8) (mCons (mC (.bl false)) mNil)))))) (kRet (mC (.bl false))) kSkip) env s0) N R E := by
  have it : ∀ {s' : Store}, s'[r]? = some (.lst (sL ts)) → ∀ i, (sLive r).item i s' = some (sL ts)[i]? := fun h i => by
    simp only [sLive, items_l h]; rfl
  refine s_for (sL ts) (fun j env' s' => (∃ x : D, env' = env ∨ env' = env.set 8 (some x)) ∧ s'[r]? = some (.lst (sL ts)) ∧ Fr [] s s') hm (by simp only [sLive, items_l hr]; rfl) ⟨⟨.non, .inl rfl⟩, hr, Fr.refl⟩ (fun i env' s' h => it h.2.1 i) ?_ ?_
  · rintro j d env' s' hd ⟨⟨x, hx⟩, hs, fr⟩
    have hjl : j < ts.length := by
      have := (List.getElem?_eq_some_iff.mp hd).1
      simpa using this
    have hdd : d = .str (S ts[j]) := by
      rw [sL_get, List.getElem?_eq_getElem hjl] at hd
      exact (Option.some.inj hd).symm
    have hw := hts ts[j] (List.getElem_mem hjl)
    generalize ts[j] = w at *
    subst hdd
    have henv : env'.set 8 (some (.str (S w))) = env.set 8 (some (.str (S w))) := by
      rcases hx with rfl | rfl
      · rfl
      · rw [List.set_set]
    refine ⟨_, rfl, ?_⟩
    rw [henv]
    obtain ⟨s2, e2, f2⟩ := reads_eq (st := s') (chain := true) hw.1 hw.2
    obtain ⟨s3, e3, f3⟩ := reads_eq (st := s2) (chain := false) hw.1 hw.2
    have h8' : (env.set 8 (some (D.str (S w))))[8]? = some (some (.str (S w))) := List.getElem?_set_self h8
    refine s_if (b := false) (st' := s3) (fun K E k => ?_) (fun h => by cases h) fun _ => s_skip ⟨⟨.str (S w), .inr rfl⟩, (f2.trans f3).get hs (by simp), fr.trans (f2.trans f3)⟩
    simp only [wp_mOrT, wp_mNotT, wp_mTru, wp_mCall, wp_mCons, wp_mVar, wp_mC, wp_mNil, h8', e2, wp_ok, wp_tru, tru_b, e3]
    exact k
  · rintro env' s' ⟨⟨x, hx⟩, hs, fr⟩
    exact fin x env' s' hx fr
end K65
/-! ## Sp43 -/
set_option Elab.async false
set_option linter.all false
set_option maxRecDepth 100000
set_option maxHeartbeats 4000000
namespace K65
open PySem L2 SX Mi
variable {l a : List Nat} {c : Nat}
section
variable {m m' : ME} {env : Mi.Env} {s : Store} {B C i : Nat}
theorem LP.two (h : TP m env s B) (g : TP m' env s C) : LP (mLst (mCons m (mCons m' mNil))) env s (B + C + 2) := fun s0 t f => by
  obtain ⟨w, s1, e1, x1, t1, f1⟩ := h s0 t f
  obtain ⟨w2, s2, e2, x2, t2, f2⟩ := g s1 t1 (f.trans f1)
  refine ⟨[w, w2], s2.length, s2 ++ [.lst (sL [w, w2])], Ev.eq fun K E kk => ?_, app_new, t2.two, ((AL.one x1).app (AL.one x2)).mono (by omega), t2.app, (f1.trans f2).app⟩
  rw [wp_mLst, wp_mCons, e1, wp_ok, wp_mCons, e2, wp_ok, wp_mNil, if_pos (by simp)]
  exact kk
theorem TP.bent (he : env[i]? = some (some (.ref 1))) (h : TP m env s B) (hB : B ≤ 150000) : TP (mCall m_law_bent (mCons (mVar i) (mCons m mNil))) env s (4 * B + 200) := fun s0 t f => by
  obtain ⟨w, s1, e1, x1, t1, f1⟩ := h s0 t f
  obtain ⟨w', s2, e2, x2, t2, f2⟩ := bent_eq t1 x1 hB
  refine ⟨w', s2, Ev.eq fun K E kk => ?_, x2, t2, f1.trans f2⟩
  rw [wp_mCall, wp_mCons, wp_mVar, he]
  dsimp only
  rw [wp_mCons, e1, wp_ok, wp_mNil, e2]
  exact kk
end
theorem ix_n {s : Store} {r k : Nat} {ns : List Nat} {n : Nat} (h : s[r]? = some (.lst (nL ns))) (hk : ns[k]? = some n) : fIx (.ref r) (.int (k : Nat)) s = .ok (.int (n : Nat)) s := by
  unfold fIx
  simp only [items_l h, atI_k, nL_get, hk]
  rfl
theorem ix_d {s : Store} {r k : Nat} {ds : List D} {d : D} (h : s[r]? = some (.lst ds)) (hk : ds[k]? = some d) : fIx (.ref r) (.int (k : Nat)) s = .ok d s := by
  unfold fIx
  simp only [items_l h, atI_k, hk]
theorem nt_tup {s : Store} {ds : List D} : noText s (.tup ds) := ⟨"tuple", rfl, kb7⟩
theorem kb_none : kitB "NoneType" "str" = some false := by decide +kernel
theorem kb_int : kitB "int" "str" = some false := by decide +kernel
theorem kb_bool : kitB "bool" "str" = some false := by decide +kernel
theorem kb_list : kitB "list" "str" = some false := by decide +kernel
theorem nt_ref {s : Store} {r : Nat} {ds : List D} (h : s[r]? = some (.lst ds)) : noText s (.ref r) := ⟨"list", by unfold tyD; simp only [h], kb_list⟩
/-- the values that are no texts -/
theorem bad_eq {s : Store} {f : List Nat} {x0 x2 x3 x4 x5 x7 x8 x9 x10 x11 x12 x13 : Option D} (t : TapeAt s) : ∃ (d : D) (s' : Store), mBin fIx (mLst (mCons (mC .non) (mCons (mC (.int 0)) (mCons (mC (.bl true)) (mCons (mTup mNil) (mCons (mTup (mCons (mVar 6) mNil)) (mCons (mLst (mCons (mVar 6) mNil)) (mCons (mLst (mCons (mC (.str "given a")) mNil)) (mCons (mTup (mCons (mTup (mCons (mC (.str "given")) (mCons (mTup (mCons (mTup (mCons (mC (.str "a")) (mCons (mC (.int 0)) mNil))) mNil)) mNil))) mNil)) mNil))))))))) (mCall m_law_draw (mCons (mVar 1) (mCons (mC (.int 8)) mNil))) [x0, some (.ref 1), x2, x3, x4, x5, some (.str (S f)), x7, x8, x9, x10, x11, x12, x13] s = .ok d s' ∧ noText s' d := by
  have ha : (s ++ [Ob.lst [.str (S f)]])[s.length]? = some (.lst [.str (S f)]) := app_new
  have t1 : TapeAt (s ++ [Ob.lst [.str (S f)]]) := t.app
  have n1 := t.two
  have hlt : s.length < (s ++ [Ob.lst [D.str (S f)]]).length := by simp
  generalize hs1 : s ++ [Ob.lst [.str (S f)]] = s1 at *
  generalize hr1 : s.length = r1 at *
  have hb : (s1 ++ [Ob.lst [.str (S [103, 105, 118, 101, 110, 32, 97])]])[s1.length]? = some (.lst [.str (S [103, 105, 118, 101, 110, 32, 97])]) := app_new
  have ha2 : (s1 ++ [Ob.lst [.str (S [103, 105, 118, 101, 110, 32, 97])]])[r1]? = some (.lst [.str (S f)]) := app_at ha
  have t2 : TapeAt (s1 ++ [Ob.lst [.str (S [103, 105, 118, 101, 110, 32, 97])]]) := t1.app
  have n2 := t1.two
  have hlt2 : s1.length < (s1 ++ [Ob.lst [D.str (S [103, 105, 118, 101, 110, 32, 97])]]).length := by simp
  generalize hs2 : s1 ++ [Ob.lst [.str (S [103, 105, 118, 101, 110, 32, 97])]] = s2 at *
  generalize hr2 : s1.length = r2 at *
  have n3 := t2.two
  have key : ∀ ds : List D, ds = [.non, .int 0, .bl true, .tup [], .tup [.str (S f)], .ref r1, .ref r2, .tup [.tup [.str (S [103, 105, 118, 101, 110]), .tup [.tup [.str (S [97]), .int 0]]]]] → ∀ v : Nat, v < 8 → ∀ s4 : Store, s4[r1]? = some (.lst [.str (S f)]) → s4[r2]? = some (.lst [.str (S [103, 105, 118, 101, 110, 32, 97])]) → ∃ d, ds[v]? = some d ∧ noText s4 d := by
    rintro ds rfl v hv s4 h1 h2
    match v, hv with
    | 0, _ => exact ⟨_, rfl, "NoneType", rfl, kb_none⟩
    | 1, _ => exact ⟨_, rfl, "int", rfl, kb_int⟩
    | 2, _ => exact ⟨_, rfl, "bool", rfl, kb_bool⟩
    | 3, _ => exact ⟨_, rfl, nt_tup⟩
    | 4, _ => exact ⟨_, rfl, nt_tup⟩
    | 5, _ => exact ⟨_, rfl, nt_ref h1⟩
    | 6, _ => exact ⟨_, rfl, nt_ref h2⟩
    | 7, _ => exact ⟨_, rfl, nt_tup⟩
    | v + 8, h => exact absurd h (by omega)
  have hds : ∃ ds : List D, ds = [.non, .int 0, .bl true, .tup [], .tup [.str (S f)], .ref r1, .ref r2, .tup [.tup [.str (S [103, 105, 118, 101, 110]), .tup [.tup [.str (S [97]), .int 0]]]]] := ⟨_, rfl⟩
  obtain ⟨ds, hds⟩ := hds
  have hc : (s2 ++ [Ob.lst ds])[s2.length]? = some (.lst ds) := app_new
  have hb3 : (s2 ++ [Ob.lst ds])[r2]? = some (.lst [.str (S [103, 105, 118, 101, 110, 32, 97])]) := app_at hb
  have ha3 : (s2 ++ [Ob.lst ds])[r1]? = some (.lst [.str (S f)]) := app_at ha2
  have t3 : TapeAt (s2 ++ [Ob.lst ds]) := t2.app
  have el : Ev (mLst (mCons (mC .non) (mCons (mC (.int 0)) (mCons (mC (.bl true)) (mCons (mTup mNil) (mCons (mTup (mCons (mVar 6) mNil)) (mCons (mLst (mCons (mVar 6) mNil)) (mCons (mLst (mCons (mC (.str "given a")) mNil)) (mCons (mTup (mCons (mTup (mCons (mC (.str "given")) (mCons (mTup (mCons (mTup (mCons (mC (.str "a")) (mCons (mC (.int 0)) mNil))) mNil)) mNil))) mNil)) mNil)))))))) [x0, some (.ref 1), x2, x3, x4, x5, some (.str (S f)), x7, x8, x9, x10, x11, x12, x13] s) (.ref s2.length) (s2 ++ [.lst ds]) := fun K E k => by
    have one : (1 : Nat) ≤ 1000000 := by decide
    have nil : (0 : Nat) ≤ 1000000 := by decide
    simp only [wp_mLst, wp_mTup, wp_mCons, wp_mC, wp_mVar, wp_mNil, lit_14, lit_34, lit_72, List.getElem?_cons_zero, List.getElem?_cons_succ, List.length_cons, List.length_nil, Nat.zero_add, if_pos one, if_pos nil, hs1, hr1, hs2, hr2]
    rw [if_pos (by decide), if_pos (by decide), if_pos (by decide), ← hds]
    exact k
  generalize s2 ++ [Ob.lst ds] = s3 at *
  generalize s2.length = r3 at *
  obtain ⟨v, s4, e4, b4, t4, f4⟩ := drawI t3 8 (by decide) (by decide)
  have hc4 := f4.get hc (by simp; omega)
  have ha4 := f4.get ha3 (by simp; omega)
  have hb4 := f4.get hb3 (by simp; omega)
  obtain ⟨d, hd, hn⟩ := key ds hds v (by omega) s4 ha4 hb4
  have ei := ix_d hc4 hd
  refine ⟨d, s4, Ev.eq fun K E k => ?_, hn⟩
  rw [wp_mBin, el.eq, wp_ok]
  simp only [wp_mCall, wp_mCons, wp_mVar, wp_mC, wp_mNil, List.getElem?_cons_zero, List.getElem?_cons_succ, e4, wp_ok, ei]
  exact k
end K65
/-! ## Sp44 -/
set_option Elab.async false
set_option linter.all false
set_option maxRecDepth 100000
set_option maxHeartbeats 4000000
namespace K65
open PySem L2 SX Mi
variable {l a : List Nat} {c : Nat}
theorem law_true : ∀ ns : List Int, ns.length ≤ 63 → ∃ st, m_law [.fl (ns.map D.int)] [] = .ok (.bl true) st := by
  intro ns hns
  have key : wp (m_law [.fl (ns.map D.int)] []) (fun d _ => d = .bl true) fun _ _ _ => False := by
    refine wp_def (show wpS (b_law [some (.fl (ns.map D.int)), none, none, none, none, none, none, none, none, none, none, none, none, none] []) _ _ _ from ?_)
    obtain ⟨s0, e0, t0⟩ := tape_eq ns
    generalize D.fl (ns.map D.int) = scr at e0 ⊢
    refine s_seq (s_set (v := .ref 1) (st' := s0) (fun K E k => by
      simp only [wp_mCall, wp_mCons, wp_mVar, wp_mNil, List.getElem?_cons_zero, e0, wp_ok]; exact k) ?_)
    simp only [List.set_cons_succ, List.set_cons_zero]
    obtain ⟨ws, W, s1, e1, hW, h5, hg, hW2, t1, f1⟩ := words_eq t0
    refine s_seq (s_set (v := .ref W) (st' := s1) (fun K E k => by
      simp only [wp_mCall, wp_mCons, wp_mVar, wp_mNil, List.getElem?_cons_zero, List.getElem?_cons_succ, e1, wp_ok]; exact k) ?_)
    simp only [List.set_cons_succ, List.set_cons_zero]
    -- the sizes
    have ha : (s1 ++ [Ob.lst (nL [2, 3, 1, 4, 5, 0])])[s1.length]? = some (.lst (nL [2, 3, 1, 4, 5, 0])) := app_new
    have t2 : TapeAt (s1 ++ [Ob.lst (nL [2, 3, 1, 4, 5, 0])]) := t1.app
    have hWa : (s1 ++ [Ob.lst (nL [2, 3, 1, 4, 5, 0])])[W]? = some (.lst (sL ws)) := app_at hW
    have n1 := t1.two
    have el : Ev (mLst (mCons (mC (.int 2)) (mCons (mC (.int 3)) (mCons (mC (.int 1)) (mCons (mC (.int 4)) (mCons (mC (.int 5)) (mCons (mC (.int 0)) mNil)))))) [some scr, some (.ref 1), some (.ref W), none, none, none, none, none, none, none, none, none, none, none] s1) (.ref s1.length) (s1 ++ [.lst (nL [2, 3, 1, 4, 5, 0])]) := fun K E k => by
      simp only [wp_mLst, wp_mCons, wp_mC, wp_mNil]
      rw [if_pos (by simp)]
      exact k
    generalize s1 ++ [Ob.lst (nL [2, 3, 1, 4, 5, 0])] = s2 at *
    generalize s1.length = ra at *
    obtain ⟨v, s3, e3, b3, t3, f3⟩ := drawI t2 6 (by decide) (by decide)
    have ha3 := f3.get ha (by simp; omega)
    have hW3 := f3.get hWa (by simp; omega)
    obtain ⟨n, hn, hn5⟩ := szs_at v (by omega)
    have ei := ix_n ha3 hn
    have hr : (mCons (mBin fIx (mLst (mCons (mC (.int 2)) (mCons (mC (.int 3)) (mCons (mC (.int 1)) (mCons (mC (.int 4)) (mCons (mC (.int 5)) (mCons (mC (.int 0)) mNil))))))) (mCall m_law_draw (mCons (mVar 1) (mCons (mC (.int 6)) mNil)))) mNil) [some scr, some (.ref 1), some (.ref W), none, none, none, none, none, none, none, none, none, none, none] s1 = .ok [.int (n : Nat)] s3 := Ev.eq fun K E k => by
      rw [wp_mCons, wp_mBin, el.eq, wp_ok]
      simp only [wp_mCall, wp_mCons, wp_mVar, wp_mC, wp_mNil, List.getElem?_cons_zero, List.getElem?_cons_succ, e3, wp_ok, ei]
      exact k
    obtain ⟨sz, s4, e4, hZ, hl, hz2, t4, f4⟩ := lc_sizes t3 hr hn5 rfl (by simp)
    have hW4 := f4.get hW3 (by simp; omega)
    have hZ2 := t3.two
    generalize s3.length = Z at *
    refine s_seq (s_set (v := .ref Z) (st' := s4) (fun K E k => by rw [e4]; exact k) ?_)
    simp only [List.set_cons_succ, List.set_cons_zero]
    -- sixty, now and then
    refine s_seq (wpS_mono (N := fun env st => ∃ sz : List Nat, env = [some scr, some (.ref 1), some (.ref W), some (.ref Z), none, none, none, none, none, none, none, none, none, none] ∧ st[Z]? = some (.lst (nL sz)) ∧ sz.length ≤ 5 ∧ (∀ x ∈ sz, 1 ≤ x ∧ x ≤ 60) ∧ st[W]? = some (.lst (sL ws)) ∧ TapeAt st) (R := fun _ _ => False) (E := fun _ _ _ _ => False) ?_ ?_ (fun _ _ h => h.elim) (fun _ _ _ _ h => h.elim))
    · have eL := lenL hZ
      rw [show (nL sz).length = sz.length from List.length_map ..] at eL
      by_cases hz0 : sz = []
      · refine s_if (b := false) (st' := s4) (fun K E k => ?_) (fun h => by cases h) fun _ => s_skip ⟨sz, rfl, hZ, by omega, hz2, hW4, t4⟩
        rw [hz0] at eL
        simp only [wp_mAndT, wp_mB, wp_mBin, wp_mFn, wp_mCons, wp_mVar, wp_mC, wp_mNil, List.getElem?_cons_zero, List.getElem?_cons_succ, eL, wp_ok, f_gt]
        exact k
      · have hlp : 1 ≤ sz.length := List.length_pos_iff.mpr hz0
        obtain ⟨v, s5, e5, b5, t5, f5⟩ := drawI t4 8 (by decide) (by decide)
        have hZ5 := f5.get hZ (by simp; omega)
        have hW5 := f5.get hW4 (by simp; omega)
        refine s_if (b := decide ((v : Int) = 1)) (st' := s5) (fun K E k => ?_) (fun _ => ?_) fun _ => s_skip ⟨sz, rfl, hZ5, by omega, hz2, hW5, t5⟩
        · have hd : decide ((0 : Int) < (sz.length : Int)) = true := decide_eq_true (by omega)
          simp only [wp_mAndT, wp_mB, wp_mBin, wp_mFn, wp_mCall, wp_mCons, wp_mVar, wp_mC, wp_mNil, List.getElem?_cons_zero, List.getElem?_cons_succ, eL, wp_ok, f_gt, hd, if_true, e5, f_eq_i]
          exact k
        · have hsf := set_f (d := .int ((60 : Nat) : Int)) hZ5 (k := 0) (by rw [show (nL sz).length = sz.length from List.length_map ..]; exact hlp)
          have e : (nL sz).set 0 (.int ((60 : Nat) : Int)) = nL (sz.set 0 60) := by unfold nL; rw [List.map_set]
          rw [e] at hsf
          refine s_setIx (v := .int ((60 : Nat) : Int)) (o := .ref Z) (id := .int ((0 : Nat) : Int)) (st1 := s5) (st2 := s5) (st3 := s5) (fun K E kk => by simp only [wp_mC]; exact kk) (fun K E kk => by simp only [wp_mVar, List.getElem?_cons_zero, List.getElem?_cons_succ]; exact kk) (fun K E kk => by simp only [wp_mC]; exact kk) hsf ?_
          have hWZ : W ≠ Z := by
            rintro rfl
            rw [hZ] at hW4
            have q := Ob.lst.inj (Option.some.inj hW4)
            cases ws with
            | nil => cases h5
            | cons w ws =>
              cases sz with
              | nil => exact hz0 rfl
              | cons x sz => cases q
          refine ⟨sz.set 0 60, rfl, set_at hZ5, by rw [List.length_set]; omega, fun x hx => ?_, by rw [set_no (Ne.symm hWZ)]; exact hW5, t5.set hZ2⟩
          rcases List.mem_or_eq_of_mem_set hx with hx | rfl
          · exact hz2 x hx
          · omega
    clear hZ hl hz2 hW4 t4 f4 e4 sz
    rintro env s4 ⟨sz, rfl, hZ, hl, hz2, hW4, t4⟩
    -- chain and joins
    obtain ⟨cs, s5, e5, lc, hc, t5, f5⟩ := chain_eq t4 hW4 hW2 hZ hZ2 h5 hg hl hz2
    have hW5 := f5.get hW4 (by simp; omega)
    have hZ5 := f5.get hZ (by simp; omega)
    refine s_seq (s_set (v := .tup cs) (st' := s5) (fun K E k => by
      simp only [wp_mCall, wp_mCons, wp_mVar, wp_mNil, List.getElem?_cons_zero, List.getElem?_cons_succ, e5, wp_ok]; exact k) ?_)
    simp only [List.set_cons_succ, List.set_cons_zero]
    obtain ⟨js, s6, e6, lj, hj, t6, f6⟩ := rows_eq t5 hW5 hW2 hZ5 hZ2 h5 hg hl hz2
    refine s_seq (s_set (v := .tup js) (st' := s6) (fun K E k => by
      simp only [wp_mCall, wp_mCons, wp_mVar, wp_mNil, List.getElem?_cons_zero, List.getElem?_cons_succ, e6, wp_ok]; exact k) ?_)
    simp only [List.set_cons_succ, List.set_cons_zero]
    obtain ⟨ls1, a1, b1, p1, q1⟩ := texts_two (chain := true) (ds := cs) (by omega) (fun d hd => hc d hd)
    obtain ⟨ls2, a2, b2, p2, q2⟩ := texts_two (chain := false) (ds := js) (by omega) (fun d hd => hj d hd)
    generalize TL.joinL [10] ls1 = T1 at *
    generalize TL.joinL [10] ls2 = T2 at *
    obtain ⟨r7, s7, e7, j7, f7⟩ := q1 [some scr, some (.ref 1), some (.ref W), some (.ref Z), some (.tup cs), some (.tup js), none, none, none, none, none, none, none, none] (mVar 4) 12 s6 rfl (by simp)
    have e7 : mLc (iVal (mVar 4)) [12] (gN 12) mYes (mCall m_law_chain_line (mCons (mVar 12) mNil)) [some scr, some (.ref 1), some (.ref W), some (.ref Z), some (.tup cs), some (.tup js), none, none, none, none, none, none, none, none] s6 = .ok (.ref r7) s7 := e7
    refine s_seq (s_set (v := .str (S T1)) (st' := s7) (fun K E k => by
      rw [wp_mM, wp_mRecv, wp_mC, lit_13, rec_s, if_pos rfl, wp_mCons, e7, wp_ok, wp_mNil, j7]; exact k) ?_)
    simp only [List.set_cons_succ, List.set_cons_zero]
    obtain ⟨r8, s8, e8, j8, f8⟩ := q2 [some scr, some (.ref 1), some (.ref W), some (.ref Z), some (.tup cs), some (.tup js), some (.str (S T1)), none, none, none, none, none, none, none] (mVar 5) 13 s7 rfl (by simp)
    have e8 : mLc (iVal (mVar 5)) [13] (gN 13) mYes (mCall m_law_join_line (mCons (mVar 13) mNil)) [some scr, some (.ref 1), some (.ref W), some (.ref Z), some (.tup cs), some (.tup js), some (.str (S T1)), none, none, none, none, none, none, none] s7 = .ok (.ref r8) s8 := e8
    refine s_seq (s_set (v := .str (S T2)) (st' := s8) (fun K E k => by
      rw [wp_mM, wp_mRecv, wp_mC, lit_13, rec_s, if_pos rfl, wp_mCons, e8, wp_ok, wp_mNil, j8]; exact k) ?_)
    simp only [List.set_cons_succ, List.set_cons_zero]
    have t8 : TapeAt s8 := (t6.keep f7).keep f8
    -- the writers agree
    obtain ⟨s9, e9, f9⟩ := p1 s8
    have e9 : m_chain_text [.tup cs] s8 = .ok (.str (S T1)) s9 := e9
    obtain ⟨s10, e10, f10⟩ := p2 s9
    have e10 : m_joins_text [.tup js] s9 = .ok (.str (S T2)) s10 := e10
    have z1 : pureD 5 (.str (S T1)) := trivial
    have z2 : pureD 5 (.str (S T2)) := trivial
    have t10 : TapeAt s10 := (t8.keep f9).keep f10
    refine s_seq (s_if (b := false) (st' := s10) (fun K E k => ?_) (fun h => by cases h) fun _ => s_skip ?_)
    · simp only [wp_mOrT, wp_mNotT, wp_mTru, wp_mCall, wp_mCons, wp_mVar, wp_mNil, List.getElem?_cons_zero, List.getElem?_cons_succ, e9, wp_ok, same8 z1, wp_tru, tru_b, e10, same8 z2]
      exact k
    have X1 : TX 30005 T1 := ⟨a1, b1⟩
    have X2 : TX 30005 T2 := ⟨a2, b2⟩
    -- the six texts
    obtain ⟨w1, s11, e11, x11, t11, f11⟩ := bent_eq t10 X1 (by decide)
    obtain ⟨w2, s12, e12, x12, t12, f12⟩ := bent_eq t11 X2 (by decide)
    obtain ⟨w3, s13, e13, x13, t13, f13⟩ := bent_eq t12 X1 (by decide)
    have hts : ∀ w ∈ [T1, T2, [], w1, w2, w3], TX 900000 w := by
      intro w hw
      simp only [List.mem_cons, List.not_mem_nil, or_false] at hw
      rcases hw with rfl | rfl | rfl | rfl | rfl | rfl
      · exact X1.mono (by decide)
      · exact X2.mono (by decide)
      · exact ⟨(fun _ h => nomatch h), Nat.zero_le _⟩
      · exact x11.mono (by decide)
      · exact x12.mono (by decide)
      · exact x13.mono (by decide)
    have hT : (s13 ++ [Ob.lst (sL [T1, T2, [], w1, w2, w3])])[s13.length]? = some (.lst (sL [T1, T2, [], w1, w2, w3])) := app_new
    refine s_seq (reads_loop (s := s13 ++ [Ob.lst (sL [T1, T2, [], w1, w2, w3])]) (r := s13.length) (ts := [T1, T2, [], w1, w2, w3]) (fun K E k => ?_) hT hts (by simp) (fun x env' s' hx fr => ?_))
    · simp only [wp_iVal, wp_mLst, wp_mCons, wp_mCall, wp_mVar, wp_mC, wp_mNil, lit_11, List.getElem?_cons_zero, List.getElem?_cons_succ, e11, e12, e13, wp_ok]
      rw [if_pos (by simp)]
      have es : srcOf (.ref s13.length) (s13 ++ [Ob.lst (sL [T1, T2, [], w1, w2, w3])]) = .ok (sLive s13.length) (s13 ++ [Ob.lst (sL [T1, T2, [], w1, w2, w3])]) := by
        unfold srcOf; simp only [items_l hT]
      have es2 := congrArg (fun o => wp o K E) es
      exact es2.mpr k
    obtain ⟨x8, rfl⟩ : ∃ x8 : Option D, env' = [some scr, some (.ref 1), some (.ref W), some (.ref Z), some (.tup cs), some (.tup js), some (.str (S T1)), some (.str (S T2)), x8, none, none, none, none, none] := by
      rcases hx with rfl | rfl
      · exact ⟨_, rfl⟩
      · exact ⟨_, rfl⟩
    have t14 : TapeAt s' := t13.app.keep fr
    clear hT hts fr
    -- odd lines
    obtain ⟨os, s15, e15, h15, x15, t15, f15⟩ := lc_odds (s := s') (env := [some scr, some (.ref 1), some (.ref W), some (.ref Z), some (.tup cs), some (.tup js), some (.str (S T1)), some (.str (S T2)), x8, none, none, none, none, none]) t14 rfl (by simp)
    have n14 := t14.two
    generalize s'.length = O at *
    refine s_seq (s_set (v := .ref O) (st' := s15) (fun K E k => by rw [e15]; exact k) ?_)
    simp only [List.set_cons_succ, List.set_cons_zero]
    have vO : LP (mVar 9) [some scr, some (.ref 1), some (.ref W), some (.ref Z), some (.tup cs), some (.tup js), some (.str (S T1)), some (.str (S T2)), x8, some (.ref O), none, none, none, none] s15 1206 := LP.v rfl h15 n14 x15
    have v7 : TP (mVar 7) [some scr, some (.ref 1), some (.ref W), some (.ref Z), some (.tup cs), some (.tup js), some (.str (S T1)), some (.str (S T2)), x8, some (.ref O), none, none, none, none] s15 30005 := TP.v rfl X2
    obtain ⟨ts, rt, s16, e16, h16, n16, x16, t16, f16⟩ := (vO.add (LP.two (TP.join lit_13 (by decide) vO (by decide)) (TP.bent (i := 1) rfl (TP.bent (i := 1) rfl v7 (by decide)) (by decide))) (by decide)) s15 t15 Fr.refl
    refine s_seq (reads_loop (s := s16) (r := rt) (ts := ts) (fun K E k => ?_) h16 (fun w hw => ?_) (by simp) (fun x env' s' hx fr => ?_))
    · rw [wp_iVal, e16, wp_ok]
      have es : srcOf (.ref rt) s16 = .ok (sLive rt) s16 := by
        unfold srcOf; simp only [items_l h16]
      rw [es]
      exact k
    · obtain ⟨i, hi⟩ := List.getElem?_of_mem hw
      exact (x16.mem hi).mono (by decide)
    obtain ⟨x8, rfl⟩ : ∃ x8 : Option D, env' = [some scr, some (.ref 1), some (.ref W), some (.ref Z), some (.tup cs), some (.tup js), some (.str (S T1)), some (.str (S T2)), x8, some (.ref O), none, none, none, none] := by
      rcases hx with rfl | rfl
      · exact ⟨_, rfl⟩
      · exact ⟨_, rfl⟩
    have t17 : TapeAt s' := t16.keep fr
    obtain ⟨d, s18, e18, nd⟩ := bad_eq (f := T1) (x0 := some scr) (x2 := some (.ref W)) (x3 := some (.ref Z)) (x4 := some (.tup cs)) (x5 := some (.tup js)) (x7 := some (.str (S T2))) (x8 := x8) (x9 := some (.ref O)) (x10 := none) (x11 := none) (x12 := none) (x13 := none) t17
    refine s_seq (s_set (v := d) (st' := s18) (fun K E k => by rw [e18]; exact k) ?_)
    simp only [List.set_cons_succ, List.set_cons_zero]
    have er : Ev (mTup (mCons (mC (.str "refused")) (mCons (mC (.str "text")) (mCons (mNeg (mC (.int 1))) mNil))) [some scr, some (.ref 1), some (.ref W), some (.ref Z), some (.tup cs), some (.tup js), some (.str (S T1)), some (.str (S T2)), x8, some (.ref O), some d, none, none, none] s18) refD s18 := fun K E k => by
      simp only [wp_mTup, wp_mCons, wp_mC, wp_mNeg, wp_mNil, lit_63, lit_41]
      rw [if_pos (by simp)]
      exact k
    refine s_seq (s_if (b := false) (st' := s18) (fun K E k => ?_) (fun h => by cases h) fun _ => s_skip ?_)
    · simp only [wp_mNotT, wp_mTru, wp_mCall, wp_mCons, wp_mVar, wp_mC, wp_mNil, List.getElem?_cons_zero, List.getElem?_cons_succ, told_bad nd, wp_ok, er.eq, same8 pure_ref, wp_tru, tru_b]
      exact k
    · refine s_ret (v := .bl true) (st' := s18) (fun K E k => ?_) rfl
      simp only [wp_mCall, wp_mCons, wp_mVar, wp_mC, wp_mNil, List.getElem?_cons_zero, List.getElem?_cons_succ, told_bad nd, wp_ok, er.eq, same8 pure_ref]
      exact k
  obtain ⟨d, s', e, rfl⟩ := wp_get key
  exact ⟨s', e⟩
end K65
/-! ## K65p -/
set_option Elab.async false
set_option linter.all false
set_option maxRecDepth 100000
set_option maxHeartbeats 0
namespace K65
open PySem L2 Mi
/-! ### the texts of the defs -/
def top (i : Nat) : Stmt := PySem.Challenge.pw_stoodthere_k65_texts_of_papers.main.body.getD i (.Pass ⟨0, 0, 0, 0⟩)
abbrev s_a_begins : Stmt := top 9
theorem sc_a_begins : FnScope N_a_begins ["sign"] (defScope s_a_begins) := ⟨rfl, rfl, rfl, by decide +kernel, rfl, by decide +kernel, by decide +kernel⟩
abbrev s_a_goes_on : Stmt := top 10
theorem sc_a_goes_on : FnScope N_a_goes_on ["sign"] (defScope s_a_goes_on) := ⟨rfl, rfl, rfl, by decide +kernel, rfl, by decide +kernel, by decide +kernel⟩
abbrev s_a_word_at : Stmt := top 12
theorem sc_a_word_at : FnScope N_a_word_at ["text", "at", "holes"] (defScope s_a_word_at) := ⟨rfl, rfl, rfl, by decide +kernel, rfl, by decide +kernel, by decide +kernel⟩
abbrev s_a_close : Stmt := top 14
theorem sc_a_close : FnScope N_a_close ["text", "at", "above"] (defScope s_a_close) := ⟨rfl, rfl, rfl, by decide +kernel, rfl, by decide +kernel, by decide +kernel⟩
abbrev s_a_read : Stmt := top 13
theorem sc_a_read : FnScope N_a_read ["text", "holes"] (defScope s_a_read) := ⟨rfl, rfl, rfl, by decide +kernel, rfl, by decide +kernel, by decide +kernel⟩
abbrev s_read_tree : Stmt := top 15
theorem sc_read_tree : FnScope N_read_tree ["text"] (defScope s_read_tree) := ⟨rfl, rfl, rfl, by decide +kernel, rfl, by decide +kernel, by decide +kernel⟩
abbrev s_lines_of : Stmt := top 18
theorem sc_lines_of : FnScope N_lines_of ["text"] (defScope s_lines_of) := ⟨rfl, rfl, rfl, by decide +kernel, rfl, by decide +kernel, by decide +kernel⟩
abbrev s_number_in : Stmt := top 19
theorem sc_number_in : FnScope N_number_in ["field"] (defScope s_number_in) := ⟨rfl, rfl, rfl, by decide +kernel, rfl, by decide +kernel, by decide +kernel⟩
abbrev s_tree_in : Stmt := top 20
theorem sc_tree_in : FnScope N_tree_in ["field"] (defScope s_tree_in) := ⟨rfl, rfl, rfl, by decide +kernel, rfl, by decide +kernel, by decide +kernel⟩
abbrev s_entries_in : Stmt := top 21
theorem sc_entries_in : FnScope N_entries_in ["fields", "sorts", "line"] (defScope s_entries_in) := ⟨rfl, rfl, rfl, by decide +kernel, rfl, by decide +kernel, by decide +kernel⟩
abbrev s_chain_entry : Stmt := top 24
theorem sc_chain_entry : FnScope N_chain_entry ["fields", "line"] (defScope s_chain_entry) := ⟨rfl, rfl, rfl, by decide +kernel, rfl, by decide +kernel, by decide +kernel⟩
abbrev s_read_chain : Stmt := top 25
theorem sc_read_chain : FnScope N_read_chain ["text"] (defScope s_read_chain) := ⟨rfl, rfl, rfl, by decide +kernel, rfl, by decide +kernel, by decide +kernel⟩
abbrev s_join_entry : Stmt := top 26
theorem sc_join_entry : FnScope N_join_entry ["fields", "line"] (defScope s_join_entry) := ⟨rfl, rfl, rfl, by decide +kernel, rfl, by decide +kernel, by decide +kernel⟩
abbrev s_read_joins : Stmt := top 27
theorem sc_read_joins : FnScope N_read_joins ["text"] (defScope s_read_joins) := ⟨rfl, rfl, rfl, by decide +kernel, rfl, by decide +kernel, by decide +kernel⟩
abbrev s_shown : Stmt := top 29
theorem sc_shown : FnScope N_shown ["tree"] (defScope s_shown) := ⟨rfl, rfl, rfl, by decide +kernel, rfl, by decide +kernel, by decide +kernel⟩
abbrev s_chain_line : Stmt := top 31
theorem sc_chain_line : FnScope N_chain_line ["entry"] (defScope s_chain_line) := ⟨rfl, rfl, rfl, by decide +kernel, rfl, by decide +kernel, by decide +kernel⟩
abbrev s_chain_text : Stmt := top 32
theorem sc_chain_text : FnScope N_chain_text ["chain"] (defScope s_chain_text) := ⟨rfl, rfl, rfl, by decide +kernel, rfl, by decide +kernel, by decide +kernel⟩
abbrev s_join_line : Stmt := top 33
theorem sc_join_line : FnScope N_join_line ["join"] (defScope s_join_line) := ⟨rfl, rfl, rfl, by decide +kernel, rfl, by decide +kernel, by decide +kernel⟩
abbrev s_joins_text : Stmt := top 34
theorem sc_joins_text : FnScope N_joins_text ["joins"] (defScope s_joins_text) := ⟨rfl, rfl, rfl, by decide +kernel, rfl, by decide +kernel, by decide +kernel⟩
abbrev s_law_tape : Stmt := top 36
theorem sc_law_tape : FnScope N_law_tape ["_law_script"] (defScope s_law_tape) := ⟨rfl, rfl, rfl, by decide +kernel, rfl, by decide +kernel, by decide +kernel⟩
abbrev s_law_draw : Stmt := top 37
theorem sc_law_draw : FnScope N_law_draw ["_law_tape_here", "_law_many"] (defScope s_law_draw) := ⟨rfl, rfl, rfl, by decide +kernel, rfl, by decide +kernel, by decide +kernel⟩
abbrev s_law_words : Stmt := top 38
theorem sc_law_words : FnScope N_law_words ["_law_tape_here"] (defScope s_law_words) := ⟨rfl, rfl, rfl, by decide +kernel, rfl, by decide +kernel, by decide +kernel⟩
abbrev s_law_same : Stmt := top 39
theorem sc_law_same : FnScope N_law_same ["_law_told_here", "_law_due_here"] (defScope s_law_same) := ⟨rfl, rfl, rfl, by decide +kernel, rfl, by decide +kernel, by decide +kernel⟩
abbrev s_law_any_tree : Stmt := top 40
theorem sc_law_any_tree : FnScope N_law_any_tree ["_law_tape_here", "_law_words_here", "_law_most"] (defScope s_law_any_tree) := ⟨rfl, rfl, rfl, by decide +kernel, rfl, by decide +kernel, by decide +kernel⟩
abbrev s_law_show : Stmt := top 41
theorem sc_law_show : FnScope N_law_show ["_law_tree"] (defScope s_law_show) := ⟨rfl, rfl, rfl, by decide +kernel, rfl, by decide +kernel, by decide +kernel⟩
abbrev s_law_word : Stmt := top 42
theorem sc_law_word : FnScope N_law_word ["_law_text"] (defScope s_law_word) := ⟨rfl, rfl, rfl, by decide +kernel, rfl, by decide +kernel, by decide +kernel⟩
abbrev s_law_parted : Stmt := top 43
theorem sc_law_parted : FnScope N_law_parted ["_law_text"] (defScope s_law_parted) := ⟨rfl, rfl, rfl, by decide +kernel, rfl, by decide +kernel, by decide +kernel⟩
abbrev s_law_read : Stmt := top 44
theorem sc_law_read : FnScope N_law_read ["_law_text"] (defScope s_law_read) := ⟨rfl, rfl, rfl, by decide +kernel, rfl, by decide +kernel, by decide +kernel⟩
abbrev s_law_figures : Stmt := top 45
theorem sc_law_figures : FnScope N_law_figures ["_law_text", "_law_most"] (defScope s_law_figures) := ⟨rfl, rfl, rfl, by decide +kernel, rfl, by decide +kernel, by decide +kernel⟩
abbrev s_law_count : Stmt := top 46
theorem sc_law_count : FnScope N_law_count ["_law_tape_here"] (defScope s_law_count) := ⟨rfl, rfl, rfl, by decide +kernel, rfl, by decide +kernel, by decide +kernel⟩
abbrev s_law_chain : Stmt := top 47
theorem sc_law_chain : FnScope N_law_chain ["_law_tape_here", "_law_words_here", "_law_sizes"] (defScope s_law_chain) := ⟨rfl, rfl, rfl, by decide +kernel, rfl, by decide +kernel, by decide +kernel⟩
abbrev s_law_rows : Stmt := top 48
theorem sc_law_rows : FnScope N_law_rows ["_law_tape_here", "_law_words_here", "_law_sizes"] (defScope s_law_rows) := ⟨rfl, rfl, rfl, by decide +kernel, rfl, by decide +kernel, by decide +kernel⟩
abbrev s_law_chain_line : Stmt := top 49
theorem sc_law_chain_line : FnScope N_law_chain_line ["_law_line"] (defScope s_law_chain_line) := ⟨rfl, rfl, rfl, by decide +kernel, rfl, by decide +kernel, by decide +kernel⟩
abbrev s_law_join_line : Stmt := top 50
theorem sc_law_join_line : FnScope N_law_join_line ["_law_join"] (defScope s_law_join_line) := ⟨rfl, rfl, rfl, by decide +kernel, rfl, by decide +kernel, by decide +kernel⟩
abbrev s_law_fields : Stmt := top 51
theorem sc_law_fields : FnScope N_law_fields ["_law_line", "_law_shapes"] (defScope s_law_fields) := ⟨rfl, rfl, rfl, by decide +kernel, rfl, by decide +kernel, by decide +kernel⟩
abbrev s_law_due : Stmt := top 52
theorem sc_law_due : FnScope N_law_due ["_law_text", "_law_chain_here"] (defScope s_law_due) := ⟨rfl, rfl, rfl, by decide +kernel, rfl, by decide +kernel, by decide +kernel⟩
abbrev s_law_told : Stmt := top 53
theorem sc_law_told : FnScope N_law_told ["_law_text", "_law_chain_here"] (defScope s_law_told) := ⟨rfl, rfl, rfl, by decide +kernel, rfl, by decide +kernel, by decide +kernel⟩
abbrev s_law_sign : Stmt := top 54
theorem sc_law_sign : FnScope N_law_sign ["_law_tape_here"] (defScope s_law_sign) := ⟨rfl, rfl, rfl, by decide +kernel, rfl, by decide +kernel, by decide +kernel⟩
abbrev s_law_odd : Stmt := top 55
theorem sc_law_odd : FnScope N_law_odd ["_law_tape_here"] (defScope s_law_odd) := ⟨rfl, rfl, rfl, by decide +kernel, rfl, by decide +kernel, by decide +kernel⟩
abbrev s_law_odd_line : Stmt := top 56
theorem sc_law_odd_line : FnScope N_law_odd_line ["_law_tape_here"] (defScope s_law_odd_line) := ⟨rfl, rfl, rfl, by decide +kernel, rfl, by decide +kernel, by decide +kernel⟩
abbrev s_law_lines_bent : Stmt := top 57
theorem sc_law_lines_bent : FnScope N_law_lines_bent ["_law_tape_here", "_law_lines"] (defScope s_law_lines_bent) := ⟨rfl, rfl, rfl, by decide +kernel, rfl, by decide +kernel, by decide +kernel⟩
abbrev s_law_bent : Stmt := top 58
theorem sc_law_bent : FnScope N_law_bent ["_law_tape_here", "_law_text"] (defScope s_law_bent) := ⟨rfl, rfl, rfl, by decide +kernel, rfl, by decide +kernel, by decide +kernel⟩
abbrev s_law_reads : Stmt := top 59
theorem sc_law_reads : FnScope N_law_reads ["_law_text", "_law_chain_here"] (defScope s_law_reads) := ⟨rfl, rfl, rfl, by decide +kernel, rfl, by decide +kernel, by decide +kernel⟩
abbrev s_law : Stmt := top 60
theorem sc_law : FnScope N_law ["_law_script"] (defScope s_law) := ⟨rfl, rfl, rfl, by decide +kernel, rfl, by decide +kernel, by decide +kernel⟩
theorem b_bool : bootBuiltins "bool" = some (.type "bool") := by decide +kernel
theorem b_enumerate : bootBuiltins "enumerate" = some (.type "enumerate") := by decide +kernel
theorem b_int : bootBuiltins "int" = some (.type "int") := by decide +kernel
theorem b_isinstance : bootBuiltins "isinstance" = some (.builtin "isinstance") := by decide +kernel
theorem b_len : bootBuiltins "len" = some (.builtin "len") := by decide +kernel
theorem b_list : bootBuiltins "list" = some (.type "list") := by decide +kernel
theorem b_min : bootBuiltins "min" = some (.builtin "min") := by decide +kernel
theorem b_range : bootBuiltins "range" = some (.type "range") := by decide +kernel
theorem b_reversed : bootBuiltins "reversed" = some (.type "reversed") := by decide +kernel
theorem b_str : bootBuiltins "str" = some (.type "str") := by decide +kernel
theorem b_tuple : bootBuiltins "tuple" = some (.type "tuple") := by decide +kernel
theorem b_zip : bootBuiltins "zip" = some (.type "zip") := by decide +kernel
/-- what the written part says -/
structure Txt (P : Program) (w : World) (K : PySem.W.Frag) (mg : Str → Option Value) (base : Heap) (C_NotUsable : Addr) (C_InvalidText : Addr) : Prop where
  z_bool : mg "bool" = none
  z_enumerate : mg "enumerate" = none
  z_int : mg "int" = none
  z_isinstance : mg "isinstance" = none
  z_len : mg "len" = none
  z_list : mg "list" = none
  z_min : mg "min" = none
  z_range : mg "range" = none
  z_reversed : mg "reversed" = none
  z_str : mg "str" = none
  z_tuple : mg "tuple" = none
  z_zip : mg "zip" = none
  k_A_LETTERS : Kst K mg "_A_LETTERS" d_A_LETTERS
  k_A_OTHERS : Kst K mg "_A_OTHERS" d_A_OTHERS
  k_MOST_FIGURES : Kst K mg "MOST_FIGURES" d_MOST_FIGURES
  k_PUT_SORTS : Kst K mg "PUT_SORTS" d_PUT_SORTS
  e_NotUsable : Err P w K mg base "NotUsable" C_NotUsable "word" "at"
  e_InvalidText : Err P w K mg base "InvalidText" C_InvalidText "line" "at"
  x_NotUsable : ∀ c ∈ errs, ∀ C', mg c = some (.ref C') → PySem.W.exmOne K (.ref C') (.ref C_NotUsable) = some (decide (c = "NotUsable"))
  x_InvalidText : ∀ c ∈ errs, ∀ C', mg c = some (.ref C') → PySem.W.exmOne K (.ref C') (.ref C_InvalidText) = some (decide (c = "InvalidText"))
section
variable {P : Program} {w : World} {K : PySem.W.Frag} {mg : Str → Option Value} {base : Heap} {C_NotUsable : Addr} {C_InvalidText : Addr}
theorem ok_a_begins (D0 : Def K mg "a_begins" s_a_begins ["sign"]) (T : Txt P w K mg base C_NotUsable C_InvalidText)  : Has P w K mg base 1 "a_begins" ["sign"] m_a_begins :=
  D0.has sc_a_begins fun f cdv A outer s H E c => (is_last (is_ret (is_cmp op_inS' (is_var (pv 0)) (is_kst T.k_A_LETTERS (by rfl)) (by with_unfolding_all rfl))))
theorem ok_a_goes_on (D0 : Def K mg "a_goes_on" s_a_goes_on ["sign"]) (T : Txt P w K mg base C_NotUsable C_InvalidText)  : Has P w K mg base 1 "a_goes_on" ["sign"] m_a_goes_on :=
  D0.has sc_a_goes_on fun f cdv A outer s H E c => (is_last (is_ret (is_orV (is_cmp op_inS' (is_var (pv 0)) (is_kst T.k_A_LETTERS (by rfl)) (by with_unfolding_all rfl)) (is_one (is_cmp op_inS' (is_var (pv 0)) (is_kst T.k_A_OTHERS (by rfl)) (by with_unfolding_all rfl))))))
theorem ok_a_word_at (D0 : Def K mg "_a_word_at" s_a_word_at ["text", "at", "holes"]) (T : Txt P w K mg base C_NotUsable C_InvalidText) (h_a_begins : Has P w K mg base 1 "a_begins" ["sign"] m_a_begins) (h_a_goes_on : Has P w K mg base 1 "a_goes_on" ["sign"] m_a_goes_on) : Has P w K mg base 3 "_a_word_at" ["text", "at", "holes"] m_a_word_at :=
  D0.has sc_a_word_at fun f cdv A outer s H E c => (is_seq (is_if (is_tcmp op_eq' (is_var (pv 1)) (is_fn c_len (by rfl) T.z_len b_len (is_cons (is_var (pv 0)) is_nil)) (nomark _))
  (is_last (is_raiseH T.e_InvalidText c (by decide) (by rfl) (is_cons is_int (is_cons (is_var (pv 1)) is_nil))))
  is_bnil)
  (is_seq (is_set (i := 3) c.nod rfl (.inl rfl) (is_ix (is_var (pv 0)) (is_var (pv 1)) (fun _ _ => rfl)))
  (is_seq (is_if (IsW.t (is_or (is_tcmp op_eq' (is_var (pv 3)) is_str (nomark _)) (is_or1 (IsW.t (is_and (is_tru (is_var (pv 2)) (fun _ => rfl)) (is_and1 (is_tcmp op_eq' (is_var (pv 3)) is_str (nomark _))))))))
  (is_last (is_ret (is_var (pv 3))))
  is_bnil)
  (is_seq (is_if (is_not (is_tru (is_callH h_a_begins c.toCal (by decide) (by rfl) (is_cons (is_var (pv 3)) is_nil) (mCons_len (fun _ _ _ _ h => mNil_len h))) (fun _ => rfl)))
  (is_last (is_raiseH T.e_InvalidText c (by decide) (by rfl) (is_cons is_int (is_cons (is_var (pv 1)) is_nil))))
  is_bnil)
  (is_seq (is_set (i := 4) c.nod rfl (.inl rfl) (is_bin op_add' (is_var (pv 1)) is_int))
  (is_seq (is_while c.po (IsW.t (is_and (is_tcmp op_lt' (is_var (pv 4)) (is_fn c_len (by rfl) T.z_len b_len (is_cons (is_var (pv 0)) is_nil)) (nomark _)) (is_and (is_tcmp op_lt' (is_var (pv 4)) (is_bin op_add' (is_var (pv 1)) is_int) (nomark _)) (is_and1 (is_tru (is_callH h_a_goes_on c.toCal (by decide) (by rfl) (is_cons (is_ix (is_var (pv 0)) (is_var (pv 4)) (fun _ _ => rfl)) is_nil) (mCons_len (fun _ _ _ _ h => mNil_len h))) (fun _ => rfl)))))) (is_last (is_set (i := 4) c.nod rfl (.inl rfl) (is_bin op_add' (is_var (pv 4)) is_int))))
  (is_last (is_ret (is_sl (is_var (pv 0)) (is_os (is_var (pv 1))) (is_os (is_var (pv 4))))))))))))
theorem ok_a_close (D0 : Def K mg "_a_close" s_a_close ["text", "at", "above"]) (T : Txt P w K mg base C_NotUsable C_InvalidText)  : Has P w K mg base 1 "_a_close" ["text", "at", "above"] m_a_close :=
  D0.has sc_a_close fun f cdv A outer s H E c => (is_seq (is_while c.po (IsW.t (is_and (is_tru (is_var (pv 2)) (fun _ => rfl)) (is_and1 (is_tcmp op_eq' (is_sl (is_var (pv 0)) (is_os (is_var (pv 1))) (is_os (is_bin op_add' (is_var (pv 1)) is_int))) is_str (nomark _))))) (is_seq (is_expr (is_m0 m_pop F.plainAttrs_list F.slot_list_pop F.type_list_pop (is_var (pv 2))))
  (is_last (is_set (i := 1) c.nod rfl (.inl rfl) (is_bin op_add' (is_var (pv 1)) is_int)))))
  (is_last (is_ret (is_var (pv 1)))))
theorem ok_a_read (D0 : Def K mg "_a_read" s_a_read ["text", "holes"]) (T : Txt P w K mg base C_NotUsable C_InvalidText) (h_a_close : Has P w K mg base 1 "_a_close" ["text", "at", "above"] m_a_close) (h_a_word_at : Has P w K mg base 3 "_a_word_at" ["text", "at", "holes"] m_a_word_at) : Has P w K mg base 4 "_a_read" ["text", "holes"] m_a_read :=
  D0.has sc_a_read fun f cdv A outer s H E c => (is_seq (is_if (is_not (is_tru (is_fn c_isi (by rfl) T.z_isinstance b_isinstance (is_cons (is_var (pv 0)) (is_cons (is_tyv (T := "str") (by rfl) T.z_str b_str) is_nil))) (fun _ => rfl)))
  (is_last (is_raiseH T.e_NotUsable c (by decide) (by rfl) (is_cons is_str (is_cons (is_neg is_int) is_nil))))
  is_bnil)
  (is_seq (is_par3 (i := 2) (j := 3) (l := 4) c.calm c.nod rfl rfl rfl (by decide) (by decide) (by decide) rfl rfl rfl (is_cons (is_lst is_nil) (is_cons (is_lst is_nil) (is_cons (is_lst is_nil) is_nil))) (by rfl))
  (is_seq (is_asg (own := [0, 1, 2, 3, 4, 5, 6, 7]) (is_tup (is_cons is_int (is_cons is_bl is_nil))) (is_gTup c.calm (is_gsCons (is_gN (i := 5) (by decide) c.nod rfl (.inl rfl)) (is_gsCons (is_gN (i := 6) (by decide) c.nod rfl (.inl rfl)) is_gsNil)) (gsCons_len (gsCons_len (fun _ _ _ h => gsNil_len h)))))
  (is_seq (is_while c.po (is_not (is_tru (is_var (pv 6)) (fun _ => rfl))) (is_seq (is_set (i := 7) c.nod rfl (.inl rfl) (is_callH h_a_word_at c.toCal (by decide) (by rfl) (is_cons (is_var (pv 0)) (is_cons (is_var (pv 5)) (is_cons (is_var (pv 1)) is_nil))) (mCons_len (mCons_len (mCons_len (fun _ _ _ _ h => mNil_len h))))))
  (is_seq (is_set (i := 5) c.nod rfl (.inl rfl) (is_bin op_add' (is_var (pv 5)) (is_fn c_len (by rfl) T.z_len b_len (is_cons (is_var (pv 7)) is_nil))))
  (is_seq (is_if (is_tru (is_var (pv 4)) (fun _ => rfl))
  (is_last (is_setIx (is_bin op_add' (is_ix (is_var (pv 3)) (is_ix (is_var (pv 4)) (is_neg is_int) (fun _ _ => rfl)) (fun _ _ => rfl)) is_int) (is_var (pv 3)) (is_ix (is_var (pv 4)) (is_neg is_int) (fun _ _ => rfl))))
  is_bnil)
  (is_seq (is_expr (is_m m_append F.plainAttrs_list F.slot_list_append F.type_list_append (is_var (pv 2)) (is_cons (is_var (pv 7)) is_nil)))
  (is_seq (is_expr (is_m m_append F.plainAttrs_list F.slot_list_append F.type_list_append (is_var (pv 3)) (is_cons is_int is_nil)))
  (is_last (is_if (IsW.t (is_and (is_tcmp op_eq' (is_sl (is_var (pv 0)) (is_os (is_var (pv 5))) (is_os (is_bin op_add' (is_var (pv 5)) is_int))) is_str (nomark _)) (is_and (is_tcmp op_ne' (is_var (pv 7)) is_str (nomark _)) (is_and1 (is_tcmp op_ne' (is_var (pv 7)) is_str (nomark _))))))
  (is_seq (is_expr (is_m m_append F.plainAttrs_list F.slot_list_append F.type_list_append (is_var (pv 4)) (is_cons (is_bin op_sub' (is_fn c_len (by rfl) T.z_len b_len (is_cons (is_var (pv 2)) is_nil)) is_int) is_nil)))
  (is_last (is_set (i := 5) c.nod rfl (.inl rfl) (is_bin op_add' (is_var (pv 5)) is_int))))
  (is_seq (is_set (i := 5) c.nod rfl (.inl rfl) (is_callH h_a_close c.toCal (by decide) (by rfl) (is_cons (is_var (pv 0)) (is_cons (is_var (pv 5)) (is_cons (is_var (pv 4)) is_nil))) (mCons_len (mCons_len (mCons_len (fun _ _ _ _ h => mNil_len h))))))
  (is_seq (is_set (i := 6) c.nod rfl (.inl rfl) (is_notV (is_var (pv 4))))
  (is_last (is_if (is_not (is_tru (is_var (pv 6)) (fun _ => rfl)))
  (is_seq (is_if (IsW.t (is_or (is_tcmp op_ne' (is_sl (is_var (pv 0)) (is_os (is_var (pv 5))) (is_os (is_bin op_add' (is_var (pv 5)) is_int))) is_str (nomark _)) (is_or1 (is_tcmp op_eq' (is_ix (is_var (pv 3)) (is_ix (is_var (pv 4)) (is_neg is_int) (fun _ _ => rfl)) (fun _ _ => rfl)) is_int (nomark _)))))
  (is_last (is_raiseH T.e_InvalidText c (by decide) (by rfl) (is_cons is_int (is_cons (is_var (pv 5)) is_nil))))
  is_bnil)
  (is_last (is_set (i := 5) c.nod rfl (.inl rfl) (is_bin op_add' (is_var (pv 5)) is_int))))
  is_bnil))))))))))))
  (is_seq (is_if (is_tcmp op_lt' (is_var (pv 5)) (is_fn c_len (by rfl) T.z_len b_len (is_cons (is_var (pv 0)) is_nil)) (nomark _))
  (is_last (is_raiseH T.e_InvalidText c (by decide) (by rfl) (is_cons is_int (is_cons (is_var (pv 5)) is_nil))))
  is_bnil)
  (is_last (is_ret (is_ty c_tuple (by rfl) T.z_tuple b_tuple (is_cons (is_listZip c.calm (by rfl) (by rfl) T.z_list T.z_zip (is_cons (is_var (pv 2)) (is_cons (is_var (pv 3)) is_nil))) is_nil)))))))))
theorem ok_read_tree (D0 : Def K mg "read_tree" s_read_tree ["text"]) (T : Txt P w K mg base C_NotUsable C_InvalidText) (h_a_read : Has P w K mg base 4 "_a_read" ["text", "holes"] m_a_read) : Has P w K mg base 5 "read_tree" ["text"] m_read_tree :=
  D0.has sc_read_tree fun f cdv A outer s H E c => (is_last (is_ret (is_callH h_a_read c.toCal (by decide) (by rfl) (is_cons (is_var (pv 0)) (is_cons is_bl is_nil)) (mCons_len (mCons_len (fun _ _ _ _ h => mNil_len h))))))
theorem ok_lines_of (D0 : Def K mg "lines_of" s_lines_of ["text"]) (T : Txt P w K mg base C_NotUsable C_InvalidText)  : Has P w K mg base 1 "lines_of" ["text"] m_lines_of :=
  D0.has sc_lines_of fun f cdv A outer s H E c => (is_seq (is_if (is_tcmp op_eq' (is_var (pv 0)) is_str (nomark _))
  (is_last (is_ret (is_lst is_nil)))
  is_bnil)
  (is_last (is_ret (is_m m_split F.plainAttrs_str F.slot_str_split F.type_str_split (is_var (pv 0)) (is_cons is_str is_nil)))))
theorem ok_number_in (D0 : Def K mg "number_in" s_number_in ["field"]) (T : Txt P w K mg base C_NotUsable C_InvalidText)  : Has P w K mg base 1 "number_in" ["field"] m_number_in :=
  D0.has sc_number_in fun f cdv A outer s H E c => (is_seq (is_if (IsW.t (is_or (is_not (is_tru (is_m0 m_isdigit F.plainAttrs_str F.slot_str_isdigit F.type_str_isdigit (is_var (pv 0))) (fun _ => rfl))) (is_or1 (is_tcmp op_gt' (is_fn c_len (by rfl) T.z_len b_len (is_cons (is_var (pv 0)) is_nil)) (is_kst T.k_MOST_FIGURES (by rfl)) (nomark _)))))
  (is_last (is_ret is_non))
  is_bnil)
  (is_seq (is_if (IsW.t (is_and (is_tcmp op_eq' (is_ix (is_var (pv 0)) is_int (fun _ _ => rfl)) is_str (nomark _)) (is_and1 (is_tcmp op_ne' (is_var (pv 0)) is_str (nomark _)))))
  (is_last (is_ret is_non))
  is_bnil)
  (is_last (is_ret (is_ty c_int (by rfl) T.z_int b_int (is_cons (is_var (pv 0)) is_nil))))))
theorem ok_tree_in (D0 : Def K mg "tree_in" s_tree_in ["field"]) (T : Txt P w K mg base C_NotUsable C_InvalidText) (h_read_tree : Has P w K mg base 5 "read_tree" ["text"] m_read_tree) : Has P w K mg base 6 "tree_in" ["field"] m_tree_in :=
  D0.has sc_tree_in fun f cdv A outer s H E c => (is_last (is_try c (fun W' pn xe c' => (is_last (is_ret (is_callH h_read_tree c'.toCal (by decide) (by rfl) (is_cons (is_var (pv 0)) is_nil) (mCons_len (fun _ _ _ _ h => mNil_len h)))))) (.bare (C := C_InvalidText) rfl (by decide) T.e_InvalidText.mg (T.x_InvalidText) (fun a oe dd pn gs fs hz hv => (is_last (is_ret is_non))) .nil)))
theorem ok_entries_in (D0 : Def K mg "entries_in" s_entries_in ["fields", "sorts", "line"]) (T : Txt P w K mg base C_NotUsable C_InvalidText) (h_number_in : Has P w K mg base 1 "number_in" ["field"] m_number_in) (h_tree_in : Has P w K mg base 6 "tree_in" ["field"] m_tree_in) : Has P w K mg base 7 "entries_in" ["fields", "sorts", "line"] m_entries_in :=
  D0.has sc_entries_in fun f cdv A outer s H E c => (is_seq (is_set (i := 3) c.nod rfl (.inl rfl) (is_lst is_nil))
  (is_seq (is_for (own := [0, 1, 2, 3, 4, 5, 6, 7]) c.po c.calm (is_enumA c.calm (by rfl) T.z_enumerate (is_cons (is_var (pv 1)) is_nil)) (is_gTup c.calm (is_gsCons (is_gN (i := 4) (by decide) c.nod rfl (.inl rfl)) (is_gsCons (is_gN (i := 5) (by decide) c.nod rfl (.inl rfl)) is_gsNil)) (gsCons_len (gsCons_len (fun _ _ _ h => gsNil_len h)))) (is_seq (is_set (i := 6) c.nod rfl (.inl rfl) (is_bin op_add' (is_var (pv 4)) is_int))
  (is_seq (is_if (is_tcmp op_eq' (is_var (pv 6)) (is_fn c_len (by rfl) T.z_len b_len (is_cons (is_var (pv 0)) is_nil)) (nomark _))
  (is_last (is_raiseH T.e_InvalidText c (by decide) (by rfl) (is_cons (is_var (pv 2)) (is_cons (is_var (pv 6)) is_nil))))
  is_bnil)
  (is_seq (is_set (i := 7) c.nod rfl (.inl rfl) (is_ifE (is_tcmp op_eq' (is_var (pv 5)) is_str (nomark _)) (is_callH h_tree_in c.toCal (by decide) (by rfl) (is_cons (is_ix (is_var (pv 0)) (is_var (pv 6)) (fun _ _ => rfl)) is_nil) (mCons_len (fun _ _ _ _ h => mNil_len h))) (is_callH h_number_in c.toCal (by decide) (by rfl) (is_cons (is_ix (is_var (pv 0)) (is_var (pv 6)) (fun _ _ => rfl)) is_nil) (mCons_len (fun _ _ _ _ h => mNil_len h)))))
  (is_seq (is_if (is_tcmp op_isN' (is_var (pv 7)) is_non (nomark _))
  (is_last (is_raiseH T.e_InvalidText c (by decide) (by rfl) (is_cons (is_var (pv 2)) (is_cons (is_var (pv 6)) is_nil))))
  is_bnil)
  (is_last (is_expr (is_m m_append F.plainAttrs_list F.slot_list_append F.type_list_append (is_var (pv 3)) (is_cons (is_var (pv 7)) is_nil)))))))))
  (is_seq (is_if (is_tcmp op_gt' (is_fn c_len (by rfl) T.z_len b_len (is_cons (is_var (pv 0)) is_nil)) (is_bin op_add' (is_fn c_len (by rfl) T.z_len b_len (is_cons (is_var (pv 1)) is_nil)) is_int) (nomark _))
  (is_last (is_raiseH T.e_InvalidText c (by decide) (by rfl) (is_cons (is_var (pv 2)) (is_cons (is_bin op_add' (is_fn c_len (by rfl) T.z_len b_len (is_cons (is_var (pv 1)) is_nil)) is_int) is_nil))))
  is_bnil)
  (is_last (is_ret (is_ty c_tuple (by rfl) T.z_tuple b_tuple (is_cons (is_var (pv 3)) is_nil)))))))
theorem ok_chain_entry (D0 : Def K mg "_chain_entry" s_chain_entry ["fields", "line"]) (T : Txt P w K mg base C_NotUsable C_InvalidText) (h_entries_in : Has P w K mg base 7 "entries_in" ["fields", "sorts", "line"] m_entries_in) : Has P w K mg base 8 "_chain_entry" ["fields", "line"] m_chain_entry :=
  D0.has sc_chain_entry fun f cdv A outer s H E c => (is_seq (is_if (is_tcmp op_eq' (is_ix (is_var (pv 0)) is_int (fun _ _ => rfl)) is_str (nomark _))
  (is_last (is_ret (is_bin op_add' (is_tup (is_cons is_str is_nil)) (is_callH h_entries_in c.toCal (by decide) (by rfl) (is_cons (is_var (pv 0)) (is_cons (is_tup (is_cons is_str is_nil)) (is_cons (is_var (pv 1)) is_nil))) (mCons_len (mCons_len (mCons_len (fun _ _ _ _ h => mNil_len h))))))))
  is_bnil)
  (is_seq (is_if (is_tcmp op_eq' (is_ix (is_var (pv 0)) is_int (fun _ _ => rfl)) is_str (nomark _))
  (is_last (is_ret (is_bin op_add' (is_tup (is_cons is_str is_nil)) (is_callH h_entries_in c.toCal (by decide) (by rfl) (is_cons (is_var (pv 0)) (is_cons (is_kst T.k_PUT_SORTS (by rfl)) (is_cons (is_var (pv 1)) is_nil))) (mCons_len (mCons_len (mCons_len (fun _ _ _ _ h => mNil_len h))))))))
  is_bnil)
  (is_last (is_raiseH T.e_InvalidText c (by decide) (by rfl) (is_cons (is_var (pv 1)) (is_cons is_int is_nil))))))
theorem ok_read_chain (D0 : Def K mg "read_chain" s_read_chain ["text"]) (T : Txt P w K mg base C_NotUsable C_InvalidText) (h_chain_entry : Has P w K mg base 8 "_chain_entry" ["fields", "line"] m_chain_entry) (h_lines_of : Has P w K mg base 1 "lines_of" ["text"] m_lines_of) : Has P w K mg base 9 "read_chain" ["text"] m_read_chain :=
  D0.has sc_read_chain fun f cdv A outer s H E c => (is_seq (is_if (is_not (is_tru (is_fn c_isi (by rfl) T.z_isinstance b_isinstance (is_cons (is_var (pv 0)) (is_cons (is_tyv (T := "str") (by rfl) T.z_str b_str) is_nil))) (fun _ => rfl)))
  (is_last (is_raiseH T.e_NotUsable c (by decide) (by rfl) (is_cons is_str (is_cons (is_neg is_int) is_nil))))
  is_bnil)
  (is_seq (is_set (i := 1) c.nod rfl (.inl rfl) (is_lst is_nil))
  (is_seq (is_for (own := [0, 1, 2, 3]) c.po c.calm (is_enumA c.calm (by rfl) T.z_enumerate (is_cons (is_callH h_lines_of c.toCal (by decide) (by rfl) (is_cons (is_var (pv 0)) is_nil) (mCons_len (fun _ _ _ _ h => mNil_len h))) is_nil)) (is_gTup c.calm (is_gsCons (is_gN (i := 2) (by decide) c.nod rfl (.inl rfl)) (is_gsCons (is_gN (i := 3) (by decide) c.nod rfl (.inl rfl)) is_gsNil)) (gsCons_len (gsCons_len (fun _ _ _ h => gsNil_len h)))) (is_last (is_expr (is_m m_append F.plainAttrs_list F.slot_list_append F.type_list_append (is_var (pv 1)) (is_cons (is_callH h_chain_entry c.toCal (by decide) (by rfl) (is_cons (is_m m_split F.plainAttrs_str F.slot_str_split F.type_str_split (is_var (pv 3)) (is_cons is_str is_nil)) (is_cons (is_var (pv 2)) is_nil)) (mCons_len (mCons_len (fun _ _ _ _ h => mNil_len h)))) is_nil)))))
  (is_last (is_ret (is_ty c_tuple (by rfl) T.z_tuple b_tuple (is_cons (is_var (pv 1)) is_nil)))))))
theorem ok_join_entry (D0 : Def K mg "_join_entry" s_join_entry ["fields", "line"]) (T : Txt P w K mg base C_NotUsable C_InvalidText) (h_entries_in : Has P w K mg base 7 "entries_in" ["fields", "sorts", "line"] m_entries_in) : Has P w K mg base 8 "_join_entry" ["fields", "line"] m_join_entry :=
  D0.has sc_join_entry fun f cdv A outer s H E c => (is_seq (is_set (i := 2) c.nod rfl (.inl rfl) (is_ix (is_var (pv 0)) is_int (fun _ _ => rfl)))
  (is_seq (is_if (is_tcmp op_eq' (is_var (pv 2)) is_str (nomark _))
  (is_seq (is_asg (own := [0, 1, 2, 3, 4, 5]) (is_callH h_entries_in c.toCal (by decide) (by rfl) (is_cons (is_var (pv 0)) (is_cons (is_tup (is_cons is_str (is_cons is_str (is_cons is_str is_nil)))) (is_cons (is_var (pv 1)) is_nil))) (mCons_len (mCons_len (mCons_len (fun _ _ _ _ h => mNil_len h))))) (is_gTup c.calm (is_gsCons (is_gN (i := 3) (by decide) c.nod rfl (.inl rfl)) (is_gsCons (is_gN (i := 4) (by decide) c.nod rfl (.inl rfl)) (is_gsCons (is_gN (i := 5) (by decide) c.nod rfl (.inl rfl)) is_gsNil))) (gsCons_len (gsCons_len (gsCons_len (fun _ _ _ h => gsNil_len h))))))
  (is_last (is_ret (is_tup (is_cons (is_var (pv 2)) (is_cons (is_var (pv 4)) (is_cons (is_var (pv 5)) (is_cons (is_var (pv 3)) is_nil))))))))
  is_bnil)
  (is_seq (is_if (IsW.t (is_or (is_tcmp op_eq' (is_var (pv 2)) is_str (nomark _)) (is_or1 (is_tcmp op_eq' (is_var (pv 2)) is_str (nomark _)))))
  (is_seq (is_asg (own := [0, 1, 2, 3, 4, 5]) (is_callH h_entries_in c.toCal (by decide) (by rfl) (is_cons (is_var (pv 0)) (is_cons (is_tup (is_cons is_str (is_cons is_str is_nil))) (is_cons (is_var (pv 1)) is_nil))) (mCons_len (mCons_len (mCons_len (fun _ _ _ _ h => mNil_len h))))) (is_gTup c.calm (is_gsCons (is_gN (i := 4) (by decide) c.nod rfl (.inl rfl)) (is_gsCons (is_gN (i := 5) (by decide) c.nod rfl (.inl rfl)) is_gsNil)) (gsCons_len (gsCons_len (fun _ _ _ h => gsNil_len h)))))
  (is_last (is_ret (is_tup (is_cons (is_var (pv 2)) (is_cons (is_var (pv 4)) (is_cons (is_var (pv 5)) (is_cons is_int is_nil))))))))
  is_bnil)
  (is_last (is_raiseH T.e_InvalidText c (by decide) (by rfl) (is_cons (is_var (pv 1)) (is_cons is_int is_nil)))))))
theorem ok_read_joins (D0 : Def K mg "read_joins" s_read_joins ["text"]) (T : Txt P w K mg base C_NotUsable C_InvalidText) (h_join_entry : Has P w K mg base 8 "_join_entry" ["fields", "line"] m_join_entry) (h_lines_of : Has P w K mg base 1 "lines_of" ["text"] m_lines_of) : Has P w K mg base 9 "read_joins" ["text"] m_read_joins :=
  D0.has sc_read_joins fun f cdv A outer s H E c => (is_seq (is_if (is_not (is_tru (is_fn c_isi (by rfl) T.z_isinstance b_isinstance (is_cons (is_var (pv 0)) (is_cons (is_tyv (T := "str") (by rfl) T.z_str b_str) is_nil))) (fun _ => rfl)))
  (is_last (is_raiseH T.e_NotUsable c (by decide) (by rfl) (is_cons is_str (is_cons (is_neg is_int) is_nil))))
  is_bnil)
  (is_seq (is_set (i := 1) c.nod rfl (.inl rfl) (is_lst is_nil))
  (is_seq (is_for (own := [0, 1, 2, 3]) c.po c.calm (is_enumA c.calm (by rfl) T.z_enumerate (is_cons (is_callH h_lines_of c.toCal (by decide) (by rfl) (is_cons (is_var (pv 0)) is_nil) (mCons_len (fun _ _ _ _ h => mNil_len h))) is_nil)) (is_gTup c.calm (is_gsCons (is_gN (i := 2) (by decide) c.nod rfl (.inl rfl)) (is_gsCons (is_gN (i := 3) (by decide) c.nod rfl (.inl rfl)) is_gsNil)) (gsCons_len (gsCons_len (fun _ _ _ h => gsNil_len h)))) (is_last (is_expr (is_m m_append F.plainAttrs_list F.slot_list_append F.type_list_append (is_var (pv 1)) (is_cons (is_callH h_join_entry c.toCal (by decide) (by rfl) (is_cons (is_m m_split F.plainAttrs_str F.slot_str_split F.type_str_split (is_var (pv 3)) (is_cons is_str is_nil)) (is_cons (is_var (pv 2)) is_nil)) (mCons_len (mCons_len (fun _ _ _ _ h => mNil_len h)))) is_nil)))))
  (is_last (is_ret (is_ty c_tuple (by rfl) T.z_tuple b_tuple (is_cons (is_var (pv 1)) is_nil)))))))
theorem ok_shown (D0 : Def K mg "shown" s_shown ["tree"]) (T : Txt P w K mg base C_NotUsable C_InvalidText)  : Has P w K mg base 1 "shown" ["tree"] m_shown :=
  D0.has sc_shown fun f cdv A outer s H E c => (is_seq (is_set (i := 1) c.nod rfl (.inl rfl) (is_lst is_nil))
  (is_seq (is_for (own := [0, 1, 2, 3, 4, 5, 6]) c.po c.calm (is_rev (by rfl) T.z_reversed (is_var (pv 0))) (is_gTup c.calm (is_gsCons (is_gN (i := 2) (by decide) c.nod rfl (.inl rfl)) (is_gsCons (is_gN (i := 3) (by decide) c.nod rfl (.inl rfl)) is_gsNil)) (gsCons_len (gsCons_len (fun _ _ _ h => gsNil_len h)))) (is_seq (is_set (i := 4) c.nod rfl (.inl rfl) (is_lst is_nil))
  (is_seq (is_for (own := [0, 1, 2, 3, 4, 5, 6]) c.po c.calm (is_rng1 (by rfl) T.z_range (is_cons (is_var (pv 3)) is_nil)) (is_gN (i := 5) (by decide) c.nod rfl (.inl rfl)) (is_last (is_expr (is_m m_append F.plainAttrs_list F.slot_list_append F.type_list_append (is_var (pv 4)) (is_cons (is_m0 m_pop F.plainAttrs_list F.slot_list_pop F.type_list_pop (is_var (pv 1))) is_nil)))))
  (is_seq (is_set (i := 6) c.nod rfl (.inl rfl) (is_m m_join F.plainAttrs_str F.slot_str_join F.type_str_join is_str (is_cons (is_var (pv 4)) is_nil)))
  (is_last (is_expr (is_m m_append F.plainAttrs_list F.slot_list_append F.type_list_append (is_var (pv 1)) (is_cons (is_ifE (is_tcmp op_gt' (is_var (pv 3)) is_int (nomark _)) (is_joined (.cons (is_fmt (is_var (pv 2))) (.cons is_str (.cons (is_fmt (is_var (pv 6))) (.cons is_str IsJ.nil))))) (is_var (pv 2))) is_nil))))))))
  (is_last (is_ret (is_ix (is_var (pv 1)) is_int (fun _ _ => rfl))))))
theorem ok_chain_line (D0 : Def K mg "_chain_line" s_chain_line ["entry"]) (T : Txt P w K mg base C_NotUsable C_InvalidText) (h_shown : Has P w K mg base 1 "shown" ["tree"] m_shown) : Has P w K mg base 2 "_chain_line" ["entry"] m_chain_line :=
  D0.has sc_chain_line fun f cdv A outer s H E c => (is_seq (is_if (is_tcmp op_eq' (is_ix (is_var (pv 0)) is_int (fun _ _ => rfl)) is_str (nomark _))
  (is_last (is_ret (is_bin op_add' is_str (is_callH h_shown c.toCal (by decide) (by rfl) (is_cons (is_ix (is_var (pv 0)) is_int (fun _ _ => rfl)) is_nil) (mCons_len (fun _ _ _ _ h => mNil_len h))))))
  is_bnil)
  (is_last (is_ret (is_m m_join F.plainAttrs_str F.slot_str_join F.type_str_join is_str (is_cons (is_lc c.calm c.nod [("field", 1)] (blkOk_by (own := [("field", 1)]) (N := N_chain_line) (sc := defScope s_chain_line) (by decide +kernel)) (is_iVal (is_var (pv 0))) (fun bs bH bC bcl bfp => (is_gN (i := 1) (by decide) (Cal.blk c.toCal _ bs bH bC bcl bfp).nod rfl (.inl rfl))) (fun bs bH bC bcl bfp => is_ts0) (fun bs bH bC bcl bfp => (is_ty c_str (by rfl) T.z_str b_str (is_cons (is_var (pv 1)) is_nil)))) is_nil)))))
theorem ok_chain_text (D0 : Def K mg "chain_text" s_chain_text ["chain"]) (T : Txt P w K mg base C_NotUsable C_InvalidText) (h_chain_line : Has P w K mg base 2 "_chain_line" ["entry"] m_chain_line) : Has P w K mg base 3 "chain_text" ["chain"] m_chain_text :=
  D0.has sc_chain_text fun f cdv A outer s H E c => (is_last (is_ret (is_m m_join F.plainAttrs_str F.slot_str_join F.type_str_join is_str (is_cons (is_lc c.calm c.nod [("entry", 1)] (blkOk_by (own := [("entry", 1)]) (N := N_chain_text) (sc := defScope s_chain_text) (by decide +kernel)) (is_iVal (is_var (pv 0))) (fun bs bH bC bcl bfp => (is_gN (i := 1) (by decide) (Cal.blk c.toCal _ bs bH bC bcl bfp).nod rfl (.inl rfl))) (fun bs bH bC bcl bfp => is_ts0) (fun bs bH bC bcl bfp => (is_callH h_chain_line (Cal.blk c.toCal _ bs bH bC bcl bfp) (by decide) (by rfl) (is_cons (is_var (pv 1)) is_nil) (mCons_len (fun _ _ _ _ h => mNil_len h))))) is_nil))))
theorem ok_join_line (D0 : Def K mg "_join_line" s_join_line ["join"]) (T : Txt P w K mg base C_NotUsable C_InvalidText) (h_shown : Has P w K mg base 1 "shown" ["tree"] m_shown) : Has P w K mg base 2 "_join_line" ["join"] m_join_line :=
  D0.has sc_join_line fun f cdv A outer s H E c => (is_seq (is_asg (own := [0, 1, 2, 3, 4, 5]) (is_var (pv 0)) (is_gTup c.calm (is_gsCons (is_gN (i := 1) (by decide) c.nod rfl (.inl rfl)) (is_gsCons (is_gN (i := 2) (by decide) c.nod rfl (.inl rfl)) (is_gsCons (is_gN (i := 3) (by decide) c.nod rfl (.inl rfl)) (is_gsCons (is_gN (i := 4) (by decide) c.nod rfl (.inl rfl)) is_gsNil)))) (gsCons_len (gsCons_len (gsCons_len (gsCons_len (fun _ _ _ h => gsNil_len h)))))))
  (is_seq (is_set (i := 5) c.nod rfl (.inl rfl) (is_lst (is_cons (is_var (pv 1)) is_nil)))
  (is_seq (is_if (is_tcmp op_eq' (is_var (pv 1)) is_str (nomark _))
  (is_last (is_expr (is_m m_append F.plainAttrs_list F.slot_list_append F.type_list_append (is_var (pv 5)) (is_cons (is_ty c_str (by rfl) T.z_str b_str (is_cons (is_var (pv 4)) is_nil)) is_nil))))
  is_bnil)
  (is_seq (is_expr (is_m m_append F.plainAttrs_list F.slot_list_append F.type_list_append (is_var (pv 5)) (is_cons (is_callH h_shown c.toCal (by decide) (by rfl) (is_cons (is_var (pv 2)) is_nil) (mCons_len (fun _ _ _ _ h => mNil_len h))) is_nil)))
  (is_seq (is_expr (is_m m_append F.plainAttrs_list F.slot_list_append F.type_list_append (is_var (pv 5)) (is_cons (is_callH h_shown c.toCal (by decide) (by rfl) (is_cons (is_var (pv 3)) is_nil) (mCons_len (fun _ _ _ _ h => mNil_len h))) is_nil)))
  (is_last (is_ret (is_m m_join F.plainAttrs_str F.slot_str_join F.type_str_join is_str (is_cons (is_var (pv 5)) is_nil)))))))))
theorem ok_joins_text (D0 : Def K mg "joins_text" s_joins_text ["joins"]) (T : Txt P w K mg base C_NotUsable C_InvalidText) (h_join_line : Has P w K mg base 2 "_join_line" ["join"] m_join_line) : Has P w K mg base 3 "joins_text" ["joins"] m_joins_text :=
  D0.has sc_joins_text fun f cdv A outer s H E c => (is_last (is_ret (is_m m_join F.plainAttrs_str F.slot_str_join F.type_str_join is_str (is_cons (is_lc c.calm c.nod [("join", 1)] (blkOk_by (own := [("join", 1)]) (N := N_joins_text) (sc := defScope s_joins_text) (by decide +kernel)) (is_iVal (is_var (pv 0))) (fun bs bH bC bcl bfp => (is_gN (i := 1) (by decide) (Cal.blk c.toCal _ bs bH bC bcl bfp).nod rfl (.inl rfl))) (fun bs bH bC bcl bfp => is_ts0) (fun bs bH bC bcl bfp => (is_callH h_join_line (Cal.blk c.toCal _ bs bH bC bcl bfp) (by decide) (by rfl) (is_cons (is_var (pv 1)) is_nil) (mCons_len (fun _ _ _ _ h => mNil_len h))))) is_nil))))
theorem ok_law_tape (D0 : Def K mg "_law_tape" s_law_tape ["_law_script"]) (T : Txt P w K mg base C_NotUsable C_InvalidText)  : Has P w K mg base 1 "_law_tape" ["_law_script"] m_law_tape :=
  D0.has sc_law_tape fun f cdv A outer s H E c => (is_last (is_ret (is_lst (is_cons is_int (is_cons is_int (is_cons is_int (is_cons (is_ty c_list (by rfl) T.z_list b_list (is_cons (is_var (pv 0)) is_nil)) is_nil)))))))
theorem ok_law_draw (D0 : Def K mg "_law_draw" s_law_draw ["_law_tape_here", "_law_many"]) (T : Txt P w K mg base C_NotUsable C_InvalidText)  : Has P w K mg base 1 "_law_draw" ["_law_tape_here", "_law_many"] m_law_draw :=
  D0.has sc_law_draw fun f cdv A outer s H E c => (is_seq (is_if (IsW.t (is_and (is_tcmp op_lt' (is_ix (is_var (pv 0)) is_int (fun _ _ => rfl)) is_int (nomark _)) (is_and1 (is_tcmp op_lt' (is_ix (is_var (pv 0)) is_int (fun _ _ => rfl)) (is_fn c_len (by rfl) T.z_len b_len (is_cons (is_ix (is_var (pv 0)) is_int (fun _ _ => rfl)) is_nil)) (nomark _)))))
  (is_seq (is_set (i := 2) c.nod rfl (.inl rfl) (is_bin op_mulA' is_int (is_ix (is_ix (is_var (pv 0)) is_int (fun _ _ => rfl)) (is_ix (is_var (pv 0)) is_int (fun _ _ => rfl)) (fun _ _ => rfl))))
  (is_seq (is_setIx (is_bin op_add' (is_ix (is_var (pv 0)) is_int (fun _ _ => rfl)) is_int) (is_var (pv 0)) is_int)
  (is_seq (is_if (is_tcmp op_lt' (is_var (pv 2)) is_int (nomark _))
  (is_last (is_set (i := 2) c.nod rfl (.inl rfl) (is_bin op_sub' (is_bin op_sub' is_int (is_var (pv 2))) is_int)))
  is_bnil)
  (is_seq (is_if (is_tcmp op_ge' (is_var (pv 2)) is_int (nomark _))
  (is_last (is_setIx (is_var (pv 2)) (is_var (pv 0)) is_int))
  is_bnil)
  (is_last (is_setIx (is_bin op_mod' (is_ty c_int (by rfl) T.z_int b_int (is_cons (is_bin op_add' (is_bin op_mulA' (is_ix (is_var (pv 0)) is_int (fun _ _ => rfl)) is_int) (is_var (pv 2))) is_nil)) is_int) (is_var (pv 0)) is_int))))))
  is_bnil)
  (is_seq (is_if (is_tcmp op_gt' (is_ix (is_var (pv 0)) is_int (fun _ _ => rfl)) is_int (nomark _))
  (is_seq (is_set (i := 3) c.nod rfl (.inl rfl) (is_bin op_mod' (is_ty c_int (by rfl) T.z_int b_int (is_cons (is_ix (is_var (pv 0)) is_int (fun _ _ => rfl)) is_nil)) (is_var (pv 1))))
  (is_seq (is_setIx (is_bin op_div' (is_ix (is_var (pv 0)) is_int (fun _ _ => rfl)) (is_var (pv 1))) (is_var (pv 0)) is_int)
  (is_last (is_ret (is_var (pv 3))))))
  is_bnil)
  (is_seq (is_setIx (is_bin op_mod' (is_ty c_int (by rfl) T.z_int b_int (is_cons (is_bin op_add' (is_bin op_mulA' (is_ix (is_var (pv 0)) is_int (fun _ _ => rfl)) is_int) is_int) is_nil)) is_int) (is_var (pv 0)) is_int)
  (is_last (is_ret (is_bin op_mod' (is_ty c_int (by rfl) T.z_int b_int (is_cons (is_bin op_div' (is_ix (is_var (pv 0)) is_int (fun _ _ => rfl)) is_int) is_nil)) (is_var (pv 1))))))))
theorem ok_law_words (D0 : Def K mg "_law_words" s_law_words ["_law_tape_here"]) (T : Txt P w K mg base C_NotUsable C_InvalidText) (h_law_draw : Has P w K mg base 1 "_law_draw" ["_law_tape_here", "_law_many"] m_law_draw) : Has P w K mg base 2 "_law_words" ["_law_tape_here"] m_law_words :=
  D0.has sc_law_words fun f cdv A outer s H E c => (is_seq (is_set (i := 1) c.nod rfl (.inl rfl) (is_callH h_law_draw c.toCal (by decide) (by rfl) (is_cons (is_var (pv 0)) (is_cons is_int is_nil)) (mCons_len (mCons_len (fun _ _ _ _ h => mNil_len h)))))
  (is_seq (is_set (i := 2) c.nod rfl (.inr rfl) is_str)
  (is_seq (is_set (i := 3) c.nod rfl (.inr rfl) (is_callH h_law_draw c.toCal (by decide) (by rfl) (is_cons (is_var (pv 0)) (is_cons is_int is_nil)) (mCons_len (mCons_len (fun _ _ _ _ h => mNil_len h)))))
  (is_seq (is_set (i := 4) c.nod rfl (.inl rfl) (is_callH h_law_draw c.toCal (by decide) (by rfl) (is_cons (is_var (pv 0)) (is_cons is_int is_nil)) (mCons_len (mCons_len (fun _ _ _ _ h => mNil_len h)))))
  (is_seq (is_set (i := 5) c.nod rfl (.inl rfl) (is_lst is_nil))
  (is_seq (is_if (is_tcmp op_eq' (is_var (pv 1)) is_int (nomark _))
  (is_last (is_setLc (i := 5) c.calm c.nod rfl rfl (sw_true rfl rfl rfl (by decide +kernel)) [("_law_k", 6)] (blkOk_by (own := [("_law_k", 6)]) (N := N_law_words) (sc := defScope s_law_words) (by decide +kernel)) (is_rng1 (by rfl) T.z_range (is_cons is_int is_nil)) (fun bs bH bC bcl bfp => (is_gN (i := 6) (by decide) (Cal.blk c.toCal _ bs bH bC bcl bfp).nod rfl (.inl rfl))) (fun bs bH bC bcl bfp => is_ts0) (fun bs bH bC bcl bfp => (is_ix (is_var (pv 2)) (is_bin op_mod' (is_bin op_add' (is_var (pv 3)) (is_bin op_mulA' is_int (is_var (pv 6)))) is_int) (fun _ _ => rfl)))))
  is_bnil)
  (is_seq (is_if (is_tcmp op_eq' (is_var (pv 1)) is_int (nomark _))
  (is_seq (is_set (i := 7) c.nod rfl (.inr rfl) (is_ix (is_var (pv 2)) (is_var (pv 3)) (fun _ _ => rfl)))
  (is_seq (is_for (own := [0, 1, 2, 3, 4, 5, 6, 7, 8, 9]) c.po c.calm (is_rng1 (by rfl) T.z_range (is_cons (is_callH h_law_draw c.toCal (by decide) (by rfl) (is_cons (is_var (pv 0)) (is_cons is_int is_nil)) (mCons_len (mCons_len (fun _ _ _ _ h => mNil_len h)))) is_nil)) (is_gN (i := 6) (by decide) c.nod rfl (.inl rfl)) (is_last (is_set (i := 7) c.nod rfl (.inr rfl) (is_bin op_add' (is_var (pv 7)) (is_ix (is_bin op_add' (is_var (pv 2)) is_str) (is_callH h_law_draw c.toCal (by decide) (by rfl) (is_cons (is_var (pv 0)) (is_cons is_int is_nil)) (mCons_len (mCons_len (fun _ _ _ _ h => mNil_len h)))) (fun _ _ => rfl))))))
  (is_seq (is_set (i := 8) c.nod rfl (.inr rfl) (is_bin op_add' is_int (is_callH h_law_draw c.toCal (by decide) (by rfl) (is_cons (is_var (pv 0)) (is_cons (is_fn c_len (by rfl) T.z_len b_len (is_cons (is_var (pv 7)) is_nil)) is_nil)) (mCons_len (mCons_len (fun _ _ _ _ h => mNil_len h))))))
  (is_last (is_setLc (i := 5) c.calm c.nod rfl rfl (sw_true rfl rfl rfl (by decide +kernel)) [("_law_k", 6)] (blkOk_by (own := [("_law_k", 6)]) (N := N_law_words) (sc := defScope s_law_words) (by decide +kernel)) (is_rng1 (by rfl) T.z_range (is_cons is_int is_nil)) (fun bs bH bC bcl bfp => (is_gN (i := 6) (by decide) (Cal.blk c.toCal _ bs bH bC bcl bfp).nod rfl (.inl rfl))) (fun bs bH bC bcl bfp => is_ts0) (fun bs bH bC bcl bfp => (is_bin op_add' (is_bin op_add' (is_sl (is_var (pv 7)) is_on (is_os (is_var (pv 8)))) (is_ix is_str (is_var (pv 6)) (fun _ _ => rfl))) (is_sl (is_var (pv 7)) (is_os (is_var (pv 8))) is_on))))))))
  is_bnil)
  (is_seq (is_if (is_tcmp op_eq' (is_var (pv 1)) is_int (nomark _))
  (is_seq (is_set (i := 9) c.nod rfl (.inr rfl) (is_bin op_add' is_int (is_callH h_law_draw c.toCal (by decide) (by rfl) (is_cons (is_var (pv 0)) (is_cons is_int is_nil)) (mCons_len (mCons_len (fun _ _ _ _ h => mNil_len h))))))
  (is_last (is_setLc (i := 5) c.calm c.nod rfl rfl (sw_true rfl rfl rfl (by decide +kernel)) [("_law_k", 6)] (blkOk_by (own := [("_law_k", 6)]) (N := N_law_words) (sc := defScope s_law_words) (by decide +kernel)) (is_rng1 (by rfl) T.z_range (is_cons is_int is_nil)) (fun bs bH bC bcl bfp => (is_gN (i := 6) (by decide) (Cal.blk c.toCal _ bs bH bC bcl bfp).nod rfl (.inl rfl))) (fun bs bH bC bcl bfp => is_ts0) (fun bs bH bC bcl bfp => (is_bin op_add' (is_ix (is_var (pv 2)) (is_var (pv 3)) (fun _ _ => rfl)) (is_sl (is_bin op_add' is_str (is_sl (is_var (pv 2)) is_on (is_os is_int))) is_on (is_os (is_bin op_mulA' (is_var (pv 9)) (is_var (pv 6))))))))))
  is_bnil)
  (is_seq (is_if (is_tcmp op_eq' (is_var (pv 1)) is_int (nomark _))
  (is_last (is_setLc (i := 5) c.calm c.nod rfl rfl (sw_true rfl rfl rfl (by decide +kernel)) [("_law_k", 6)] (blkOk_by (own := [("_law_k", 6)]) (N := N_law_words) (sc := defScope s_law_words) (by decide +kernel)) (is_rng1 (by rfl) T.z_range (is_cons is_int is_nil)) (fun bs bH bC bcl bfp => (is_gN (i := 6) (by decide) (Cal.blk c.toCal _ bs bH bC bcl bfp).nod rfl (.inl rfl))) (fun bs bH bC bcl bfp => is_ts0) (fun bs bH bC bcl bfp => (is_bin op_add' (is_ix (is_var (pv 2)) (is_bin op_mod' (is_bin op_add' (is_var (pv 3)) (is_bin op_div' (is_var (pv 6)) is_int)) is_int) (fun _ _ => rfl)) (is_ty c_str (by rfl) T.z_str b_str (is_cons (is_var (pv 6)) is_nil))))))
  is_bnil)
  (is_last (is_ret (is_bin op_add' (is_sl (is_var (pv 5)) (is_os (is_var (pv 4))) is_on) (is_sl (is_var (pv 5)) is_on (is_os (is_var (pv 4))))))))))))))))
theorem ok_law_same (D0 : Def K mg "_law_same" s_law_same ["_law_told_here", "_law_due_here"]) (T : Txt P w K mg base C_NotUsable C_InvalidText)  : ∀ n : Nat, Has P w K mg base (1 + n) "_law_same" ["_law_told_here", "_law_due_here"] (m_law_same n)
  | 0 => D0.no sc_law_same
  | n + 1 => D0.has sc_law_same fun f cdv A outer s H E c => by
    have h_law_same := ok_law_same D0 T  n
    exact (is_seq (is_if (is_tcmp op_isN' (is_var (pv 1)) is_non (nomark _))
  (is_last (is_ret (is_cmp op_isN' (is_var (pv 0)) is_non (nomark _))))
  is_bnil)
  (is_seq (is_if (IsW.t (is_or (is_tcmp op_isB' (is_var (pv 1)) is_bl (nomark _)) (is_or1 (is_tcmp op_isB' (is_var (pv 1)) is_bl (nomark _)))))
  (is_last (is_ret (is_andV (is_fn c_isi (by rfl) T.z_isinstance b_isinstance (is_cons (is_var (pv 0)) (is_cons (is_tyv (T := "bool") (by rfl) T.z_bool b_bool) is_nil))) (is_one (is_cmp op_eq' (is_var (pv 0)) (is_var (pv 1)) (nomark _))))))
  is_bnil)
  (is_seq (is_if (is_tru (is_fn c_isi (by rfl) T.z_isinstance b_isinstance (is_cons (is_var (pv 1)) (is_cons (is_tyv (T := "int") (by rfl) T.z_int b_int) is_nil))) (fun _ => rfl))
  (is_last (is_ret (is_andV (is_fn c_isi (by rfl) T.z_isinstance b_isinstance (is_cons (is_var (pv 0)) (is_cons (is_tyv (T := "int") (by rfl) T.z_int b_int) is_nil))) (is_andV (is_notV (is_fn c_isi (by rfl) T.z_isinstance b_isinstance (is_cons (is_var (pv 0)) (is_cons (is_tyv (T := "bool") (by rfl) T.z_bool b_bool) is_nil)))) (is_one (is_cmp op_eq' (is_var (pv 0)) (is_var (pv 1)) (nomark _)))))))
  is_bnil)
  (is_seq (is_if (is_tru (is_fn c_isi (by rfl) T.z_isinstance b_isinstance (is_cons (is_var (pv 1)) (is_cons (is_tyv (T := "str") (by rfl) T.z_str b_str) is_nil))) (fun _ => rfl))
  (is_last (is_ret (is_andV (is_fn c_isi (by rfl) T.z_isinstance b_isinstance (is_cons (is_var (pv 0)) (is_cons (is_tyv (T := "str") (by rfl) T.z_str b_str) is_nil))) (is_one (is_cmp op_eq' (is_var (pv 0)) (is_var (pv 1)) (nomark _))))))
  is_bnil)
  (is_seq (is_if (is_tru (is_fn c_isi (by rfl) T.z_isinstance b_isinstance (is_cons (is_var (pv 1)) (is_cons (is_tyv (T := "tuple") (by rfl) T.z_tuple b_tuple) is_nil))) (fun _ => rfl))
  (is_seq (is_if (IsW.t (is_or (is_not (is_tru (is_fn c_isi (by rfl) T.z_isinstance b_isinstance (is_cons (is_var (pv 0)) (is_cons (is_tyv (T := "tuple") (by rfl) T.z_tuple b_tuple) is_nil))) (fun _ => rfl))) (is_or1 (is_tcmp op_ne' (is_fn c_len (by rfl) T.z_len b_len (is_cons (is_var (pv 0)) is_nil)) (is_fn c_len (by rfl) T.z_len b_len (is_cons (is_var (pv 1)) is_nil)) (nomark _)))))
  (is_last (is_ret is_bl))
  is_bnil)
  (is_seq (is_for (own := [0, 1, 2]) c.po c.calm (is_rng1 (by rfl) T.z_range (is_cons (is_fn c_len (by rfl) T.z_len b_len (is_cons (is_var (pv 1)) is_nil)) is_nil)) (is_gN (i := 2) (by decide) c.nod rfl (.inl rfl)) (is_last (is_if (is_not (is_tru (is_callH h_law_same c.toCal (Nat.le_refl _) (by rfl) (is_cons (is_ix (is_var (pv 0)) (is_var (pv 2)) (fun _ _ => rfl)) (is_cons (is_ix (is_var (pv 1)) (is_var (pv 2)) (fun _ _ => rfl)) is_nil)) (mCons_len (mCons_len (fun _ _ _ _ h => mNil_len h)))) (fun _ => rfl)))
  (is_last (is_ret is_bl))
  is_bnil)))
  (is_last (is_ret is_bl))))
  is_bnil)
  (is_seq (is_if (IsW.t (is_or (is_not (is_tru (is_fn c_isi (by rfl) T.z_isinstance b_isinstance (is_cons (is_var (pv 1)) (is_cons (is_tyv (T := "list") (by rfl) T.z_list b_list) is_nil))) (fun _ => rfl))) (is_or (is_not (is_tru (is_fn c_isi (by rfl) T.z_isinstance b_isinstance (is_cons (is_var (pv 0)) (is_cons (is_tyv (T := "list") (by rfl) T.z_list b_list) is_nil))) (fun _ => rfl))) (is_or1 (is_tcmp op_ne' (is_fn c_len (by rfl) T.z_len b_len (is_cons (is_var (pv 0)) is_nil)) (is_fn c_len (by rfl) T.z_len b_len (is_cons (is_var (pv 1)) is_nil)) (nomark _))))))
  (is_last (is_ret is_bl))
  is_bnil)
  (is_seq (is_for (own := [0, 1, 2]) c.po c.calm (is_rng1 (by rfl) T.z_range (is_cons (is_fn c_len (by rfl) T.z_len b_len (is_cons (is_var (pv 1)) is_nil)) is_nil)) (is_gN (i := 2) (by decide) c.nod rfl (.inl rfl)) (is_last (is_if (is_not (is_tru (is_callH h_law_same c.toCal (Nat.le_refl _) (by rfl) (is_cons (is_ix (is_var (pv 0)) (is_var (pv 2)) (fun _ _ => rfl)) (is_cons (is_ix (is_var (pv 1)) (is_var (pv 2)) (fun _ _ => rfl)) is_nil)) (mCons_len (mCons_len (fun _ _ _ _ h => mNil_len h)))) (fun _ => rfl)))
  (is_last (is_ret is_bl))
  is_bnil)))
  (is_last (is_ret is_bl)))))))))
theorem ok_law_any_tree (D0 : Def K mg "_law_any_tree" s_law_any_tree ["_law_tape_here", "_law_words_here", "_law_most"]) (T : Txt P w K mg base C_NotUsable C_InvalidText) (h_law_draw : Has P w K mg base 1 "_law_draw" ["_law_tape_here", "_law_many"] m_law_draw) : Has P w K mg base 2 "_law_any_tree" ["_law_tape_here", "_law_words_here", "_law_most"] m_law_any_tree :=
  D0.has sc_law_any_tree fun f cdv A outer s H E c => (is_seq (is_set (i := 3) c.nod rfl (.inl rfl) (is_lst is_nil))
  (is_seq (is_set (i := 4) c.nod rfl (.inl rfl) is_int)
  (is_seq (is_for (own := [0, 1, 2, 3, 4, 5, 6, 7]) c.po c.calm (is_rng1 (by rfl) T.z_range (is_cons (is_var (pv 2)) is_nil)) (is_gN (i := 5) (by decide) c.nod rfl (.inl rfl)) (is_last (is_if (is_tcmp op_gt' (is_var (pv 4)) is_int (nomark _))
  (is_seq (is_set (i := 6) c.nod rfl (.inl rfl) (is_callH h_law_draw c.toCal (by decide) (by rfl) (is_cons (is_var (pv 0)) (is_cons (is_bin op_add' is_int (is_fn (c_min2 c.calm) (by rfl) T.z_min b_min (is_cons is_int (is_cons (is_bin op_sub' (is_bin op_sub' (is_var (pv 2)) (is_fn c_len (by rfl) T.z_len b_len (is_cons (is_var (pv 3)) is_nil))) (is_var (pv 4))) is_nil)))) is_nil)) (mCons_len (mCons_len (fun _ _ _ _ h => mNil_len h)))))
  (is_seq (is_if (IsW.t (is_and (is_tcmp op_eq' (is_var (pv 6)) is_int (nomark _)) (is_and (is_tcmp op_eq' (is_var (pv 4)) is_int (nomark _)) (is_and1 (is_tcmp op_lt' (is_var (pv 5)) is_int (nomark _))))))
  (is_last (is_set (i := 6) c.nod rfl (.inl rfl) (is_callH h_law_draw c.toCal (by decide) (by rfl) (is_cons (is_var (pv 0)) (is_cons (is_bin op_add' is_int (is_fn (c_min2 c.calm) (by rfl) T.z_min b_min (is_cons is_int (is_cons (is_bin op_sub' (is_bin op_sub' (is_var (pv 2)) (is_fn c_len (by rfl) T.z_len b_len (is_cons (is_var (pv 3)) is_nil))) (is_var (pv 4))) is_nil)))) is_nil)) (mCons_len (mCons_len (fun _ _ _ _ h => mNil_len h))))))
  is_bnil)
  (is_seq (is_set (i := 7) c.nod rfl (.inl rfl) (is_ix (is_var (pv 1)) (is_callH h_law_draw c.toCal (by decide) (by rfl) (is_cons (is_var (pv 0)) (is_cons (is_fn c_len (by rfl) T.z_len b_len (is_cons (is_var (pv 1)) is_nil)) is_nil)) (mCons_len (mCons_len (fun _ _ _ _ h => mNil_len h)))) (fun _ _ => rfl)))
  (is_seq (is_if (IsW.t (is_and (is_tcmp op_eq' (is_var (pv 6)) is_int (nomark _)) (is_and1 (is_tcmp op_eq' (is_callH h_law_draw c.toCal (by decide) (by rfl) (is_cons (is_var (pv 0)) (is_cons is_int is_nil)) (mCons_len (mCons_len (fun _ _ _ _ h => mNil_len h)))) is_int (nomark _)))))
  (is_last (is_set (i := 7) c.nod rfl (.inl rfl) is_str))
  is_bnil)
  (is_seq (is_expr (is_m m_append F.plainAttrs_list F.slot_list_append F.type_list_append (is_var (pv 3)) (is_cons (is_tup (is_cons (is_var (pv 7)) (is_cons (is_var (pv 6)) is_nil))) is_nil)))
  (is_last (is_set (i := 4) c.nod rfl (.inl rfl) (is_bin op_sub' (is_bin op_add' (is_var (pv 4)) (is_var (pv 6))) is_int))))))))
  is_bnil)))
  (is_last (is_ret (is_ty c_tuple (by rfl) T.z_tuple b_tuple (is_cons (is_var (pv 3)) is_nil)))))))
theorem ok_law_show (D0 : Def K mg "_law_show" s_law_show ["_law_tree"]) (T : Txt P w K mg base C_NotUsable C_InvalidText)  : Has P w K mg base 1 "_law_show" ["_law_tree"] m_law_show :=
  D0.has sc_law_show fun f cdv A outer s H E c => (is_seq (is_set (i := 1) c.nod rfl (.inr rfl) (is_lst is_nil))
  (is_seq (is_for (own := [0, 1, 2, 3, 4, 5]) c.po c.calm (is_rng1 (by rfl) T.z_range (is_cons (is_fn c_len (by rfl) T.z_len b_len (is_cons (is_var (pv 0)) is_nil)) is_nil)) (is_gN (i := 2) (by decide) c.nod rfl (.inl rfl)) (is_seq (is_set (i := 3) c.nod rfl (.inl rfl) (is_ix (is_var (pv 0)) (is_bin op_sub' (is_bin op_sub' (is_fn c_len (by rfl) T.z_len b_len (is_cons (is_var (pv 0)) is_nil)) is_int) (is_var (pv 2))) (fun _ _ => rfl)))
  (is_seq (is_setLc (i := 4) c.calm c.nod rfl rfl (sw_true rfl rfl rfl (by decide +kernel)) [("_law_part", 5)] (blkOk_by (own := [("_law_part", 5)]) (N := N_law_show) (sc := defScope s_law_show) (by decide +kernel)) (is_rng1 (by rfl) T.z_range (is_cons (is_ix (is_var (pv 3)) is_int (fun _ _ => rfl)) is_nil)) (fun bs bH bC bcl bfp => (is_gN (i := 5) (by decide) (Cal.blk c.toCal _ bs bH bC bcl bfp).nod rfl (.inl rfl))) (fun bs bH bC bcl bfp => is_ts0) (fun bs bH bC bcl bfp => (is_m0 m_pop F.plainAttrs_list F.slot_list_pop F.type_list_pop (is_var (pv 1)))))
  (is_last (is_if (is_tcmp op_eq' (is_ix (is_var (pv 3)) is_int (fun _ _ => rfl)) is_int (nomark _))
  (is_last (is_expr (is_m m_append F.plainAttrs_list F.slot_list_append F.type_list_append (is_var (pv 1)) (is_cons (is_ix (is_var (pv 3)) is_int (fun _ _ => rfl)) is_nil))))
  (is_last (is_expr (is_m m_append F.plainAttrs_list F.slot_list_append F.type_list_append (is_var (pv 1)) (is_cons (is_bin op_add' (is_bin op_add' (is_bin op_add' (is_ix (is_var (pv 3)) is_int (fun _ _ => rfl)) is_str) (is_m m_join F.plainAttrs_str F.slot_str_join F.type_str_join is_str (is_cons (is_var (pv 4)) is_nil))) is_str) is_nil)))))))))
  (is_last (is_ret (is_ix (is_var (pv 1)) is_int (fun _ _ => rfl))))))
theorem ok_law_word (D0 : Def K mg "_law_word" s_law_word ["_law_text"]) (T : Txt P w K mg base C_NotUsable C_InvalidText)  : Has P w K mg base 1 "_law_word" ["_law_text"] m_law_word :=
  D0.has sc_law_word fun f cdv A outer s H E c => (is_seq (is_if (is_tcmp op_eq' (is_var (pv 0)) is_str (nomark _))
  (is_last (is_ret is_bl))
  is_bnil)
  (is_seq (is_if (IsW.t (is_or (is_tcmp op_lt' (is_fn c_len (by rfl) T.z_len b_len (is_cons (is_var (pv 0)) is_nil)) is_int (nomark _)) (is_or (is_tcmp op_gt' (is_fn c_len (by rfl) T.z_len b_len (is_cons (is_var (pv 0)) is_nil)) is_int (nomark _)) (is_or1 (is_tcmp op_notInS' (is_ix (is_var (pv 0)) is_int (fun _ _ => rfl)) is_str (by with_unfolding_all rfl))))))
  (is_last (is_ret is_bl))
  is_bnil)
  (is_last (is_ret (is_cmp op_eq' (is_fn c_len (by rfl) T.z_len b_len (is_cons (is_lc c.calm c.nod [("_law_sign_here", 1)] (blkOk_by (own := [("_law_sign_here", 1)]) (N := N_law_word) (sc := defScope s_law_word) (by decide +kernel)) (is_iVal (is_var (pv 0))) (fun bs bH bC bcl bfp => (is_gN (i := 1) (by decide) (Cal.blk c.toCal _ bs bH bC bcl bfp).nod rfl (.inl rfl))) (fun bs bH bC bcl bfp => (is_ts1 (is_tcmp op_notInS' (is_var (pv 1)) is_str (by with_unfolding_all rfl)))) (fun bs bH bC bcl bfp => (is_var (pv 1)))) is_nil)) is_int (nomark _))))))
theorem ok_law_parted (D0 : Def K mg "_law_parted" s_law_parted ["_law_text"]) (T : Txt P w K mg base C_NotUsable C_InvalidText)  : Has P w K mg base 1 "_law_parted" ["_law_text"] m_law_parted :=
  D0.has sc_law_parted fun f cdv A outer s H E c => (is_seq (is_set (i := 1) c.nod rfl (.inl rfl) (is_lst is_nil))
  (is_seq (is_set (i := 2) c.nod rfl (.inl rfl) is_str)
  (is_seq (is_for (own := [0, 1, 2, 3]) c.po c.calm (is_iVal (is_var (pv 0))) (is_gN (i := 3) (by decide) c.nod rfl (.inl rfl)) (is_last (is_if (is_tcmp op_inS' (is_var (pv 3)) is_str (by with_unfolding_all rfl))
  (is_seq (is_if (is_tcmp op_ne' (is_var (pv 2)) is_str (nomark _))
  (is_last (is_expr (is_m m_append F.plainAttrs_list F.slot_list_append F.type_list_append (is_var (pv 1)) (is_cons (is_var (pv 2)) is_nil))))
  is_bnil)
  (is_seq (is_expr (is_m m_append F.plainAttrs_list F.slot_list_append F.type_list_append (is_var (pv 1)) (is_cons (is_var (pv 3)) is_nil)))
  (is_last (is_set (i := 2) c.nod rfl (.inl rfl) is_str))))
  (is_last (is_set (i := 2) c.nod rfl (.inl rfl) (is_bin op_add' (is_var (pv 2)) (is_var (pv 3))))))))
  (is_seq (is_if (is_tcmp op_ne' (is_var (pv 2)) is_str (nomark _))
  (is_last (is_expr (is_m m_append F.plainAttrs_list F.slot_list_append F.type_list_append (is_var (pv 1)) (is_cons (is_var (pv 2)) is_nil))))
  is_bnil)
  (is_last (is_ret (is_var (pv 1))))))))
theorem ok_law_read (D0 : Def K mg "_law_read" s_law_read ["_law_text"]) (T : Txt P w K mg base C_NotUsable C_InvalidText) (h_law_parted : Has P w K mg base 1 "_law_parted" ["_law_text"] m_law_parted) (h_law_word : Has P w K mg base 1 "_law_word" ["_law_text"] m_law_word) : Has P w K mg base 2 "_law_read" ["_law_text"] m_law_read :=
  D0.has sc_law_read fun f cdv A outer s H E c => (is_seq (is_set (i := 1) c.nod rfl (.inl rfl) (is_lst is_nil))
  (is_seq (is_set (i := 2) c.nod rfl (.inl rfl) (is_lst is_nil))
  (is_seq (is_set (i := 3) c.nod rfl (.inl rfl) is_bl)
  (is_seq (is_set (i := 4) c.nod rfl (.inl rfl) is_bl)
  (is_seq (is_for (own := [0, 1, 2, 3, 4, 5, 6]) c.po c.calm (is_iVal (is_callH h_law_parted c.toCal (by decide) (by rfl) (is_cons (is_var (pv 0)) is_nil) (mCons_len (fun _ _ _ _ h => mNil_len h)))) (is_gN (i := 5) (by decide) c.nod rfl (.inl rfl)) (is_last (is_if (is_tru (is_var (pv 3)) (fun _ => rfl))
  (is_seq (is_if (is_not (is_tru (is_callH h_law_word c.toCal (by decide) (by rfl) (is_cons (is_var (pv 5)) is_nil) (mCons_len (fun _ _ _ _ h => mNil_len h))) (fun _ => rfl)))
  (is_last (is_ret is_non))
  is_bnil)
  (is_seq (is_expr (is_m m_append F.plainAttrs_list F.slot_list_append F.type_list_append (is_var (pv 1)) (is_cons (is_lst (is_cons (is_var (pv 5)) (is_cons is_int is_nil))) is_nil)))
  (is_seq (is_set (i := 3) c.nod rfl (.inl rfl) is_bl)
  (is_last (is_set (i := 4) c.nod rfl (.inl rfl) is_bl)))))
  (is_last (is_if (is_tcmp op_eq' (is_var (pv 5)) is_str (nomark _))
  (is_seq (is_if (IsW.t (is_or (is_not (is_tru (is_var (pv 4)) (fun _ => rfl))) (is_or1 (is_tcmp op_eq' (is_ix (is_ix (is_var (pv 1)) (is_neg is_int) (fun _ _ => rfl)) is_int (fun _ _ => rfl)) is_str (nomark _)))))
  (is_last (is_ret is_non))
  is_bnil)
  (is_seq (is_expr (is_m m_append F.plainAttrs_list F.slot_list_append F.type_list_append (is_var (pv 2)) (is_cons (is_bin op_sub' (is_fn c_len (by rfl) T.z_len b_len (is_cons (is_var (pv 1)) is_nil)) is_int) is_nil)))
  (is_seq (is_setIx is_int (is_ix (is_var (pv 1)) (is_neg is_int) (fun _ _ => rfl)) is_int)
  (is_last (is_set (i := 3) c.nod rfl (.inl rfl) is_bl)))))
  (is_last (is_if (IsW.t (is_and (is_tcmp op_eq' (is_var (pv 5)) is_str (nomark _)) (is_and (is_tcmp op_gt' (is_fn c_len (by rfl) T.z_len b_len (is_cons (is_var (pv 2)) is_nil)) is_int (nomark _)) (is_and1 (is_tcmp op_lt' (is_ix (is_ix (is_var (pv 1)) (is_ix (is_var (pv 2)) (is_neg is_int) (fun _ _ => rfl)) (fun _ _ => rfl)) is_int (fun _ _ => rfl)) is_int (nomark _))))))
  (is_seq (is_setIx (is_bin op_add' (is_ix (is_ix (is_var (pv 1)) (is_ix (is_var (pv 2)) (is_neg is_int) (fun _ _ => rfl)) (fun _ _ => rfl)) is_int (fun _ _ => rfl)) is_int) (is_ix (is_var (pv 1)) (is_ix (is_var (pv 2)) (is_neg is_int) (fun _ _ => rfl)) (fun _ _ => rfl)) is_int)
  (is_last (is_set (i := 3) c.nod rfl (.inl rfl) is_bl)))
  (is_last (is_if (IsW.t (is_and (is_tcmp op_eq' (is_var (pv 5)) is_str (nomark _)) (is_and1 (is_tcmp op_gt' (is_fn c_len (by rfl) T.z_len b_len (is_cons (is_var (pv 2)) is_nil)) is_int (nomark _)))))
  (is_seq (is_expr (is_m0 m_pop F.plainAttrs_list F.slot_list_pop F.type_list_pop (is_var (pv 2))))
  (is_last (is_set (i := 4) c.nod rfl (.inl rfl) is_bl)))
  (is_last (is_ret is_non)))))))))))
  (is_seq (is_if (IsW.t (is_or (is_tru (is_var (pv 3)) (fun _ => rfl)) (is_or1 (is_tcmp op_gt' (is_fn c_len (by rfl) T.z_len b_len (is_cons (is_var (pv 2)) is_nil)) is_int (nomark _)))))
  (is_last (is_ret is_non))
  is_bnil)
  (is_last (is_ret (is_ty c_tuple (by rfl) T.z_tuple b_tuple (is_cons (is_lc c.calm c.nod [("_law_pair", 6)] (blkOk_by (own := [("_law_pair", 6)]) (N := N_law_read) (sc := defScope s_law_read) (by decide +kernel)) (is_iVal (is_var (pv 1))) (fun bs bH bC bcl bfp => (is_gN (i := 6) (by decide) (Cal.blk c.toCal _ bs bH bC bcl bfp).nod rfl (.inl rfl))) (fun bs bH bC bcl bfp => is_ts0) (fun bs bH bC bcl bfp => (is_tup (is_cons (is_ix (is_var (pv 6)) is_int (fun _ _ => rfl)) (is_cons (is_ix (is_var (pv 6)) is_int (fun _ _ => rfl)) is_nil))))) is_nil))))))))))
theorem ok_law_figures (D0 : Def K mg "_law_figures" s_law_figures ["_law_text", "_law_most"]) (T : Txt P w K mg base C_NotUsable C_InvalidText)  : Has P w K mg base 1 "_law_figures" ["_law_text", "_law_most"] m_law_figures :=
  D0.has sc_law_figures fun f cdv A outer s H E c => (is_seq (is_if (IsW.t (is_or (is_tcmp op_lt' (is_fn c_len (by rfl) T.z_len b_len (is_cons (is_var (pv 0)) is_nil)) is_int (nomark _)) (is_or (is_tcmp op_gt' (is_fn c_len (by rfl) T.z_len b_len (is_cons (is_var (pv 0)) is_nil)) (is_var (pv 1)) (nomark _)) (is_or1 (IsW.t (is_and (is_tcmp op_eq' (is_ix (is_var (pv 0)) is_int (fun _ _ => rfl)) is_str (nomark _)) (is_and1 (is_tcmp op_gt' (is_fn c_len (by rfl) T.z_len b_len (is_cons (is_var (pv 0)) is_nil)) is_int (nomark _)))))))))
  (is_last (is_ret is_bl))
  is_bnil)
  (is_last (is_ret (is_cmp op_eq' (is_fn c_len (by rfl) T.z_len b_len (is_cons (is_lc c.calm c.nod [("_law_sign_here", 2)] (blkOk_by (own := [("_law_sign_here", 2)]) (N := N_law_figures) (sc := defScope s_law_figures) (by decide +kernel)) (is_iVal (is_var (pv 0))) (fun bs bH bC bcl bfp => (is_gN (i := 2) (by decide) (Cal.blk c.toCal _ bs bH bC bcl bfp).nod rfl (.inl rfl))) (fun bs bH bC bcl bfp => (is_ts1 (is_tcmp op_notInS' (is_var (pv 2)) is_str (by with_unfolding_all rfl)))) (fun bs bH bC bcl bfp => (is_var (pv 2)))) is_nil)) is_int (nomark _)))))
theorem ok_law_count (D0 : Def K mg "_law_count" s_law_count ["_law_tape_here"]) (T : Txt P w K mg base C_NotUsable C_InvalidText) (h_law_draw : Has P w K mg base 1 "_law_draw" ["_law_tape_here", "_law_many"] m_law_draw) : Has P w K mg base 2 "_law_count" ["_law_tape_here"] m_law_count :=
  D0.has sc_law_count fun f cdv A outer s H E c => (is_seq (is_set (i := 1) c.nod rfl (.inl rfl) (is_callH h_law_draw c.toCal (by decide) (by rfl) (is_cons (is_var (pv 0)) (is_cons is_int is_nil)) (mCons_len (mCons_len (fun _ _ _ _ h => mNil_len h)))))
  (is_seq (is_if (is_tcmp op_lt' (is_var (pv 1)) is_int (nomark _))
  (is_last (is_ret (is_callH h_law_draw c.toCal (by decide) (by rfl) (is_cons (is_var (pv 0)) (is_cons is_int is_nil)) (mCons_len (mCons_len (fun _ _ _ _ h => mNil_len h))))))
  is_bnil)
  (is_seq (is_set (i := 2) c.nod rfl (.inl rfl) (is_bin op_add' is_int (is_callH h_law_draw c.toCal (by decide) (by rfl) (is_cons (is_var (pv 0)) (is_cons is_int is_nil)) (mCons_len (mCons_len (fun _ _ _ _ h => mNil_len h))))))
  (is_seq (is_if (is_tcmp op_eq' (is_var (pv 1)) is_int (nomark _))
  (is_last (is_for (own := [0, 1, 2, 3]) c.po c.calm (is_rng1 (by rfl) T.z_range (is_cons (is_callH h_law_draw c.toCal (by decide) (by rfl) (is_cons (is_var (pv 0)) (is_cons is_int is_nil)) (mCons_len (mCons_len (fun _ _ _ _ h => mNil_len h)))) is_nil)) (is_gN (i := 3) (by decide) c.nod rfl (.inl rfl)) (is_last (is_set (i := 2) c.nod rfl (.inl rfl) (is_bin op_add' (is_bin op_mulA' is_int (is_var (pv 2))) (is_callH h_law_draw c.toCal (by decide) (by rfl) (is_cons (is_var (pv 0)) (is_cons is_int is_nil)) (mCons_len (mCons_len (fun _ _ _ _ h => mNil_len h)))))))))
  is_bnil)
  (is_last (is_ret (is_var (pv 2))))))))
theorem ok_law_chain (D0 : Def K mg "_law_chain" s_law_chain ["_law_tape_here", "_law_words_here", "_law_sizes"]) (T : Txt P w K mg base C_NotUsable C_InvalidText) (h_law_any_tree : Has P w K mg base 2 "_law_any_tree" ["_law_tape_here", "_law_words_here", "_law_most"] m_law_any_tree) (h_law_count : Has P w K mg base 2 "_law_count" ["_law_tape_here"] m_law_count) (h_law_draw : Has P w K mg base 1 "_law_draw" ["_law_tape_here", "_law_many"] m_law_draw) : Has P w K mg base 3 "_law_chain" ["_law_tape_here", "_law_words_here", "_law_sizes"] m_law_chain :=
  D0.has sc_law_chain fun f cdv A outer s H E c => (is_seq (is_set (i := 3) c.nod rfl (.inl rfl) (is_lst is_nil))
  (is_seq (is_for (own := [0, 1, 2, 3, 4, 5]) c.po c.calm (is_iVal (is_var (pv 2))) (is_gN (i := 4) (by decide) c.nod rfl (.inl rfl)) (is_last (is_if (is_tcmp op_eq' (is_callH h_law_draw c.toCal (by decide) (by rfl) (is_cons (is_var (pv 0)) (is_cons is_int is_nil)) (mCons_len (mCons_len (fun _ _ _ _ h => mNil_len h)))) is_int (nomark _))
  (is_last (is_expr (is_m m_append F.plainAttrs_list F.slot_list_append F.type_list_append (is_var (pv 3)) (is_cons (is_tup (is_cons is_str (is_cons (is_callH h_law_any_tree c.toCal (by decide) (by rfl) (is_cons (is_var (pv 0)) (is_cons (is_var (pv 1)) (is_cons (is_var (pv 4)) is_nil))) (mCons_len (mCons_len (mCons_len (fun _ _ _ _ h => mNil_len h))))) is_nil))) is_nil))))
  (is_last (is_expr (is_m m_append F.plainAttrs_list F.slot_list_append F.type_list_append (is_var (pv 3)) (is_cons (is_ty c_tuple (by rfl) T.z_tuple b_tuple (is_cons (is_bin op_add' (is_lst (is_cons is_str is_nil)) (is_lc c.calm c.nod [("_law_k", 5)] (blkOk_by (own := [("_law_k", 5)]) (N := N_law_chain) (sc := defScope s_law_chain) (by decide +kernel)) (is_rng1 (by rfl) T.z_range (is_cons is_int is_nil)) (fun bs bH bC bcl bfp => (is_gN (i := 5) (by decide) (Cal.blk c.toCal _ bs bH bC bcl bfp).nod rfl (.inl rfl))) (fun bs bH bC bcl bfp => is_ts0) (fun bs bH bC bcl bfp => (is_callH h_law_count (Cal.blk c.toCal _ bs bH bC bcl bfp) (by decide) (by rfl) (is_cons (is_var (pv 0)) is_nil) (mCons_len (fun _ _ _ _ h => mNil_len h)))))) is_nil)) is_nil)))))))
  (is_last (is_ret (is_ty c_tuple (by rfl) T.z_tuple b_tuple (is_cons (is_var (pv 3)) is_nil))))))
theorem ok_law_rows (D0 : Def K mg "_law_rows" s_law_rows ["_law_tape_here", "_law_words_here", "_law_sizes"]) (T : Txt P w K mg base C_NotUsable C_InvalidText) (h_law_any_tree : Has P w K mg base 2 "_law_any_tree" ["_law_tape_here", "_law_words_here", "_law_most"] m_law_any_tree) (h_law_count : Has P w K mg base 2 "_law_count" ["_law_tape_here"] m_law_count) (h_law_draw : Has P w K mg base 1 "_law_draw" ["_law_tape_here", "_law_many"] m_law_draw) : Has P w K mg base 3 "_law_rows" ["_law_tape_here", "_law_words_here", "_law_sizes"] m_law_rows :=
  D0.has sc_law_rows fun f cdv A outer s H E c => (is_seq (is_set (i := 3) c.nod rfl (.inl rfl) (is_lst is_nil))
  (is_seq (is_for (own := [0, 1, 2, 3, 4, 5, 6, 7]) c.po c.calm (is_iVal (is_var (pv 2))) (is_gN (i := 4) (by decide) c.nod rfl (.inl rfl)) (is_seq (is_set (i := 5) c.nod rfl (.inl rfl) (is_ix (is_lst (is_cons is_str (is_cons is_str (is_cons is_str (is_cons is_str is_nil))))) (is_callH h_law_draw c.toCal (by decide) (by rfl) (is_cons (is_var (pv 0)) (is_cons is_int is_nil)) (mCons_len (mCons_len (fun _ _ _ _ h => mNil_len h)))) (fun _ _ => rfl)))
  (is_seq (is_set (i := 6) c.nod rfl (.inl rfl) (is_callH h_law_any_tree c.toCal (by decide) (by rfl) (is_cons (is_var (pv 0)) (is_cons (is_var (pv 1)) (is_cons (is_var (pv 4)) is_nil))) (mCons_len (mCons_len (mCons_len (fun _ _ _ _ h => mNil_len h))))))
  (is_seq (is_set (i := 7) c.nod rfl (.inl rfl) is_int)
  (is_seq (is_if (is_tcmp op_eq' (is_var (pv 5)) is_str (nomark _))
  (is_last (is_set (i := 7) c.nod rfl (.inl rfl) (is_callH h_law_count c.toCal (by decide) (by rfl) (is_cons (is_var (pv 0)) is_nil) (mCons_len (fun _ _ _ _ h => mNil_len h)))))
  is_bnil)
  (is_last (is_expr (is_m m_append F.plainAttrs_list F.slot_list_append F.type_list_append (is_var (pv 3)) (is_cons (is_tup (is_cons (is_var (pv 5)) (is_cons (is_var (pv 6)) (is_cons (is_callH h_law_any_tree c.toCal (by decide) (by rfl) (is_cons (is_var (pv 0)) (is_cons (is_var (pv 1)) (is_cons (is_bin op_add' is_int (is_callH h_law_draw c.toCal (by decide) (by rfl) (is_cons (is_var (pv 0)) (is_cons is_int is_nil)) (mCons_len (mCons_len (fun _ _ _ _ h => mNil_len h))))) is_nil))) (mCons_len (mCons_len (mCons_len (fun _ _ _ _ h => mNil_len h))))) (is_cons (is_var (pv 7)) is_nil))))) is_nil)))))))))
  (is_last (is_ret (is_ty c_tuple (by rfl) T.z_tuple b_tuple (is_cons (is_var (pv 3)) is_nil))))))
theorem ok_law_chain_line (D0 : Def K mg "_law_chain_line" s_law_chain_line ["_law_line"]) (T : Txt P w K mg base C_NotUsable C_InvalidText) (h_law_show : Has P w K mg base 1 "_law_show" ["_law_tree"] m_law_show) : Has P w K mg base 2 "_law_chain_line" ["_law_line"] m_law_chain_line :=
  D0.has sc_law_chain_line fun f cdv A outer s H E c => (is_seq (is_if (is_tcmp op_eq' (is_ix (is_var (pv 0)) is_int (fun _ _ => rfl)) is_str (nomark _))
  (is_last (is_ret (is_bin op_add' is_str (is_callH h_law_show c.toCal (by decide) (by rfl) (is_cons (is_ix (is_var (pv 0)) is_int (fun _ _ => rfl)) is_nil) (mCons_len (fun _ _ _ _ h => mNil_len h))))))
  is_bnil)
  (is_last (is_ret (is_m m_join F.plainAttrs_str F.slot_str_join F.type_str_join is_str (is_cons (is_bin op_add' (is_lst (is_cons is_str is_nil)) (is_lc c.calm c.nod [("_law_number", 1)] (blkOk_by (own := [("_law_number", 1)]) (N := N_law_chain_line) (sc := defScope s_law_chain_line) (by decide +kernel)) (is_iVal (is_sl (is_var (pv 0)) (is_os is_int) is_on)) (fun bs bH bC bcl bfp => (is_gN (i := 1) (by decide) (Cal.blk c.toCal _ bs bH bC bcl bfp).nod rfl (.inl rfl))) (fun bs bH bC bcl bfp => is_ts0) (fun bs bH bC bcl bfp => (is_ty c_str (by rfl) T.z_str b_str (is_cons (is_var (pv 1)) is_nil))))) is_nil)))))
theorem ok_law_join_line (D0 : Def K mg "_law_join_line" s_law_join_line ["_law_join"]) (T : Txt P w K mg base C_NotUsable C_InvalidText) (h_law_show : Has P w K mg base 1 "_law_show" ["_law_tree"] m_law_show) : Has P w K mg base 2 "_law_join_line" ["_law_join"] m_law_join_line :=
  D0.has sc_law_join_line fun f cdv A outer s H E c => (is_seq (is_if (is_tcmp op_eq' (is_ix (is_var (pv 0)) is_int (fun _ _ => rfl)) is_str (nomark _))
  (is_last (is_ret (is_bin op_add' (is_bin op_add' (is_bin op_add' (is_bin op_add' (is_bin op_add' is_str (is_ty c_str (by rfl) T.z_str b_str (is_cons (is_ix (is_var (pv 0)) is_int (fun _ _ => rfl)) is_nil))) is_str) (is_callH h_law_show c.toCal (by decide) (by rfl) (is_cons (is_ix (is_var (pv 0)) is_int (fun _ _ => rfl)) is_nil) (mCons_len (fun _ _ _ _ h => mNil_len h)))) is_str) (is_callH h_law_show c.toCal (by decide) (by rfl) (is_cons (is_ix (is_var (pv 0)) is_int (fun _ _ => rfl)) is_nil) (mCons_len (fun _ _ _ _ h => mNil_len h))))))
  is_bnil)
  (is_last (is_ret (is_bin op_add' (is_bin op_add' (is_bin op_add' (is_bin op_add' (is_ix (is_var (pv 0)) is_int (fun _ _ => rfl)) is_str) (is_callH h_law_show c.toCal (by decide) (by rfl) (is_cons (is_ix (is_var (pv 0)) is_int (fun _ _ => rfl)) is_nil) (mCons_len (fun _ _ _ _ h => mNil_len h)))) is_str) (is_callH h_law_show c.toCal (by decide) (by rfl) (is_cons (is_ix (is_var (pv 0)) is_int (fun _ _ => rfl)) is_nil) (mCons_len (fun _ _ _ _ h => mNil_len h)))))))
theorem ok_law_fields (D0 : Def K mg "_law_fields" s_law_fields ["_law_line", "_law_shapes"]) (T : Txt P w K mg base C_NotUsable C_InvalidText) (h_law_figures : Has P w K mg base 1 "_law_figures" ["_law_text", "_law_most"] m_law_figures) (h_law_read : Has P w K mg base 2 "_law_read" ["_law_text"] m_law_read) : Has P w K mg base 3 "_law_fields" ["_law_line", "_law_shapes"] m_law_fields :=
  D0.has sc_law_fields fun f cdv A outer s H E c => (is_seq (is_set (i := 2) c.nod rfl (.inl rfl) (is_m m_split F.plainAttrs_str F.slot_str_split F.type_str_split (is_var (pv 0)) (is_cons is_str is_nil)))
  (is_seq (is_set (i := 3) c.nod rfl (.inl rfl) is_str)
  (is_seq (is_for (own := [0, 1, 2, 3, 4, 5, 6]) c.po c.calm (is_iVal (is_var (pv 1))) (is_gN (i := 4) (by decide) c.nod rfl (.inl rfl)) (is_last (is_if (is_tcmp op_eq' (is_ix (is_var (pv 4)) is_int (fun _ _ => rfl)) (is_ix (is_var (pv 2)) is_int (fun _ _ => rfl)) (nomark _))
  (is_last (is_set (i := 3) c.nod rfl (.inl rfl) (is_ix (is_var (pv 4)) is_int (fun _ _ => rfl))))
  is_bnil)))
  (is_seq (is_if (is_tcmp op_eq' (is_var (pv 3)) is_str (nomark _))
  (is_last (is_ret (is_tup (is_cons is_non (is_cons is_int is_nil)))))
  is_bnil)
  (is_seq (is_set (i := 5) c.nod rfl (.inl rfl) (is_lst (is_cons (is_ix (is_var (pv 2)) is_int (fun _ _ => rfl)) is_nil)))
  (is_seq (is_for (own := [0, 1, 2, 3, 4, 5, 6]) c.po c.calm (is_rng2 (by rfl) T.z_range (is_cons is_int (is_cons (is_fn c_len (by rfl) T.z_len b_len (is_cons (is_var (pv 2)) is_nil)) is_nil))) (is_gN (i := 6) (by decide) c.nod rfl (.inl rfl)) (is_seq (is_if (is_tcmp op_gt' (is_var (pv 6)) (is_fn c_len (by rfl) T.z_len b_len (is_cons (is_var (pv 3)) is_nil)) (nomark _))
  (is_last (is_ret (is_tup (is_cons is_non (is_cons (is_var (pv 6)) is_nil)))))
  is_bnil)
  (is_last (is_if (is_tcmp op_eq' (is_ix (is_var (pv 3)) (is_bin op_sub' (is_var (pv 6)) is_int) (fun _ _ => rfl)) is_str (nomark _))
  (is_seq (is_if (is_not (is_tru (is_callH h_law_figures c.toCal (by decide) (by rfl) (is_cons (is_ix (is_var (pv 2)) (is_var (pv 6)) (fun _ _ => rfl)) (is_cons is_int is_nil)) (mCons_len (mCons_len (fun _ _ _ _ h => mNil_len h)))) (fun _ => rfl)))
  (is_last (is_ret (is_tup (is_cons is_non (is_cons (is_var (pv 6)) is_nil)))))
  is_bnil)
  (is_last (is_expr (is_m m_append F.plainAttrs_list F.slot_list_append F.type_list_append (is_var (pv 5)) (is_cons (is_ty c_int (by rfl) T.z_int b_int (is_cons (is_ix (is_var (pv 2)) (is_var (pv 6)) (fun _ _ => rfl)) is_nil)) is_nil)))))
  (is_seq (is_expr (is_m m_append F.plainAttrs_list F.slot_list_append F.type_list_append (is_var (pv 5)) (is_cons (is_callH h_law_read c.toCal (by decide) (by rfl) (is_cons (is_ix (is_var (pv 2)) (is_var (pv 6)) (fun _ _ => rfl)) is_nil) (mCons_len (fun _ _ _ _ h => mNil_len h))) is_nil)))
  (is_last (is_if (is_tcmp op_isN' (is_ix (is_var (pv 5)) (is_neg is_int) (fun _ _ => rfl)) is_non (nomark _))
  (is_last (is_ret (is_tup (is_cons is_non (is_cons (is_var (pv 6)) is_nil)))))
  is_bnil)))))))
  (is_seq (is_if (is_tcmp op_lt' (is_fn c_len (by rfl) T.z_len b_len (is_cons (is_var (pv 5)) is_nil)) (is_bin op_add' (is_fn c_len (by rfl) T.z_len b_len (is_cons (is_var (pv 3)) is_nil)) is_int) (nomark _))
  (is_last (is_ret (is_tup (is_cons is_non (is_cons (is_fn c_len (by rfl) T.z_len b_len (is_cons (is_var (pv 5)) is_nil)) is_nil)))))
  is_bnil)
  (is_last (is_ret (is_tup (is_cons (is_ty c_tuple (by rfl) T.z_tuple b_tuple (is_cons (is_var (pv 5)) is_nil)) (is_cons (is_neg is_int) is_nil))))))))))))
theorem ok_law_due (D0 : Def K mg "_law_due" s_law_due ["_law_text", "_law_chain_here"]) (T : Txt P w K mg base C_NotUsable C_InvalidText) (h_law_fields : Has P w K mg base 3 "_law_fields" ["_law_line", "_law_shapes"] m_law_fields) : Has P w K mg base 4 "_law_due" ["_law_text", "_law_chain_here"] m_law_due :=
  D0.has sc_law_due fun f cdv A outer s H E c => (is_seq (is_set (i := 2) c.nod rfl (.inl rfl) (is_lst (is_cons (is_tup (is_cons is_str (is_cons is_str is_nil))) (is_cons (is_tup (is_cons is_str (is_cons is_str is_nil))) (is_cons (is_tup (is_cons is_str (is_cons is_str is_nil))) is_nil)))))
  (is_seq (is_if (is_tru (is_var (pv 1)) (fun _ => rfl))
  (is_last (is_set (i := 2) c.nod rfl (.inl rfl) (is_lst (is_cons (is_tup (is_cons is_str (is_cons is_str is_nil))) (is_cons (is_tup (is_cons is_str (is_cons is_str is_nil))) is_nil)))))
  is_bnil)
  (is_seq (is_if (is_tcmp op_eq' (is_var (pv 0)) is_str (nomark _))
  (is_last (is_ret (is_tup (is_cons is_str (is_cons (is_tup is_nil) is_nil)))))
  is_bnil)
  (is_seq (is_set (i := 3) c.nod rfl (.inl rfl) (is_lst is_nil))
  (is_seq (is_set (i := 4) c.nod rfl (.inl rfl) (is_m m_split F.plainAttrs_str F.slot_str_split F.type_str_split (is_var (pv 0)) (is_cons is_str is_nil)))
  (is_seq (is_for (own := [0, 1, 2, 3, 4, 5, 6, 7]) c.po c.calm (is_rng1 (by rfl) T.z_range (is_cons (is_fn c_len (by rfl) T.z_len b_len (is_cons (is_var (pv 4)) is_nil)) is_nil)) (is_gN (i := 5) (by decide) c.nod rfl (.inl rfl)) (is_seq (is_set (i := 6) c.nod rfl (.inl rfl) (is_callH h_law_fields c.toCal (by decide) (by rfl) (is_cons (is_ix (is_var (pv 4)) (is_var (pv 5)) (fun _ _ => rfl)) (is_cons (is_var (pv 2)) is_nil)) (mCons_len (mCons_len (fun _ _ _ _ h => mNil_len h)))))
  (is_seq (is_if (is_tcmp op_isN' (is_ix (is_var (pv 6)) is_int (fun _ _ => rfl)) is_non (nomark _))
  (is_last (is_ret (is_tup (is_cons is_str (is_cons (is_var (pv 5)) (is_cons (is_ix (is_var (pv 6)) is_int (fun _ _ => rfl)) is_nil))))))
  is_bnil)
  (is_seq (is_set (i := 7) c.nod rfl (.inl rfl) (is_ix (is_var (pv 6)) is_int (fun _ _ => rfl)))
  (is_seq (is_if (IsW.t (is_and (is_not (is_tru (is_var (pv 1)) (fun _ => rfl))) (is_and1 (is_tcmp op_eq' (is_ix (is_var (pv 7)) is_int (fun _ _ => rfl)) is_str (nomark _)))))
  (is_last (is_set (i := 7) c.nod rfl (.inl rfl) (is_tup (is_cons (is_ix (is_var (pv 7)) is_int (fun _ _ => rfl)) (is_cons (is_ix (is_var (pv 7)) is_int (fun _ _ => rfl)) (is_cons (is_ix (is_var (pv 7)) is_int (fun _ _ => rfl)) (is_cons (is_ix (is_var (pv 7)) is_int (fun _ _ => rfl)) is_nil)))))))
  (is_last (is_if (is_not (is_tru (is_var (pv 1)) (fun _ => rfl)))
  (is_last (is_set (i := 7) c.nod rfl (.inl rfl) (is_tup (is_cons (is_ix (is_var (pv 7)) is_int (fun _ _ => rfl)) (is_cons (is_ix (is_var (pv 7)) is_int (fun _ _ => rfl)) (is_cons (is_ix (is_var (pv 7)) is_int (fun _ _ => rfl)) (is_cons is_int is_nil)))))))
  is_bnil)))
  (is_last (is_expr (is_m m_append F.plainAttrs_list F.slot_list_append F.type_list_append (is_var (pv 3)) (is_cons (is_var (pv 7)) is_nil)))))))))
  (is_last (is_ret (is_tup (is_cons is_str (is_cons (is_ty c_tuple (by rfl) T.z_tuple b_tuple (is_cons (is_var (pv 3)) is_nil)) is_nil)))))))))))
theorem ok_law_told (D0 : Def K mg "_law_told" s_law_told ["_law_text", "_law_chain_here"]) (T : Txt P w K mg base C_NotUsable C_InvalidText) (h_read_chain : Has P w K mg base 9 "read_chain" ["text"] m_read_chain) (h_read_joins : Has P w K mg base 9 "read_joins" ["text"] m_read_joins) : Has P w K mg base 10 "_law_told" ["_law_text", "_law_chain_here"] m_law_told :=
  D0.has sc_law_told fun f cdv A outer s H E c => (is_last (is_try c (fun W' pn xe c' => (is_seq (is_if (is_tru (is_var (pv 1)) (fun _ => rfl))
  (is_last (is_ret (is_tup (is_cons is_str (is_cons (is_callH h_read_chain c'.toCal (by decide) (by rfl) (is_cons (is_var (pv 0)) is_nil) (mCons_len (fun _ _ _ _ h => mNil_len h))) is_nil)))))
  is_bnil)
  (is_last (is_ret (is_tup (is_cons is_str (is_cons (is_callH h_read_joins c'.toCal (by decide) (by rfl) (is_cons (is_var (pv 0)) is_nil) (mCons_len (fun _ _ _ _ h => mNil_len h))) is_nil))))))) (.named (i := 2) (C := C_InvalidText) rfl (by decide) T.e_InvalidText.mg c.nod rfl rfl (T.x_InvalidText) (fun a oe dd pn gs fs hz hv => (is_last (is_ret (is_tup (is_cons is_str (is_cons (is_xf T.e_InvalidText.xf T.e_InvalidText.n1 hz hv (pv 2)) (is_cons (is_xf T.e_InvalidText.xf T.e_InvalidText.n2 hz hv (pv 2)) is_nil))))))) (.named (i := 2) (C := C_NotUsable) rfl (by decide) T.e_NotUsable.mg c.nod rfl rfl (T.x_NotUsable) (fun a oe dd pn gs fs hz hv => (is_last (is_ret (is_tup (is_cons is_str (is_cons (is_xf T.e_NotUsable.xf T.e_NotUsable.n1 hz hv (pv 2)) (is_cons (is_xf T.e_NotUsable.xf T.e_NotUsable.n2 hz hv (pv 2)) is_nil))))))) .nil))))
theorem ok_law_sign (D0 : Def K mg "_law_sign" s_law_sign ["_law_tape_here"]) (T : Txt P w K mg base C_NotUsable C_InvalidText) (h_law_draw : Has P w K mg base 1 "_law_draw" ["_law_tape_here", "_law_many"] m_law_draw) : Has P w K mg base 2 "_law_sign" ["_law_tape_here"] m_law_sign :=
  D0.has sc_law_sign fun f cdv A outer s H E c => (is_seq (is_if (is_tcmp op_eq' (is_callH h_law_draw c.toCal (by decide) (by rfl) (is_cons (is_var (pv 0)) (is_cons is_int is_nil)) (mCons_len (mCons_len (fun _ _ _ _ h => mNil_len h)))) is_int (nomark _))
  (is_last (is_ret (is_ix is_str (is_callH h_law_draw c.toCal (by decide) (by rfl) (is_cons (is_var (pv 0)) (is_cons is_int is_nil)) (mCons_len (mCons_len (fun _ _ _ _ h => mNil_len h)))) (fun _ _ => rfl))))
  is_bnil)
  (is_seq (is_set (i := 1) c.nod rfl (.inl rfl) is_str)
  (is_last (is_ret (is_ix (is_var (pv 1)) (is_callH h_law_draw c.toCal (by decide) (by rfl) (is_cons (is_var (pv 0)) (is_cons (is_fn c_len (by rfl) T.z_len b_len (is_cons (is_var (pv 1)) is_nil)) is_nil)) (mCons_len (mCons_len (fun _ _ _ _ h => mNil_len h)))) (fun _ _ => rfl))))))
theorem ok_law_odd (D0 : Def K mg "_law_odd" s_law_odd ["_law_tape_here"]) (T : Txt P w K mg base C_NotUsable C_InvalidText) (h_law_draw : Has P w K mg base 1 "_law_draw" ["_law_tape_here", "_law_many"] m_law_draw) : Has P w K mg base 2 "_law_odd" ["_law_tape_here"] m_law_odd :=
  D0.has sc_law_odd fun f cdv A outer s H E c => (is_seq (is_set (i := 1) c.nod rfl (.inl rfl) (is_lst (is_cons is_str (is_cons is_str (is_cons is_str (is_cons is_str (is_cons is_str (is_cons is_str (is_cons is_str (is_cons is_str (is_cons is_str (is_cons is_str (is_cons is_str (is_cons is_str (is_cons is_str (is_cons is_str (is_cons is_str (is_cons is_str is_nil))))))))))))))))))
  (is_seq (is_set (i := 1) c.nod rfl (.inl rfl) (is_bin op_add' (is_var (pv 1)) (is_lst (is_cons is_str (is_cons is_str (is_cons is_str (is_cons is_str (is_cons is_str (is_cons is_str (is_cons is_str (is_cons is_str (is_cons is_str is_nil))))))))))))
  (is_seq (is_set (i := 1) c.nod rfl (.inl rfl) (is_bin op_add' (is_var (pv 1)) (is_lst (is_cons (is_bin op_add' is_str (is_bin op_mulA' is_str is_int)) (is_cons (is_bin op_add' is_str (is_bin op_mulA' is_str is_int)) (is_cons (is_bin op_mulA' is_str is_int) (is_cons (is_bin op_mulA' is_str is_int) (is_cons is_str (is_cons is_str (is_cons is_str (is_cons is_str (is_cons is_str (is_cons is_str (is_cons is_str is_nil))))))))))))))
  (is_last (is_ret (is_ix (is_var (pv 1)) (is_callH h_law_draw c.toCal (by decide) (by rfl) (is_cons (is_var (pv 0)) (is_cons (is_fn c_len (by rfl) T.z_len b_len (is_cons (is_var (pv 1)) is_nil)) is_nil)) (mCons_len (mCons_len (fun _ _ _ _ h => mNil_len h)))) (fun _ _ => rfl)))))))
theorem ok_law_odd_line (D0 : Def K mg "_law_odd_line" s_law_odd_line ["_law_tape_here"]) (T : Txt P w K mg base C_NotUsable C_InvalidText) (h_law_draw : Has P w K mg base 1 "_law_draw" ["_law_tape_here", "_law_many"] m_law_draw) (h_law_odd : Has P w K mg base 2 "_law_odd" ["_law_tape_here"] m_law_odd) : Has P w K mg base 3 "_law_odd_line" ["_law_tape_here"] m_law_odd_line :=
  D0.has sc_law_odd_line fun f cdv A outer s H E c => (is_seq (is_set (i := 1) c.nod rfl (.inl rfl) (is_lst (is_cons is_str (is_cons is_str (is_cons is_str (is_cons is_str (is_cons is_str (is_cons is_str (is_cons is_str is_nil)))))))))
  (is_seq (is_set (i := 2) c.nod rfl (.inl rfl) (is_m m_split F.plainAttrs_str F.slot_str_split F.type_str_split (is_ix (is_var (pv 1)) (is_callH h_law_draw c.toCal (by decide) (by rfl) (is_cons (is_var (pv 0)) (is_cons is_int is_nil)) (mCons_len (mCons_len (fun _ _ _ _ h => mNil_len h)))) (fun _ _ => rfl)) (is_cons is_str is_nil)))
  (is_seq (is_set (i := 3) c.nod rfl (.inl rfl) (is_callH h_law_draw c.toCal (by decide) (by rfl) (is_cons (is_var (pv 0)) (is_cons (is_fn c_len (by rfl) T.z_len b_len (is_cons (is_var (pv 2)) is_nil)) is_nil)) (mCons_len (mCons_len (fun _ _ _ _ h => mNil_len h)))))
  (is_seq (is_set (i := 4) c.nod rfl (.inl rfl) (is_callH h_law_odd c.toCal (by decide) (by rfl) (is_cons (is_var (pv 0)) is_nil) (mCons_len (fun _ _ _ _ h => mNil_len h))))
  (is_seq (is_if (IsW.t (is_and (is_tcmp op_gt' (is_callH h_law_draw c.toCal (by decide) (by rfl) (is_cons (is_var (pv 0)) (is_cons is_int is_nil)) (mCons_len (mCons_len (fun _ _ _ _ h => mNil_len h)))) is_int (nomark _)) (is_and1 (is_tcmp op_inS' (is_ix (is_ix (is_var (pv 2)) (is_var (pv 3)) (fun _ _ => rfl)) is_int (fun _ _ => rfl)) is_str (by with_unfolding_all rfl)))))
  (is_last (is_set (i := 4) c.nod rfl (.inl rfl) (is_ix (is_lst (is_cons is_str (is_cons is_str (is_cons is_str (is_cons is_str (is_cons (is_bin op_mulA' is_str is_int) (is_cons (is_bin op_mulA' is_str is_int) (is_cons (is_bin op_add' is_str (is_bin op_mulA' is_str is_int)) (is_cons (is_bin op_add' is_str (is_bin op_mulA' is_str is_int)) (is_cons is_str (is_cons is_str is_nil))))))))))) (is_callH h_law_draw c.toCal (by decide) (by rfl) (is_cons (is_var (pv 0)) (is_cons is_int is_nil)) (mCons_len (mCons_len (fun _ _ _ _ h => mNil_len h)))) (fun _ _ => rfl))))
  is_bnil)
  (is_seq (is_setIx (is_var (pv 4)) (is_var (pv 2)) (is_var (pv 3)))
  (is_last (is_ret (is_m m_join F.plainAttrs_str F.slot_str_join F.type_str_join is_str (is_cons (is_var (pv 2)) is_nil))))))))))
theorem ok_law_lines_bent (D0 : Def K mg "_law_lines_bent" s_law_lines_bent ["_law_tape_here", "_law_lines"]) (T : Txt P w K mg base C_NotUsable C_InvalidText) (h_law_draw : Has P w K mg base 1 "_law_draw" ["_law_tape_here", "_law_many"] m_law_draw) (h_law_odd : Has P w K mg base 2 "_law_odd" ["_law_tape_here"] m_law_odd) : Has P w K mg base 3 "_law_lines_bent" ["_law_tape_here", "_law_lines"] m_law_lines_bent :=
  D0.has sc_law_lines_bent fun f cdv A outer s H E c => (is_seq (is_set (i := 2) c.nod rfl (.inl rfl) (is_callH h_law_draw c.toCal (by decide) (by rfl) (is_cons (is_var (pv 0)) (is_cons is_int is_nil)) (mCons_len (mCons_len (fun _ _ _ _ h => mNil_len h)))))
  (is_seq (is_set (i := 3) c.nod rfl (.inl rfl) (is_callH h_law_draw c.toCal (by decide) (by rfl) (is_cons (is_var (pv 0)) (is_cons (is_fn c_len (by rfl) T.z_len b_len (is_cons (is_var (pv 1)) is_nil)) is_nil)) (mCons_len (mCons_len (fun _ _ _ _ h => mNil_len h)))))
  (is_seq (is_set (i := 4) c.nod rfl (.inl rfl) (is_m m_split F.plainAttrs_str F.slot_str_split F.type_str_split (is_ix (is_var (pv 1)) (is_var (pv 3)) (fun _ _ => rfl)) (is_cons is_str is_nil)))
  (is_seq (is_set (i := 5) c.nod rfl (.inl rfl) (is_callH h_law_draw c.toCal (by decide) (by rfl) (is_cons (is_var (pv 0)) (is_cons (is_fn c_len (by rfl) T.z_len b_len (is_cons (is_var (pv 4)) is_nil)) is_nil)) (mCons_len (mCons_len (fun _ _ _ _ h => mNil_len h)))))
  (is_seq (is_if (is_tcmp op_eq' (is_var (pv 2)) is_int (nomark _))
  (is_last (is_ret (is_bin op_add' (is_sl (is_var (pv 1)) is_on (is_os (is_var (pv 3)))) (is_sl (is_var (pv 1)) (is_os (is_bin op_add' (is_var (pv 3)) is_int)) is_on))))
  is_bnil)
  (is_seq (is_if (is_tcmp op_eq' (is_var (pv 2)) is_int (nomark _))
  (is_last (is_ret (is_bin op_add' (is_var (pv 1)) (is_lst (is_cons (is_ix (is_var (pv 1)) (is_var (pv 3)) (fun _ _ => rfl)) is_nil)))))
  is_bnil)
  (is_seq (is_if (is_tcmp op_eq' (is_var (pv 2)) is_int (nomark _))
  (is_last (is_ret (is_bin op_add' (is_bin op_add' (is_lst (is_cons (is_m m_join F.plainAttrs_str F.slot_str_join F.type_str_join is_str (is_cons (is_bin op_add' (is_sl (is_var (pv 4)) is_on (is_os (is_var (pv 5)))) (is_sl (is_var (pv 4)) (is_os (is_bin op_add' (is_var (pv 5)) is_int)) is_on)) is_nil)) is_nil)) (is_sl (is_var (pv 1)) is_on (is_os (is_var (pv 3))))) (is_sl (is_var (pv 1)) (is_os (is_bin op_add' (is_var (pv 3)) is_int)) is_on))))
  is_bnil)
  (is_seq (is_if (is_tcmp op_eq' (is_var (pv 2)) is_int (nomark _))
  (is_last (is_set (i := 4) c.nod rfl (.inl rfl) (is_bin op_add' (is_bin op_add' (is_sl (is_var (pv 4)) is_on (is_os (is_var (pv 5)))) (is_lst (is_cons (is_callH h_law_odd c.toCal (by decide) (by rfl) (is_cons (is_var (pv 0)) is_nil) (mCons_len (fun _ _ _ _ h => mNil_len h))) is_nil))) (is_sl (is_var (pv 4)) (is_os (is_var (pv 5))) is_on))))
  (is_last (is_setIx (is_callH h_law_odd c.toCal (by decide) (by rfl) (is_cons (is_var (pv 0)) is_nil) (mCons_len (fun _ _ _ _ h => mNil_len h))) (is_var (pv 4)) (is_var (pv 5)))))
  (is_last (is_ret (is_bin op_add' (is_bin op_add' (is_sl (is_var (pv 1)) is_on (is_os (is_var (pv 3)))) (is_lst (is_cons (is_m m_join F.plainAttrs_str F.slot_str_join F.type_str_join is_str (is_cons (is_var (pv 4)) is_nil)) is_nil))) (is_sl (is_var (pv 1)) (is_os (is_bin op_add' (is_var (pv 3)) is_int)) is_on))))))))))))
theorem ok_law_bent (D0 : Def K mg "_law_bent" s_law_bent ["_law_tape_here", "_law_text"]) (T : Txt P w K mg base C_NotUsable C_InvalidText) (h_law_draw : Has P w K mg base 1 "_law_draw" ["_law_tape_here", "_law_many"] m_law_draw) (h_law_lines_bent : Has P w K mg base 3 "_law_lines_bent" ["_law_tape_here", "_law_lines"] m_law_lines_bent) (h_law_sign : Has P w K mg base 2 "_law_sign" ["_law_tape_here"] m_law_sign) : Has P w K mg base 4 "_law_bent" ["_law_tape_here", "_law_text"] m_law_bent :=
  D0.has sc_law_bent fun f cdv A outer s H E c => (is_seq (is_set (i := 2) c.nod rfl (.inl rfl) (is_callH h_law_draw c.toCal (by decide) (by rfl) (is_cons (is_var (pv 0)) (is_cons is_int is_nil)) (mCons_len (mCons_len (fun _ _ _ _ h => mNil_len h)))))
  (is_seq (is_set (i := 3) c.nod rfl (.inl rfl) (is_callH h_law_draw c.toCal (by decide) (by rfl) (is_cons (is_var (pv 0)) (is_cons (is_bin op_add' (is_fn c_len (by rfl) T.z_len b_len (is_cons (is_var (pv 1)) is_nil)) is_int) is_nil)) (mCons_len (mCons_len (fun _ _ _ _ h => mNil_len h)))))
  (is_seq (is_if (is_tcmp op_eq' (is_var (pv 2)) is_int (nomark _))
  (is_last (is_ret (is_bin op_add' (is_bin op_add' (is_sl (is_var (pv 1)) is_on (is_os (is_var (pv 3)))) (is_callH h_law_sign c.toCal (by decide) (by rfl) (is_cons (is_var (pv 0)) is_nil) (mCons_len (fun _ _ _ _ h => mNil_len h)))) (is_sl (is_var (pv 1)) (is_os (is_var (pv 3))) is_on))))
  is_bnil)
  (is_seq (is_if (is_tcmp op_eq' (is_var (pv 2)) is_int (nomark _))
  (is_last (is_ret (is_bin op_add' (is_sl (is_var (pv 1)) is_on (is_os (is_var (pv 3)))) (is_sl (is_var (pv 1)) (is_os (is_bin op_add' (is_var (pv 3)) is_int)) is_on))))
  is_bnil)
  (is_seq (is_if (is_tcmp op_eq' (is_var (pv 2)) is_int (nomark _))
  (is_last (is_ret (is_sl (is_var (pv 1)) is_on (is_os (is_var (pv 3))))))
  is_bnil)
  (is_seq (is_if (is_tcmp op_eq' (is_var (pv 2)) is_int (nomark _))
  (is_last (is_ret (is_ix (is_lst (is_cons (is_bin op_add' (is_var (pv 1)) is_str) (is_cons (is_bin op_add' (is_var (pv 1)) is_str) (is_cons (is_bin op_add' is_str (is_var (pv 1))) (is_cons (is_bin op_add' is_str (is_var (pv 1))) (is_cons (is_bin op_add' (is_var (pv 1)) is_str) (is_cons (is_bin op_add' (is_var (pv 1)) is_str) is_nil))))))) (is_callH h_law_draw c.toCal (by decide) (by rfl) (is_cons (is_var (pv 0)) (is_cons is_int is_nil)) (mCons_len (mCons_len (fun _ _ _ _ h => mNil_len h)))) (fun _ _ => rfl))))
  is_bnil)
  (is_seq (is_if (is_tcmp op_eq' (is_var (pv 2)) is_int (nomark _))
  (is_last (is_ret (is_bin op_add' (is_bin op_add' (is_sl (is_var (pv 1)) is_on (is_os (is_var (pv 3)))) (is_callH h_law_sign c.toCal (by decide) (by rfl) (is_cons (is_var (pv 0)) is_nil) (mCons_len (fun _ _ _ _ h => mNil_len h)))) (is_sl (is_var (pv 1)) (is_os (is_bin op_add' (is_var (pv 3)) is_int)) is_on))))
  is_bnil)
  (is_last (is_ret (is_m m_join F.plainAttrs_str F.slot_str_join F.type_str_join is_str (is_cons (is_callH h_law_lines_bent c.toCal (by decide) (by rfl) (is_cons (is_var (pv 0)) (is_cons (is_m m_split F.plainAttrs_str F.slot_str_split F.type_str_split (is_var (pv 1)) (is_cons is_str is_nil)) is_nil)) (mCons_len (mCons_len (fun _ _ _ _ h => mNil_len h)))) is_nil)))))))))))
theorem ok_law_reads (D0 : Def K mg "_law_reads" s_law_reads ["_law_text", "_law_chain_here"]) (T : Txt P w K mg base C_NotUsable C_InvalidText) (h_law_due : Has P w K mg base 4 "_law_due" ["_law_text", "_law_chain_here"] m_law_due) (h_law_same : Has P w K mg base 9 "_law_same" ["_law_told_here", "_law_due_here"] (m_law_same 8)) (h_law_told : Has P w K mg base 10 "_law_told" ["_law_text", "_law_chain_here"] m_law_told) (h_chain_text : Has P w K mg base 3 "chain_text" ["chain"] m_chain_text) (h_joins_text : Has P w K mg base 3 "joins_text" ["joins"] m_joins_text) (h_read_chain : Has P w K mg base 9 "read_chain" ["text"] m_read_chain) (h_read_joins : Has P w K mg base 9 "read_joins" ["text"] m_read_joins) : Has P w K mg base 11 "_law_reads" ["_law_text", "_law_chain_here"] m_law_reads :=
  D0.has sc_law_reads fun f cdv A outer s H E c => (is_seq (is_if (is_tcmp op_gt' (is_fn c_len (by rfl) T.z_len b_len (is_cons (is_var (pv 0)) is_nil)) is_int (nomark _))
  (is_last (is_ret is_bl))
  is_bnil)
  (is_seq (is_set (i := 2) c.nod rfl (.inl rfl) (is_callH h_law_due c.toCal (by decide) (by rfl) (is_cons (is_var (pv 0)) (is_cons (is_var (pv 1)) is_nil)) (mCons_len (mCons_len (fun _ _ _ _ h => mNil_len h)))))
  (is_seq (is_if (is_not (is_tru (is_callH h_law_same c.toCal (by decide) (by rfl) (is_cons (is_callH h_law_told c.toCal (by decide) (by rfl) (is_cons (is_var (pv 0)) (is_cons (is_var (pv 1)) is_nil)) (mCons_len (mCons_len (fun _ _ _ _ h => mNil_len h)))) (is_cons (is_var (pv 2)) is_nil)) (mCons_len (mCons_len (fun _ _ _ _ h => mNil_len h)))) (fun _ => rfl)))
  (is_last (is_ret is_bl))
  is_bnil)
  (is_seq (is_if (IsW.t (is_and (is_tcmp op_eq' (is_ix (is_var (pv 2)) is_int (fun _ _ => rfl)) is_str (nomark _)) (is_and1 (is_tru (is_var (pv 1)) (fun _ => rfl)))))
  (is_last (is_ret (is_andV (is_callH h_law_same c.toCal (by decide) (by rfl) (is_cons (is_callH h_chain_text c.toCal (by decide) (by rfl) (is_cons (is_ix (is_var (pv 2)) is_int (fun _ _ => rfl)) is_nil) (mCons_len (fun _ _ _ _ h => mNil_len h))) (is_cons (is_var (pv 0)) is_nil)) (mCons_len (mCons_len (fun _ _ _ _ h => mNil_len h)))) (is_one (is_callH h_law_same c.toCal (by decide) (by rfl) (is_cons (is_callKH h_read_chain c.toCal (by decide) (by rfl) (is_kcons (is_var (pv 0)) is_knil) (mCons_len (fun _ _ _ _ h => mNil_len h))) (is_cons (is_ix (is_var (pv 2)) is_int (fun _ _ => rfl)) is_nil)) (mCons_len (mCons_len (fun _ _ _ _ h => mNil_len h))))))))
  is_bnil)
  (is_seq (is_if (is_tcmp op_eq' (is_ix (is_var (pv 2)) is_int (fun _ _ => rfl)) is_str (nomark _))
  (is_last (is_ret (is_andV (is_callH h_law_same c.toCal (by decide) (by rfl) (is_cons (is_callKH h_joins_text c.toCal (by decide) (by rfl) (is_kcons (is_ix (is_var (pv 2)) is_int (fun _ _ => rfl)) is_knil) (mCons_len (fun _ _ _ _ h => mNil_len h))) (is_cons (is_var (pv 0)) is_nil)) (mCons_len (mCons_len (fun _ _ _ _ h => mNil_len h)))) (is_one (is_callH h_law_same c.toCal (by decide) (by rfl) (is_cons (is_callKH h_read_joins c.toCal (by decide) (by rfl) (is_kcons (is_var (pv 0)) is_knil) (mCons_len (fun _ _ _ _ h => mNil_len h))) (is_cons (is_ix (is_var (pv 2)) is_int (fun _ _ => rfl)) is_nil)) (mCons_len (mCons_len (fun _ _ _ _ h => mNil_len h))))))))
  is_bnil)
  (is_last (is_ret is_bl)))))))
theorem ok_law {f : Addr} {fd : FuncData} (F0 : Fun K "law" "law" s_law f fd) (T : Txt P w K mg base C_NotUsable C_InvalidText) (h_law_bent : Has P w K mg base 4 "_law_bent" ["_law_tape_here", "_law_text"] m_law_bent) (h_law_chain : Has P w K mg base 3 "_law_chain" ["_law_tape_here", "_law_words_here", "_law_sizes"] m_law_chain) (h_law_chain_line : Has P w K mg base 2 "_law_chain_line" ["_law_line"] m_law_chain_line) (h_law_draw : Has P w K mg base 1 "_law_draw" ["_law_tape_here", "_law_many"] m_law_draw) (h_law_join_line : Has P w K mg base 2 "_law_join_line" ["_law_join"] m_law_join_line) (h_law_odd_line : Has P w K mg base 3 "_law_odd_line" ["_law_tape_here"] m_law_odd_line) (h_law_reads : Has P w K mg base 11 "_law_reads" ["_law_text", "_law_chain_here"] m_law_reads) (h_law_rows : Has P w K mg base 3 "_law_rows" ["_law_tape_here", "_law_words_here", "_law_sizes"] m_law_rows) (h_law_same : Has P w K mg base 9 "_law_same" ["_law_told_here", "_law_due_here"] (m_law_same 8)) (h_law_tape : Has P w K mg base 1 "_law_tape" ["_law_script"] m_law_tape) (h_law_told : Has P w K mg base 10 "_law_told" ["_law_text", "_law_chain_here"] m_law_told) (h_law_words : Has P w K mg base 2 "_law_words" ["_law_tape_here"] m_law_words) (h_chain_text : Has P w K mg base 3 "chain_text" ["chain"] m_chain_text) (h_joins_text : Has P w K mg base 3 "joins_text" ["joins"] m_joins_text) : FnOk P w K mg base (L2.CX P w) 12 f fd ["_law_script"] (spM K mg 1 m_law) :=
  fn_okM F0 sc_law fun cdv A outer s H E c => (is_seq (is_set (i := 1) c.nod rfl (.inr rfl) (is_callH h_law_tape c.toCal (by decide) (by rfl) (is_cons (is_var (pv 0)) is_nil) (mCons_len (fun _ _ _ _ h => mNil_len h))))
  (is_seq (is_set (i := 2) c.nod rfl (.inl rfl) (is_callH h_law_words c.toCal (by decide) (by rfl) (is_cons (is_var (pv 1)) is_nil) (mCons_len (fun _ _ _ _ h => mNil_len h))))
  (is_seq (is_setLc (i := 3) c.calm c.nod rfl rfl (sw_true rfl rfl rfl (by decide +kernel)) [("_law_k", 11)] (blkOk_by (own := [("_law_k", 11)]) (N := N_law) (sc := defScope s_law) (by decide +kernel)) (is_rng1 (by rfl) T.z_range (is_cons (is_ix (is_lst (is_cons is_int (is_cons is_int (is_cons is_int (is_cons is_int (is_cons is_int (is_cons is_int is_nil))))))) (is_callH h_law_draw c.toCal (by decide) (by rfl) (is_cons (is_var (pv 1)) (is_cons is_int is_nil)) (mCons_len (mCons_len (fun _ _ _ _ h => mNil_len h)))) (fun _ _ => rfl)) is_nil)) (fun bs bH bC bcl bfp => (is_gN (i := 11) (by decide) (Cal.blk c.toCal _ bs bH bC bcl bfp).nod rfl (.inl rfl))) (fun bs bH bC bcl bfp => is_ts0) (fun bs bH bC bcl bfp => (is_bin op_add' is_int (is_callH h_law_draw (Cal.blk c.toCal _ bs bH bC bcl bfp) (by decide) (by rfl) (is_cons (is_var (pv 1)) (is_cons is_int is_nil)) (mCons_len (mCons_len (fun _ _ _ _ h => mNil_len h)))))))
  (is_seq (is_if (IsW.t (is_and (is_tcmp op_gt' (is_fn c_len (by rfl) T.z_len b_len (is_cons (is_var (pv 3)) is_nil)) is_int (nomark _)) (is_and1 (is_tcmp op_eq' (is_callH h_law_draw c.toCal (by decide) (by rfl) (is_cons (is_var (pv 1)) (is_cons is_int is_nil)) (mCons_len (mCons_len (fun _ _ _ _ h => mNil_len h)))) is_int (nomark _)))))
  (is_last (is_setIx is_int (is_var (pv 3)) is_int))
  is_bnil)
  (is_seq (is_set (i := 4) c.nod rfl (.inl rfl) (is_callH h_law_chain c.toCal (by decide) (by rfl) (is_cons (is_var (pv 1)) (is_cons (is_var (pv 2)) (is_cons (is_var (pv 3)) is_nil))) (mCons_len (mCons_len (mCons_len (fun _ _ _ _ h => mNil_len h))))))
  (is_seq (is_set (i := 5) c.nod rfl (.inl rfl) (is_callH h_law_rows c.toCal (by decide) (by rfl) (is_cons (is_var (pv 1)) (is_cons (is_var (pv 2)) (is_cons (is_var (pv 3)) is_nil))) (mCons_len (mCons_len (mCons_len (fun _ _ _ _ h => mNil_len h))))))
  (is_seq (is_set (i := 6) c.nod rfl (.inl rfl) (is_m m_join F.plainAttrs_str F.slot_str_join F.type_str_join is_str (is_cons (is_lc c.calm c.nod [("_law_line", 12)] (blkOk_by (own := [("_law_line", 12)]) (N := N_law) (sc := defScope s_law) (by decide +kernel)) (is_iVal (is_var (pv 4))) (fun bs bH bC bcl bfp => (is_gN (i := 12) (by decide) (Cal.blk c.toCal _ bs bH bC bcl bfp).nod rfl (.inl rfl))) (fun bs bH bC bcl bfp => is_ts0) (fun bs bH bC bcl bfp => (is_callH h_law_chain_line (Cal.blk c.toCal _ bs bH bC bcl bfp) (by decide) (by rfl) (is_cons (is_var (pv 12)) is_nil) (mCons_len (fun _ _ _ _ h => mNil_len h))))) is_nil)))
  (is_seq (is_set (i := 7) c.nod rfl (.inl rfl) (is_m m_join F.plainAttrs_str F.slot_str_join F.type_str_join is_str (is_cons (is_lc c.calm c.nod [("_law_join", 13)] (blkOk_by (own := [("_law_join", 13)]) (N := N_law) (sc := defScope s_law) (by decide +kernel)) (is_iVal (is_var (pv 5))) (fun bs bH bC bcl bfp => (is_gN (i := 13) (by decide) (Cal.blk c.toCal _ bs bH bC bcl bfp).nod rfl (.inl rfl))) (fun bs bH bC bcl bfp => is_ts0) (fun bs bH bC bcl bfp => (is_callH h_law_join_line (Cal.blk c.toCal _ bs bH bC bcl bfp) (by decide) (by rfl) (is_cons (is_var (pv 13)) is_nil) (mCons_len (fun _ _ _ _ h => mNil_len h))))) is_nil)))
  (is_seq (is_if (IsW.t (is_or (is_not (is_tru (is_callH h_law_same c.toCal (by decide) (by rfl) (is_cons (is_callKH h_chain_text c.toCal (by decide) (by rfl) (is_kcons (is_var (pv 4)) is_knil) (mCons_len (fun _ _ _ _ h => mNil_len h))) (is_cons (is_var (pv 6)) is_nil)) (mCons_len (mCons_len (fun _ _ _ _ h => mNil_len h)))) (fun _ => rfl))) (is_or1 (is_not (is_tru (is_callH h_law_same c.toCal (by decide) (by rfl) (is_cons (is_callH h_joins_text c.toCal (by decide) (by rfl) (is_cons (is_var (pv 5)) is_nil) (mCons_len (fun _ _ _ _ h => mNil_len h))) (is_cons (is_var (pv 7)) is_nil)) (mCons_len (mCons_len (fun _ _ _ _ h => mNil_len h)))) (fun _ => rfl))))))
  (is_last (is_ret is_bl))
  is_bnil)
  (is_seq (is_for (own := [0, 1, 2, 3, 4, 5, 6, 7, 8, 9, 10, 11, 12, 13]) c.po c.calm (is_iVal (is_lst (is_cons (is_var (pv 6)) (is_cons (is_var (pv 7)) (is_cons is_str (is_cons (is_callH h_law_bent c.toCal (by decide) (by rfl) (is_cons (is_var (pv 1)) (is_cons (is_var (pv 6)) is_nil)) (mCons_len (mCons_len (fun _ _ _ _ h => mNil_len h)))) (is_cons (is_callH h_law_bent c.toCal (by decide) (by rfl) (is_cons (is_var (pv 1)) (is_cons (is_var (pv 7)) is_nil)) (mCons_len (mCons_len (fun _ _ _ _ h => mNil_len h)))) (is_cons (is_callH h_law_bent c.toCal (by decide) (by rfl) (is_cons (is_var (pv 1)) (is_cons (is_var (pv 6)) is_nil)) (mCons_len (mCons_len (fun _ _ _ _ h => mNil_len h)))) is_nil)))))))) (is_gN (i := 8) (by decide) c.nod rfl (.inl rfl)) (is_last (is_if (IsW.t (is_or (is_not (is_tru (is_callH h_law_reads c.toCal (by decide) (by rfl) (is_cons (is_var (pv 8)) (is_cons is_bl is_nil)) (mCons_len (mCons_len (fun _ _ _ _ h => mNil_len h)))) (fun _ => rfl))) (is_or1 (is_not (is_tru (is_callH h_law_reads c.toCal (by decide) (by rfl) (is_cons (is_var (pv 8)) (is_cons is_bl is_nil)) (mCons_len (mCons_len (fun _ _ _ _ h => mNil_len h)))) (fun _ => rfl))))))
  (is_last (is_ret is_bl))
  is_bnil)))
  (is_seq (is_setLc (i := 9) c.calm c.nod rfl rfl (sw_true rfl rfl rfl (by decide +kernel)) [("_law_k", 11)] (blkOk_by (own := [("_law_k", 11)]) (N := N_law) (sc := defScope s_law) (by decide +kernel)) (is_rng1 (by rfl) T.z_range (is_cons is_int is_nil)) (fun bs bH bC bcl bfp => (is_gN (i := 11) (by decide) (Cal.blk c.toCal _ bs bH bC bcl bfp).nod rfl (.inl rfl))) (fun bs bH bC bcl bfp => is_ts0) (fun bs bH bC bcl bfp => (is_callH h_law_odd_line (Cal.blk c.toCal _ bs bH bC bcl bfp) (by decide) (by rfl) (is_cons (is_var (pv 1)) is_nil) (mCons_len (fun _ _ _ _ h => mNil_len h)))))
  (is_seq (is_for (own := [0, 1, 2, 3, 4, 5, 6, 7, 8, 9, 10, 11, 12, 13]) c.po c.calm (is_iVal (is_bin op_add' (is_var (pv 9)) (is_lst (is_cons (is_m m_join F.plainAttrs_str F.slot_str_join F.type_str_join is_str (is_cons (is_var (pv 9)) is_nil)) (is_cons (is_callH h_law_bent c.toCal (by decide) (by rfl) (is_cons (is_var (pv 1)) (is_cons (is_callH h_law_bent c.toCal (by decide) (by rfl) (is_cons (is_var (pv 1)) (is_cons (is_var (pv 7)) is_nil)) (mCons_len (mCons_len (fun _ _ _ _ h => mNil_len h)))) is_nil)) (mCons_len (mCons_len (fun _ _ _ _ h => mNil_len h)))) is_nil))))) (is_gN (i := 8) (by decide) c.nod rfl (.inl rfl)) (is_last (is_if (IsW.t (is_or (is_not (is_tru (is_callH h_law_reads c.toCal (by decide) (by rfl) (is_cons (is_var (pv 8)) (is_cons is_bl is_nil)) (mCons_len (mCons_len (fun _ _ _ _ h => mNil_len h)))) (fun _ => rfl))) (is_or1 (is_not (is_tru (is_callH h_law_reads c.toCal (by decide) (by rfl) (is_cons (is_var (pv 8)) (is_cons is_bl is_nil)) (mCons_len (mCons_len (fun _ _ _ _ h => mNil_len h)))) (fun _ => rfl))))))
  (is_last (is_ret is_bl))
  is_bnil)))
  (is_seq (is_set (i := 10) c.nod rfl (.inl rfl) (is_ix (is_lst (is_cons is_non (is_cons is_int (is_cons is_bl (is_cons (is_tup is_nil) (is_cons (is_tup (is_cons (is_var (pv 6)) is_nil)) (is_cons (is_lst (is_cons (is_var (pv 6)) is_nil)) (is_cons (is_lst (is_cons is_str is_nil)) (is_cons (is_tup (is_cons (is_tup (is_cons is_str (is_cons (is_tup (is_cons (is_tup (is_cons is_str (is_cons is_int is_nil))) is_nil)) is_nil))) is_nil)) is_nil))))))))) (is_callH h_law_draw c.toCal (by decide) (by rfl) (is_cons (is_var (pv 1)) (is_cons is_int is_nil)) (mCons_len (mCons_len (fun _ _ _ _ h => mNil_len h)))) (fun _ _ => rfl)))
  (is_seq (is_if (is_not (is_tru (is_callH h_law_same c.toCal (by decide) (by rfl) (is_cons (is_callH h_law_told c.toCal (by decide) (by rfl) (is_cons (is_var (pv 10)) (is_cons is_bl is_nil)) (mCons_len (mCons_len (fun _ _ _ _ h => mNil_len h)))) (is_cons (is_tup (is_cons is_str (is_cons is_str (is_cons (is_neg is_int) is_nil)))) is_nil)) (mCons_len (mCons_len (fun _ _ _ _ h => mNil_len h)))) (fun _ => rfl)))
  (is_last (is_ret is_bl))
  is_bnil)
  (is_last (is_ret (is_callH h_law_same c.toCal (by decide) (by rfl) (is_cons (is_callH h_law_told c.toCal (by decide) (by rfl) (is_cons (is_var (pv 10)) (is_cons is_bl is_nil)) (mCons_len (mCons_len (fun _ _ _ _ h => mNil_len h)))) (is_cons (is_tup (is_cons is_str (is_cons is_str (is_cons (is_neg is_int) is_nil)))) is_nil)) (mCons_len (mCons_len (fun _ _ _ _ h => mNil_len h))))))))))))))))))))
end
end K65
/-! ## K65e -/
set_option Elab.async false
set_option linter.all false
set_option maxRecDepth 100000
set_option maxHeartbeats 0
namespace K65
open PySem L2 Mi
abbrev s_NotUsable : Stmt := inClass (top 4) 0
theorem sc_NotUsable : FnScope ["self", "word", "at"] ["self", "word", "at"] (defScope s_NotUsable) := ⟨rfl, rfl, rfl, by decide +kernel, rfl, by decide +kernel, by decide +kernel⟩
theorem bd_NotUsable (K : PySem.W.Frag) (X : Cx) (hK : X.K = K) (hN : X.N = (["self", "word", "at"] : List Str)) (hs : X.env.scope = defScope s_NotUsable) : PSs X (defBody s_NotUsable) (tSeq (tOst K "word" (tVar 0) (tVar 1)) (tOst K "at" (tVar 0) (tVar 2))) := by
  subst hK
  have v0 : ∀ pos, PE X (.Name "self" pos) (tVar 0) := fun pos => pv 0 (by rw [hN]; rfl) (by rw [hs]; exact Or.inl rfl)
  have v1 : ∀ pos, PE X (.Name "word" pos) (tVar 1) := fun pos => pv 1 (by rw [hN]; rfl) (by rw [hs]; exact Or.inl rfl)
  have v2 : ∀ pos, PE X (.Name "at" pos) (tVar 2) := fun pos => pv 2 (by rw [hN]; rfl) (by rw [hs]; exact Or.inl rfl)
  exact pss_cons (ps_ost (v0 _) (v1 _)) (pss_one (ps_ost (v0 _) (v2 _)))
abbrev s_InvalidText : Stmt := inClass (top 5) 0
theorem sc_InvalidText : FnScope ["self", "line", "at"] ["self", "line", "at"] (defScope s_InvalidText) := ⟨rfl, rfl, rfl, by decide +kernel, rfl, by decide +kernel, by decide +kernel⟩
theorem bd_InvalidText (K : PySem.W.Frag) (X : Cx) (hK : X.K = K) (hN : X.N = (["self", "line", "at"] : List Str)) (hs : X.env.scope = defScope s_InvalidText) : PSs X (defBody s_InvalidText) (tSeq (tOst K "line" (tVar 0) (tVar 1)) (tOst K "at" (tVar 0) (tVar 2))) := by
  subst hK
  have v0 : ∀ pos, PE X (.Name "self" pos) (tVar 0) := fun pos => pv 0 (by rw [hN]; rfl) (by rw [hs]; exact Or.inl rfl)
  have v1 : ∀ pos, PE X (.Name "line" pos) (tVar 1) := fun pos => pv 1 (by rw [hN]; rfl) (by rw [hs]; exact Or.inl rfl)
  have v2 : ∀ pos, PE X (.Name "at" pos) (tVar 2) := fun pos => pv 2 (by rw [hN]; rfl) (by rw [hs]; exact Or.inl rfl)
  exact pss_cons (ps_ost (v0 _) (v1 _)) (pss_one (ps_ost (v0 _) (v2 _)))
theorem all_mk {l : PySem.W.OpenLaw} {w : World} {K : PySem.W.Frag} {h : Heap} {mg : Str → Option Value} {fa : Addr} {C_NotUsable : Addr} {C_InvalidText : Addr} (X : K.In h) (G : h.Ns mainGlobals mg) (hfa : mg "law" = some (.ref fa))
    (d_a_begins : Def K mg "a_begins" s_a_begins ["sign"])
    (d_a_goes_on : Def K mg "a_goes_on" s_a_goes_on ["sign"])
    (d_a_word_at : Def K mg "_a_word_at" s_a_word_at ["text", "at", "holes"])
    (d_a_close : Def K mg "_a_close" s_a_close ["text", "at", "above"])
    (d_a_read : Def K mg "_a_read" s_a_read ["text", "holes"])
    (d_read_tree : Def K mg "read_tree" s_read_tree ["text"])
    (d_lines_of : Def K mg "lines_of" s_lines_of ["text"])
    (d_number_in : Def K mg "number_in" s_number_in ["field"])
    (d_tree_in : Def K mg "tree_in" s_tree_in ["field"])
    (d_entries_in : Def K mg "entries_in" s_entries_in ["fields", "sorts", "line"])
    (d_chain_entry : Def K mg "_chain_entry" s_chain_entry ["fields", "line"])
    (d_read_chain : Def K mg "read_chain" s_read_chain ["text"])
    (d_join_entry : Def K mg "_join_entry" s_join_entry ["fields", "line"])
    (d_read_joins : Def K mg "read_joins" s_read_joins ["text"])
    (d_shown : Def K mg "shown" s_shown ["tree"])
    (d_chain_line : Def K mg "_chain_line" s_chain_line ["entry"])
    (d_chain_text : Def K mg "chain_text" s_chain_text ["chain"])
    (d_join_line : Def K mg "_join_line" s_join_line ["join"])
    (d_joins_text : Def K mg "joins_text" s_joins_text ["joins"])
    (d_law_tape : Def K mg "_law_tape" s_law_tape ["_law_script"])
    (d_law_draw : Def K mg "_law_draw" s_law_draw ["_law_tape_here", "_law_many"])
    (d_law_words : Def K mg "_law_words" s_law_words ["_law_tape_here"])
    (d_law_same : Def K mg "_law_same" s_law_same ["_law_told_here", "_law_due_here"])
    (d_law_any_tree : Def K mg "_law_any_tree" s_law_any_tree ["_law_tape_here", "_law_words_here", "_law_most"])
    (d_law_show : Def K mg "_law_show" s_law_show ["_law_tree"])
    (d_law_word : Def K mg "_law_word" s_law_word ["_law_text"])
    (d_law_parted : Def K mg "_law_parted" s_law_parted ["_law_text"])
    (d_law_read : Def K mg "_law_read" s_law_read ["_law_text"])
    (d_law_figures : Def K mg "_law_figures" s_law_figures ["_law_text", "_law_most"])
    (d_law_count : Def K mg "_law_count" s_law_count ["_law_tape_here"])
    (d_law_chain : Def K mg "_law_chain" s_law_chain ["_law_tape_here", "_law_words_here", "_law_sizes"])
    (d_law_rows : Def K mg "_law_rows" s_law_rows ["_law_tape_here", "_law_words_here", "_law_sizes"])
    (d_law_chain_line : Def K mg "_law_chain_line" s_law_chain_line ["_law_line"])
    (d_law_join_line : Def K mg "_law_join_line" s_law_join_line ["_law_join"])
    (d_law_fields : Def K mg "_law_fields" s_law_fields ["_law_line", "_law_shapes"])
    (d_law_due : Def K mg "_law_due" s_law_due ["_law_text", "_law_chain_here"])
    (d_law_told : Def K mg "_law_told" s_law_told ["_law_text", "_law_chain_here"])
    (d_law_sign : Def K mg "_law_sign" s_law_sign ["_law_tape_here"])
    (d_law_odd : Def K mg "_law_odd" s_law_odd ["_law_tape_here"])
    (d_law_odd_line : Def K mg "_law_odd_line" s_law_odd_line ["_law_tape_here"])
    (d_law_lines_bent : Def K mg "_law_lines_bent" s_law_lines_bent ["_law_tape_here", "_law_lines"])
    (d_law_bent : Def K mg "_law_bent" s_law_bent ["_law_tape_here", "_law_text"])
    (d_law_reads : Def K mg "_law_reads" s_law_reads ["_law_text", "_law_chain_here"])
    (d_law : Def K mg "law" s_law ["_law_script"])
    (z_bool : PySem.W.nsIn K mainGlobals "bool" = some none)
    (z_enumerate : PySem.W.nsIn K mainGlobals "enumerate" = some none)
    (z_int : PySem.W.nsIn K mainGlobals "int" = some none)
    (z_isinstance : PySem.W.nsIn K mainGlobals "isinstance" = some none)
    (z_len : PySem.W.nsIn K mainGlobals "len" = some none)
    (z_list : PySem.W.nsIn K mainGlobals "list" = some none)
    (z_min : PySem.W.nsIn K mainGlobals "min" = some none)
    (z_range : PySem.W.nsIn K mainGlobals "range" = some none)
    (z_reversed : PySem.W.nsIn K mainGlobals "reversed" = some none)
    (z_str : PySem.W.nsIn K mainGlobals "str" = some none)
    (z_tuple : PySem.W.nsIn K mainGlobals "tuple" = some none)
    (z_zip : PySem.W.nsIn K mainGlobals "zip" = some none)
    (k_A_LETTERS : Kst K mg "_A_LETTERS" K65.d_A_LETTERS)
    (k_A_OTHERS : Kst K mg "_A_OTHERS" K65.d_A_OTHERS)
    (k_MOST_FIGURES : Kst K mg "MOST_FIGURES" K65.d_MOST_FIGURES)
    (k_PUT_SORTS : Kst K mg "PUT_SORTS" K65.d_PUT_SORTS)
    (e_NotUsable : ∀ base : Heap, Err l.prog w K mg base "NotUsable" C_NotUsable "word" "at")
    (e_InvalidText : ∀ base : Heap, Err l.prog w K mg base "InvalidText" C_InvalidText "line" "at")
    (x_NotUsable_NotUsable : PySem.W.exmOne K (.ref C_NotUsable) (.ref C_NotUsable) = some true)
    (x_NotUsable_InvalidText : PySem.W.exmOne K (.ref C_InvalidText) (.ref C_NotUsable) = some false)
    (x_InvalidText_NotUsable : PySem.W.exmOne K (.ref C_NotUsable) (.ref C_InvalidText) = some false)
    (x_InvalidText_InvalidText : PySem.W.exmOne K (.ref C_InvalidText) (.ref C_InvalidText) = some true)
    (hm : ∀ ns : List Int, ns.length ≤ 63 → ∃ st, m_law [.fl (ns.map D.int)] [] = .ok (.bl true) st) :
    ∃ fd : FuncData, (∀ (s : Shared) (v : Value), BindsTo s fd ⟨[v], []⟩ [("_law_script", v)]) ∧ ∀ base : Heap, K.In base → base.Ns mainGlobals mg → FnOk l.prog w K mg base (L2.CX l.prog w) 12 fa fd ["_law_script"] (spLaw K) := by
  have e0 := d_law.ex
  obtain ⟨f, fd, F, hf, hb, hk⟩ := e0
  have e := hfa.symm.trans hf
  cases e
  refine ⟨fd, fun s v => .of_eq (hb [v] rfl), fun base hK hN => ?_⟩
  have xx_NotUsable : ∀ c ∈ errs, ∀ C', mg c = some (.ref C') → PySem.W.exmOne K (.ref C') (.ref C_NotUsable) = some (decide (c = "NotUsable")) := by
    intro c hc C' hm'
    rcases List.mem_cons.mp hc with rfl | hc
    · rw [(e_NotUsable base).mg] at hm'; cases hm'; rw [x_NotUsable_NotUsable]; rfl
    rcases List.mem_cons.mp hc with rfl | hc
    · rw [(e_InvalidText base).mg] at hm'; cases hm'; rw [x_NotUsable_InvalidText]; rfl
    · cases hc
  have xx_InvalidText : ∀ c ∈ errs, ∀ C', mg c = some (.ref C') → PySem.W.exmOne K (.ref C') (.ref C_InvalidText) = some (decide (c = "InvalidText")) := by
    intro c hc C' hm'
    rcases List.mem_cons.mp hc with rfl | hc
    · rw [(e_NotUsable base).mg] at hm'; cases hm'; rw [x_InvalidText_NotUsable]; rfl
    rcases List.mem_cons.mp hc with rfl | hc
    · rw [(e_InvalidText base).mg] at hm'; cases hm'; rw [x_InvalidText_InvalidText]; rfl
    · cases hc
  have T : Txt l.prog w K mg base C_NotUsable C_InvalidText := {
    z_bool := PySem.W.mg_none_of X G z_bool
    z_enumerate := PySem.W.mg_none_of X G z_enumerate
    z_int := PySem.W.mg_none_of X G z_int
    z_isinstance := PySem.W.mg_none_of X G z_isinstance
    z_len := PySem.W.mg_none_of X G z_len
    z_list := PySem.W.mg_none_of X G z_list
    z_min := PySem.W.mg_none_of X G z_min
    z_range := PySem.W.mg_none_of X G z_range
    z_reversed := PySem.W.mg_none_of X G z_reversed
    z_str := PySem.W.mg_none_of X G z_str
    z_tuple := PySem.W.mg_none_of X G z_tuple
    z_zip := PySem.W.mg_none_of X G z_zip
    k_A_LETTERS := k_A_LETTERS
    k_A_OTHERS := k_A_OTHERS
    k_MOST_FIGURES := k_MOST_FIGURES
    k_PUT_SORTS := k_PUT_SORTS
    e_NotUsable := e_NotUsable base
    x_NotUsable := xx_NotUsable
    e_InvalidText := e_InvalidText base
    x_InvalidText := xx_InvalidText
  }
  have h_a_begins := ok_a_begins d_a_begins T 
  have h_a_goes_on := ok_a_goes_on d_a_goes_on T 
  have h_a_word_at := ok_a_word_at d_a_word_at T h_a_begins h_a_goes_on
  have h_a_close := ok_a_close d_a_close T 
  have h_a_read := ok_a_read d_a_read T h_a_close h_a_word_at
  have h_read_tree := ok_read_tree d_read_tree T h_a_read
  have h_lines_of := ok_lines_of d_lines_of T 
  have h_number_in := ok_number_in d_number_in T 
  have h_tree_in := ok_tree_in d_tree_in T h_read_tree
  have h_entries_in := ok_entries_in d_entries_in T h_number_in h_tree_in
  have h_chain_entry := ok_chain_entry d_chain_entry T h_entries_in
  have h_read_chain := ok_read_chain d_read_chain T h_chain_entry h_lines_of
  have h_join_entry := ok_join_entry d_join_entry T h_entries_in
  have h_read_joins := ok_read_joins d_read_joins T h_join_entry h_lines_of
  have h_shown := ok_shown d_shown T 
  have h_chain_line := ok_chain_line d_chain_line T h_shown
  have h_chain_text := ok_chain_text d_chain_text T h_chain_line
  have h_join_line := ok_join_line d_join_line T h_shown
  have h_joins_text := ok_joins_text d_joins_text T h_join_line
  have h_law_tape := ok_law_tape d_law_tape T 
  have h_law_draw := ok_law_draw d_law_draw T 
  have h_law_words := ok_law_words d_law_words T h_law_draw
  have h_law_same := ok_law_same d_law_same T  8
  have h_law_any_tree := ok_law_any_tree d_law_any_tree T h_law_draw
  have h_law_show := ok_law_show d_law_show T 
  have h_law_word := ok_law_word d_law_word T 
  have h_law_parted := ok_law_parted d_law_parted T 
  have h_law_read := ok_law_read d_law_read T h_law_parted h_law_word
  have h_law_figures := ok_law_figures d_law_figures T 
  have h_law_count := ok_law_count d_law_count T h_law_draw
  have h_law_chain := ok_law_chain d_law_chain T h_law_any_tree h_law_count h_law_draw
  have h_law_rows := ok_law_rows d_law_rows T h_law_any_tree h_law_count h_law_draw
  have h_law_chain_line := ok_law_chain_line d_law_chain_line T h_law_show
  have h_law_join_line := ok_law_join_line d_law_join_line T h_law_show
  have h_law_fields := ok_law_fields d_law_fields T h_law_figures h_law_read
  have h_law_due := ok_law_due d_law_due T h_law_fields
  have h_law_told := ok_law_told d_law_told T h_read_chain h_read_joins
  have h_law_sign := ok_law_sign d_law_sign T h_law_draw
  have h_law_odd := ok_law_odd d_law_odd T h_law_draw
  have h_law_odd_line := ok_law_odd_line d_law_odd_line T h_law_draw h_law_odd
  have h_law_lines_bent := ok_law_lines_bent d_law_lines_bent T h_law_draw h_law_odd
  have h_law_bent := ok_law_bent d_law_bent T h_law_draw h_law_lines_bent h_law_sign
  have h_law_reads := ok_law_reads d_law_reads T h_law_due h_law_same h_law_told h_chain_text h_joins_text h_read_chain h_read_joins
  exact law_end (ok_law F T h_law_bent h_law_chain h_law_chain_line h_law_draw h_law_join_line h_law_odd_line h_law_reads h_law_rows h_law_same h_law_tape h_law_told h_law_words h_chain_text h_joins_text) hm
end K65
/-! ## K65l -/
set_option Elab.async false
set_option linter.all false
set_option maxRecDepth 100000
set_option maxHeartbeats 0
open PySem PySem.W PyProof.Rows in
set_option maxRecDepth 100000 in
set_option maxHeartbeats 0 in
theorem PySem.Challenge.cw_stoodthere_k65_texts_of_papers_holds : PySem.Challenge.rw_stoodthere_k65_texts_of_papers.Holds := by
  w_on; o_law; k_head; (case hw => w_witness2)
  k_fill
  refine Mi.walkM (l := PySem.Challenge.rw_stoodthere_k65_texts_of_papers) (x := "_law_script") 12 rfl rfl ⟨rfl, by decide, by decide⟩ (fun w h Y => PySem.W.kIn_of Y) ?F
  case F =>
    intro w mg fa h KX G hmg
    refine' K65.all_mk KX G hmg ?d_a_begins ?d_a_goes_on ?d_a_word_at ?d_a_close ?d_a_read ?d_read_tree ?d_lines_of ?d_number_in ?d_tree_in ?d_entries_in ?d_chain_entry ?d_read_chain ?d_join_entry ?d_read_joins ?d_shown ?d_chain_line ?d_chain_text ?d_join_line ?d_joins_text ?d_law_tape ?d_law_draw ?d_law_words ?d_law_same ?d_law_any_tree ?d_law_show ?d_law_word ?d_law_parted ?d_law_read ?d_law_figures ?d_law_count ?d_law_chain ?d_law_rows ?d_law_chain_line ?d_law_join_line ?d_law_fields ?d_law_due ?d_law_told ?d_law_sign ?d_law_odd ?d_law_odd_line ?d_law_lines_bent ?d_law_bent ?d_law_reads ?d_law ?z_bool ?z_enumerate ?z_int ?z_isinstance ?z_len ?z_list ?z_min ?z_range ?z_reversed ?z_str ?z_tuple ?z_zip ?k_A_LETTERS ?k_A_OTHERS ?k_MOST_FIGURES ?k_PUT_SORTS ?e_NotUsable ?e_InvalidText ?x_NotUsable_NotUsable ?x_NotUsable_InvalidText ?x_InvalidText_NotUsable ?x_InvalidText_InvalidText K65.law_true
    (case d_a_begins => refine' Mi.def_mk KX G ?a ?l ?c ?k (fun us hl => match us, hl with | [_], _ => rfl) (fun us hl => match us, hl with | [_], _ => rfl); (case a => k_is); (case l => k_is); (case c => k_is); (case k => k_is))
    (case d_a_goes_on => refine' Mi.def_mk KX G ?a ?l ?c ?k (fun us hl => match us, hl with | [_], _ => rfl) (fun us hl => match us, hl with | [_], _ => rfl); (case a => k_is); (case l => k_is); (case c => k_is); (case k => k_is))
    (case d_a_word_at => refine' Mi.def_mk KX G ?a ?l ?c ?k (fun us hl => match us, hl with | [_, _, _], _ => rfl) (fun us hl => match us, hl with | [_, _, _], _ => rfl); (case a => k_is); (case l => k_is); (case c => k_is); (case k => k_is))
    (case d_a_close => refine' Mi.def_mk KX G ?a ?l ?c ?k (fun us hl => match us, hl with | [_, _, _], _ => rfl) (fun us hl => match us, hl with | [_, _, _], _ => rfl); (case a => k_is); (case l => k_is); (case c => k_is); (case k => k_is))
    (case d_a_read => refine' Mi.def_mk KX G ?a ?l ?c ?k (fun us hl => match us, hl with | [_, _], _ => rfl) (fun us hl => match us, hl with | [_, _], _ => rfl); (case a => k_is); (case l => k_is); (case c => k_is); (case k => k_is))
    (case d_read_tree => refine' Mi.def_mk KX G ?a ?l ?c ?k (fun us hl => match us, hl with | [_], _ => rfl) (fun us hl => match us, hl with | [_], _ => rfl); (case a => k_is); (case l => k_is); (case c => k_is); (case k => k_is))
    (case d_lines_of => refine' Mi.def_mk KX G ?a ?l ?c ?k (fun us hl => match us, hl with | [_], _ => rfl) (fun us hl => match us, hl with | [_], _ => rfl); (case a => k_is); (case l => k_is); (case c => k_is); (case k => k_is))
    (case d_number_in => refine' Mi.def_mk KX G ?a ?l ?c ?k (fun us hl => match us, hl with | [_], _ => rfl) (fun us hl => match us, hl with | [_], _ => rfl); (case a => k_is); (case l => k_is); (case c => k_is); (case k => k_is))
    (case d_tree_in => refine' Mi.def_mk KX G ?a ?l ?c ?k (fun us hl => match us, hl with | [_], _ => rfl) (fun us hl => match us, hl with | [_], _ => rfl); (case a => k_is); (case l => k_is); (case c => k_is); (case k => k_is))
    (case d_entries_in => refine' Mi.def_mk KX G ?a ?l ?c ?k (fun us hl => match us, hl with | [_, _, _], _ => rfl) (fun us hl => match us, hl with | [_, _, _], _ => rfl); (case a => k_is); (case l => k_is); (case c => k_is); (case k => k_is))
    (case d_chain_entry => refine' Mi.def_mk KX G ?a ?l ?c ?k (fun us hl => match us, hl with | [_, _], _ => rfl) (fun us hl => match us, hl with | [_, _], _ => rfl); (case a => k_is); (case l => k_is); (case c => k_is); (case k => k_is))
    (case d_read_chain => refine' Mi.def_mk KX G ?a ?l ?c ?k (fun us hl => match us, hl with | [_], _ => rfl) (fun us hl => match us, hl with | [_], _ => rfl); (case a => k_is); (case l => k_is); (case c => k_is); (case k => k_is))
    (case d_join_entry => refine' Mi.def_mk KX G ?a ?l ?c ?k (fun us hl => match us, hl with | [_, _], _ => rfl) (fun us hl => match us, hl with | [_, _], _ => rfl); (case a => k_is); (case l => k_is); (case c => k_is); (case k => k_is))
    (case d_read_joins => refine' Mi.def_mk KX G ?a ?l ?c ?k (fun us hl => match us, hl with | [_], _ => rfl) (fun us hl => match us, hl with | [_], _ => rfl); (case a => k_is); (case l => k_is); (case c => k_is); (case k => k_is))
    (case d_shown => refine' Mi.def_mk KX G ?a ?l ?c ?k (fun us hl => match us, hl with | [_], _ => rfl) (fun us hl => match us, hl with | [_], _ => rfl); (case a => k_is); (case l => k_is); (case c => k_is); (case k => k_is))
    (case d_chain_line => refine' Mi.def_mk KX G ?a ?l ?c ?k (fun us hl => match us, hl with | [_], _ => rfl) (fun us hl => match us, hl with | [_], _ => rfl); (case a => k_is); (case l => k_is); (case c => k_is); (case k => k_is))
    (case d_chain_text => refine' Mi.def_mk KX G ?a ?l ?c ?k (fun us hl => match us, hl with | [_], _ => rfl) (fun us hl => match us, hl with | [_], _ => rfl); (case a => k_is); (case l => k_is); (case c => k_is); (case k => k_is))
    (case d_join_line => refine' Mi.def_mk KX G ?a ?l ?c ?k (fun us hl => match us, hl with | [_], _ => rfl) (fun us hl => match us, hl with | [_], _ => rfl); (case a => k_is); (case l => k_is); (case c => k_is); (case k => k_is))
    (case d_joins_text => refine' Mi.def_mk KX G ?a ?l ?c ?k (fun us hl => match us, hl with | [_], _ => rfl) (fun us hl => match us, hl with | [_], _ => rfl); (case a => k_is); (case l => k_is); (case c => k_is); (case k => k_is))
    (case d_law_tape => refine' Mi.def_mk KX G ?a ?l ?c ?k (fun us hl => match us, hl with | [_], _ => rfl) (fun us hl => match us, hl with | [_], _ => rfl); (case a => k_is); (case l => k_is); (case c => k_is); (case k => k_is))
    (case d_law_draw => refine' Mi.def_mk KX G ?a ?l ?c ?k (fun us hl => match us, hl with | [_, _], _ => rfl) (fun us hl => match us, hl with | [_, _], _ => rfl); (case a => k_is); (case l => k_is); (case c => k_is); (case k => k_is))
    (case d_law_words => refine' Mi.def_mk KX G ?a ?l ?c ?k (fun us hl => match us, hl with | [_], _ => rfl) (fun us hl => match us, hl with | [_], _ => rfl); (case a => k_is); (case l => k_is); (case c => k_is); (case k => k_is))
    (case d_law_same => refine' Mi.def_mk KX G ?a ?l ?c ?k (fun us hl => match us, hl with | [_, _], _ => rfl) (fun us hl => match us, hl with | [_, _], _ => rfl); (case a => k_is); (case l => k_is); (case c => k_is); (case k => k_is))
    (case d_law_any_tree => refine' Mi.def_mk KX G ?a ?l ?c ?k (fun us hl => match us, hl with | [_, _, _], _ => rfl) (fun us hl => match us, hl with | [_, _, _], _ => rfl); (case a => k_is); (case l => k_is); (case c => k_is); (case k => k_is))
    (case d_law_show => refine' Mi.def_mk KX G ?a ?l ?c ?k (fun us hl => match us, hl with | [_], _ => rfl) (fun us hl => match us, hl with | [_], _ => rfl); (case a => k_is); (case l => k_is); (case c => k_is); (case k => k_is))
    (case d_law_word => refine' Mi.def_mk KX G ?a ?l ?c ?k (fun us hl => match us, hl with | [_], _ => rfl) (fun us hl => match us, hl with | [_], _ => rfl); (case a => k_is); (case l => k_is); (case c => k_is); (case k => k_is))
    (case d_law_parted => refine' Mi.def_mk KX G ?a ?l ?c ?k (fun us hl => match us, hl with | [_], _ => rfl) (fun us hl => match us, hl with | [_], _ => rfl); (case a => k_is); (case l => k_is); (case c => k_is); (case k => k_is))
    (case d_law_read => refine' Mi.def_mk KX G ?a ?l ?c ?k (fun us hl => match us, hl with | [_], _ => rfl) (fun us hl => match us, hl with | [_], _ => rfl); (case a => k_is); (case l => k_is); (case c => k_is); (case k => k_is))
    (case d_law_figures => refine' Mi.def_mk KX G ?a ?l ?c ?k (fun us hl => match us, hl with | [_, _], _ => rfl) (fun us hl => match us, hl with | [_, _], _ => rfl); (case a => k_is); (case l => k_is); (case c => k_is); (case k => k_is))
    (case d_law_count => refine' Mi.def_mk KX G ?a ?l ?c ?k (fun us hl => match us, hl with | [_], _ => rfl) (fun us hl => match us, hl with | [_], _ => rfl); (case a => k_is); (case l => k_is); (case c => k_is); (case k => k_is))
    (case d_law_chain => refine' Mi.def_mk KX G ?a ?l ?c ?k (fun us hl => match us, hl with | [_, _, _], _ => rfl) (fun us hl => match us, hl with | [_, _, _], _ => rfl); (case a => k_is); (case l => k_is); (case c => k_is); (case k => k_is))
    (case d_law_rows => refine' Mi.def_mk KX G ?a ?l ?c ?k (fun us hl => match us, hl with | [_, _, _], _ => rfl) (fun us hl => match us, hl with | [_, _, _], _ => rfl); (case a => k_is); (case l => k_is); (case c => k_is); (case k => k_is))
    (case d_law_chain_line => refine' Mi.def_mk KX G ?a ?l ?c ?k (fun us hl => match us, hl with | [_], _ => rfl) (fun us hl => match us, hl with | [_], _ => rfl); (case a => k_is); (case l => k_is); (case c => k_is); (case k => k_is))
    (case d_law_join_line => refine' Mi.def_mk KX G ?a ?l ?c ?k (fun us hl => match us, hl with | [_], _ => rfl) (fun us hl => match us, hl with | [_], _ => rfl); (case a => k_is); (case l => k_is); (case c => k_is); (case k => k_is))
    (case d_law_fields => refine' Mi.def_mk KX G ?a ?l ?c ?k (fun us hl => match us, hl with | [_, _], _ => rfl) (fun us hl => match us, hl with | [_, _], _ => rfl); (case a => k_is); (case l => k_is); (case c => k_is); (case k => k_is))
    (case d_law_due => refine' Mi.def_mk KX G ?a ?l ?c ?k (fun us hl => match us, hl with | [_, _], _ => rfl) (fun us hl => match us, hl with | [_, _], _ => rfl); (case a => k_is); (case l => k_is); (case c => k_is); (case k => k_is))
    (case d_law_told => refine' Mi.def_mk KX G ?a ?l ?c ?k (fun us hl => match us, hl with | [_, _], _ => rfl) (fun us hl => match us, hl with | [_, _], _ => rfl); (case a => k_is); (case l => k_is); (case c => k_is); (case k => k_is))
    (case d_law_sign => refine' Mi.def_mk KX G ?a ?l ?c ?k (fun us hl => match us, hl with | [_], _ => rfl) (fun us hl => match us, hl with | [_], _ => rfl); (case a => k_is); (case l => k_is); (case c => k_is); (case k => k_is))
    (case d_law_odd => refine' Mi.def_mk KX G ?a ?l ?c ?k (fun us hl => match us, hl with | [_], _ => rfl) (fun us hl => match us, hl with | [_], _ => rfl); (case a => k_is); (case l => k_is); (case c => k_is); (case k => k_is))
    (case d_law_odd_line => refine' Mi.def_mk KX G ?a ?l ?c ?k (fun us hl => match us, hl with | [_], _ => rfl) (fun us hl => match us, hl with | [_], _ => rfl); (case a => k_is); (case l => k_is); (case c => k_is); (case k => k_is))
    (case d_law_lines_bent => refine' Mi.def_mk KX G ?a ?l ?c ?k (fun us hl => match us, hl with | [_, _], _ => rfl) (fun us hl => match us, hl with | [_, _], _ => rfl); (case a => k_is); (case l => k_is); (case c => k_is); (case k => k_is))
    (case d_law_bent => refine' Mi.def_mk KX G ?a ?l ?c ?k (fun us hl => match us, hl with | [_, _], _ => rfl) (fun us hl => match us, hl with | [_, _], _ => rfl); (case a => k_is); (case l => k_is); (case c => k_is); (case k => k_is))
    (case d_law_reads => refine' Mi.def_mk KX G ?a ?l ?c ?k (fun us hl => match us, hl with | [_, _], _ => rfl) (fun us hl => match us, hl with | [_, _], _ => rfl); (case a => k_is); (case l => k_is); (case c => k_is); (case k => k_is))
    (case d_law => refine' Mi.def_mk KX G ?a ?l ?c ?k (fun us hl => match us, hl with | [_], _ => rfl) (fun us hl => match us, hl with | [_], _ => rfl); (case a => k_is); (case l => k_is); (case c => k_is); (case k => k_is))
    (case z_bool => k_is)
    (case z_enumerate => k_is)
    (case z_int => k_is)
    (case z_isinstance => k_is)
    (case z_len => k_is)
    (case z_list => k_is)
    (case z_min => k_is)
    (case z_range => k_is)
    (case z_reversed => k_is)
    (case z_str => k_is)
    (case z_tuple => k_is)
    (case z_zip => k_is)
    (case k_A_LETTERS => refine' Mi.kst_str KX G ?a; (case a => k_is))
    (case k_A_OTHERS => refine' Mi.kst_str KX G ?a; (case a => k_is))
    (case k_MOST_FIGURES => refine' Mi.kst_int KX G ?a; (case a => k_is))
    (case k_PUT_SORTS => refine' Mi.kst_tup (vs := [L2.V.str "number", L2.V.str "number", L2.V.str "number", L2.V.str "number", L2.V.str "number"]) KX G ?a ?l ?z ?hv ?hr; (case a => k_is); (case l => k_is); (case z => decide); (case hv => exact (.cons ⟨_, rfl⟩ (.cons ⟨_, rfl⟩ (.cons ⟨_, rfl⟩ (.cons ⟨_, rfl⟩ (.cons ⟨_, rfl⟩ .nil)))))); (case hr => exact fun _ _ => (.cons (.str _) (.cons (.str _) (.cons (.str _) (.cons (.str _) (.cons (.str _) .nil)))))))
    (case e_NotUsable => refine' Mi.err_mk KX G ?a ?xL ?vC ?sa ?ga ?gg ?n1 ?n2 ?iC ?tI ?kC ?eC ?tC ?hC ?l ?c ?k K65.sc_NotUsable (fun us hl => match us, hl with | [_, _, _], _ => rfl) (K65.bd_NotUsable _); (case a => k_is); (case xL => k_is); (case vC => decide +kernel); (case sa => k_is); (case ga => k_is); (case gg => k_is); (case n1 => k_is); (case n2 => k_is); (case iC => k_is); (case tI => k_is); (case kC => k_is); (case eC => k_is); (case tC => k_is); (case hC => k_is); (case l => k_is); (case c => k_is); (case k => k_is))
    (case e_InvalidText => refine' Mi.err_mk KX G ?a ?xL ?vC ?sa ?ga ?gg ?n1 ?n2 ?iC ?tI ?kC ?eC ?tC ?hC ?l ?c ?k K65.sc_InvalidText (fun us hl => match us, hl with | [_, _, _], _ => rfl) (K65.bd_InvalidText _); (case a => k_is); (case xL => k_is); (case vC => decide +kernel); (case sa => k_is); (case ga => k_is); (case gg => k_is); (case n1 => k_is); (case n2 => k_is); (case iC => k_is); (case tI => k_is); (case kC => k_is); (case eC => k_is); (case tC => k_is); (case hC => k_is); (case l => k_is); (case c => k_is); (case k => k_is))
    (case x_NotUsable_NotUsable => refine' PySem.W.exm_ref ?h1 ?h2 ?h3 ?h4; (case h1 => k_is); (case h2 => k_is); (case h3 => k_is); (case h4 => first | rfl | k_is))
    (case x_NotUsable_InvalidText => refine' PySem.W.exm_ref ?h1 ?h2 ?h3 ?h4; (case h1 => k_is); (case h2 => k_is); (case h3 => k_is); (case h4 => first | rfl | k_is))
    (case x_InvalidText_NotUsable => refine' PySem.W.exm_ref ?h1 ?h2 ?h3 ?h4; (case h1 => k_is); (case h2 => k_is); (case h3 => k_is); (case h4 => first | rfl | k_is))
    (case x_InvalidText_InvalidText => refine' PySem.W.exm_ref ?h1 ?h2 ?h3 ?h4; (case h1 => k_is); (case h2 => k_is); (case h3 => k_is); (case h4 => first | rfl | k_is))
