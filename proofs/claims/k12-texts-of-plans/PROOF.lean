import PyProof.Rows.All
import HandS.ForMost
import HandS.ForExc
import HandS.Words
import HandS.WordsExc
import HandS.Defaults
import HandS.Deep
import HandS.TupAny
import HandS.TupLe
import HandS.TupMul
import HandS.Wide
import HandS.IsInst
import HandS.HeadHook1
import HandS.HeadHook2
import HandS.Lambda
import HandS.Iter
import HandS.Zip
import HandS.CallLocal
import HandS.ExcCtx
import HandS.Text
import KE.GoesEnum
import HandS.HotCalls
import HandS.ExcIs
import HandS.HeadHook4
import HandS.HeadWalk
import HandS.NestedK
import HandS.HeadEnd
import HandS.Head0
import HandS.Head1
import HandS.Head2
import PySem.Challenge.RW_anyballs_k12_whole_texts_of_plans
section
set_option Elab.async false
set_option linter.all false
set_option maxRecDepth 100000
set_option maxHeartbeats 4000000
set_option autoImplicit false
/-! The deep layer, part A: values as pure data, the store of lists, what relates them to the layer's abstract heap. -/
namespace DV
open PySem PySem.Spec PyProof.Rows L2

/-- values: data; a list by its number in the store; a def by its name; a list that is never changed -/
inductive D where
  | non | bl (b : Bool) | int (i : Int) | str (x : Str) | tup (xs : List D) | ref (n : Nat) | fn (x : Str) | lstc (xs : List D) | exc (x : Str)

/-- what a number of the store stands for -/
inductive LO where
  | lst (xs : List D)
abbrev Sto := List LO

/-- the written part, the tables of code objects, what is fixed in the heap -/
structure Ctx where
  K : PySem.W.Frag
  T : List (Addr × Str)
  Z : List (Addr × HO)
  Xs : List (Str × Addr) := []

mutual
inductive Rel (C : Ctx) (H : Hp) (fa : List Addr) : D → V → Prop
  | non : Rel C H fa .non .non
  | bl (b : Bool) : Rel C H fa (.bl b) (.bl b)
  | int (i : Int) : Rel C H fa (.int i) (.int i)
  | str (x : Str) : Rel C H fa (.str x) (.str x)
  | tup {xs : List D} {a : Addr} {vs : List V} : SqT C.K H a vs → Rels C H fa xs vs → Rel C H fa (.tup xs) (.ref a)
  | ref {n : Nat} {a : Addr} : fa[n]? = some a → Rel C H fa (.ref n) (.ref a)
  | fn (x : Str) : Rel C H fa (.fn x) (.ref (He.ga C.K x))
  | lstc {xs : List D} {a : Addr} {vs : List V} {o : HO} : (a, o) ∈ C.Z → (o = .lst vs ∨ ∃ ob, o = .frz ob (.lst vs)) → Rels C H fa xs vs → Rel C H fa (.lstc xs) (.ref a)
  | lstK {xs : List D} {a : Addr} {vs : List V} : (∃ (o : Obj) (its : Array Value) (n : Nat), C.K.lookup a = some o ∧ o.cls = .type "list" ∧ o.dict = none ∧ o.data = .seq its n ∧ its.size ≤ sizeLine ∧ Vals vs its.toList) → Rels C H fa xs vs → Rel C H fa (.lstc xs) (.ref a)
  | exc {x : Str} {a : Addr} : (x, a) ∈ C.Xs → Rel C H fa (.exc x) (.ref a)
inductive Rels (C : Ctx) (H : Hp) (fa : List Addr) : List D → List V → Prop
  | nil : Rels C H fa [] []
  | cons {d : D} {ds : List D} {v : V} {vs : List V} : Rel C H fa d v → Rels C H fa ds vs → Rels C H fa (d :: ds) (v :: vs)
end

def RelO (C : Ctx) (H : Hp) (fa : List Addr) (a : Addr) : LO → Prop
  | .lst xs => ∃ vs, H a = some (.lst vs) ∧ Rels C H fa xs vs

structure RS (C : Ctx) (H : Hp) (fa : List Addr) (S : Sto) : Prop where
  len : fa.length = S.length
  nd : fa.Nodup
  at_ : ∀ (n : Nat) (a : Addr) (o : LO), fa[n]? = some a → S[n]? = some o → RelO C H fa a o
  tabs : LamX.Tabs C.T H
  fix : ∀ p ∈ C.Z, H p.1 = some p.2 ∧ p.1 ∉ fa

structure Later (fa : List Addr) (H : Hp) (fa' : List Addr) (H' : Hp) : Prop where
  more : ∃ l, fa' = fa ++ l ∧ ∀ b ∈ l, ∀ o, H b = some o → ∃ ps, o = .tbl ps
  there : ∀ b o, H b = some o → (∀ ps, o ≠ .tbl ps) → ∃ o', H' b = some o' ∧ ∀ ps, o' ≠ .tbl ps
  keep : ∀ b o, H b = some o → b ∉ fa → (∀ ps, o ≠ .tbl ps) → H' b = some o

theorem Later.refl (fa : List Addr) (H : Hp) : Later fa H fa H := ⟨⟨[], by simp, by simp⟩, fun _ o h n => ⟨o, h, n⟩, fun _ _ h _ _ => h⟩
theorem Later.trans {fa fb fc : List Addr} {H H1 H2 : Hp} (a : Later fa H fb H1) (b : Later fb H1 fc H2) : Later fa H fc H2 := by
  obtain ⟨l, e, hl⟩ := a.more
  obtain ⟨l2, e2, hl2⟩ := b.more
  refine ⟨⟨l ++ l2, by rw [e2, e, List.append_assoc], fun c hc => ?_⟩, fun c o h n => ?_, fun c o h hn ht => ?_⟩
  · rcases List.mem_append.mp hc with h | h
    · exact hl c h
    · intro o q
      by_cases n : ∃ ps, o = .tbl ps
      · exact n
      · obtain ⟨o', e', n'⟩ := a.there c o q (fun ps z => n ⟨ps, z⟩)
        obtain ⟨ps, z⟩ := hl2 c h o' e'
        exact absurd z (n' ps)
  · obtain ⟨o', e', n'⟩ := a.there c o h n
    exact b.there c o' e' n'
  · refine b.keep c o (a.keep c o h hn ht) ?_ ht
    rw [e]
    intro hm
    rcases List.mem_append.mp hm with h1 | h1
    · exact hn h1
    · obtain ⟨ps, z⟩ := hl c h1 o h
      exact absurd z (ht ps)

theorem RS.lst {C : Ctx} {H : Hp} {fa : List Addr} {S : Sto} (r : RS C H fa S) {a : Addr} (h : a ∈ fa) : ∃ vs, H a = some (.lst vs) := by
  obtain ⟨n, hn, e⟩ := List.mem_iff_getElem.mp h
  have h1 : fa[n]? = some a := by rw [List.getElem?_eq_getElem hn, e]
  have h2 : n < S.length := by rw [← r.len]; exact hn
  have h3 := r.at_ n a S[n] h1 (List.getElem?_eq_getElem h2)
  cases q : S[n] with
  | lst xs =>
    rw [q] at h3
    obtain ⟨vs, e, _⟩ := h3
    exact ⟨vs, e⟩

theorem SqT.later {C : Ctx} {H H' : Hp} {fa fa' : List Addr} {S : Sto} (r : RS C H fa S) (l : Later fa H fa' H') {a : Addr} {vs : List V} (h : SqT C.K H a vs) : SqT C.K H' a vs := by
  rcases h with (h | ⟨o, h⟩) | h
  · refine .inl (.inl (l.keep a _ h (fun z => ?_) (fun ps z => by cases z)))
    obtain ⟨ws, e⟩ := r.lst z
    rw [h] at e
    cases e
  · refine .inl (.inr ⟨o, l.keep a _ h (fun z => ?_) (fun ps z => by cases z)⟩)
    obtain ⟨ws, e⟩ := r.lst z
    rw [h] at e
    cases e
  · exact .inr h
theorem Later.at_ {H H' : Hp} {fa fa' : List Addr} (l : Later fa H fa' H') {n : Nat} {a : Addr} (h : fa[n]? = some a) : fa'[n]? = some a := by
  obtain ⟨m, e, _⟩ := l.more
  have hn : n < fa.length := by
    rcases Nat.lt_or_ge n fa.length with q | q
    · exact q
    · rw [List.getElem?_eq_none q] at h
      cases h
  rw [e, List.getElem?_append_left hn]
  exact h
mutual
theorem Rel.later {C : Ctx} {H H' : Hp} {fa fa' : List Addr} {S : Sto} (r : RS C H fa S) (l : Later fa H fa' H') : ∀ {d : D} {v : V}, Rel C H fa d v → Rel C H' fa' d v
  | _, _, .non => .non
  | _, _, .bl b => .bl b
  | _, _, .int i => .int i
  | _, _, .str x => .str x
  | _, _, .tup h hs => .tup (SqT.later r l h) (Rels.later r l hs)
  | _, _, .ref h => .ref (l.at_ h)
  | _, _, .fn x => .fn x
  | _, _, .lstc h e hs => .lstc h e (Rels.later r l hs)
  | _, _, .lstK h hs => .lstK h (Rels.later r l hs)
  | _, _, .exc h => .exc h
theorem Rels.later {C : Ctx} {H H' : Hp} {fa fa' : List Addr} {S : Sto} (r : RS C H fa S) (l : Later fa H fa' H') : ∀ {ds : List D} {vs : List V}, Rels C H fa ds vs → Rels C H' fa' ds vs
  | _, _, .nil => .nil
  | _, _, .cons h hs => .cons (Rel.later r l h) (Rels.later r l hs)
end
theorem Rels.length {C : Ctx} {H : Hp} {fa : List Addr} : ∀ {ds : List D} {vs : List V}, Rels C H fa ds vs → ds.length = vs.length
  | _, _, .nil => rfl
  | _, _, .cons _ h => congrArg Nat.succ h.length
theorem Rels.get {C : Ctx} {H : Hp} {fa : List Addr} : ∀ {ds : List D} {vs : List V} {i : Nat} {d : D}, Rels C H fa ds vs → ds[i]? = some d → ∃ v, vs[i]? = some v ∧ Rel C H fa d v
  | _, _, _, _, .nil, e => by simp at e
  | _, _, 0, _, .cons h _, e => by simp at e; subst e; exact ⟨_, rfl, h⟩
  | _, _, i + 1, d, .cons _ h, e => by
    obtain ⟨v, h1, h2⟩ := Rels.get (i := i) (d := d) h (by simpa using e)
    exact ⟨v, by simpa using h1, h2⟩
theorem Rels.get' {C : Ctx} {H : Hp} {fa : List Addr} : ∀ {ds : List D} {vs : List V} {i : Nat} {v : V}, Rels C H fa ds vs → vs[i]? = some v → ∃ d, ds[i]? = some d ∧ Rel C H fa d v
  | _, _, _, _, .nil, e => by simp at e
  | _, _, 0, _, .cons h _, e => by simp at e; subst e; exact ⟨_, rfl, h⟩
  | _, _, i + 1, d, .cons _ h, e => by
    obtain ⟨v, h1, h2⟩ := Rels.get' (i := i) (v := d) h (by simpa using e)
    exact ⟨v, by simpa using h1, h2⟩
theorem Rels.append {C : Ctx} {H : Hp} {fa : List Addr} : ∀ {ds es : List D} {vs us : List V}, Rels C H fa ds vs → Rels C H fa es us → Rels C H fa (ds ++ es) (vs ++ us)
  | _, _, _, _, .nil, s => s
  | _, _, _, _, .cons r t, s => .cons r (Rels.append t s)
theorem Rels.take {C : Ctx} {H : Hp} {fa : List Addr} : ∀ {ds : List D} {vs : List V} (n : Nat), Rels C H fa ds vs → Rels C H fa (ds.take n) (vs.take n)
  | _, _, 0, _ => by rw [List.take_zero, List.take_zero]; exact .nil
  | _, _, _ + 1, .nil => .nil
  | _, _, n + 1, .cons r t => .cons r (Rels.take n t)
theorem Rels.drop {C : Ctx} {H : Hp} {fa : List Addr} : ∀ {ds : List D} {vs : List V} (n : Nat), Rels C H fa ds vs → Rels C H fa (ds.drop n) (vs.drop n)
  | _, _, 0, r => r
  | _, _, _ + 1, .nil => .nil
  | _, _, n + 1, .cons _ t => Rels.drop n t
theorem Rels.set {C : Ctx} {H : Hp} {fa : List Addr} {d : D} {v : V} (r : Rel C H fa d v) : ∀ {ds : List D} {vs : List V} (i : Nat), Rels C H fa ds vs → Rels C H fa (ds.set i d) (vs.set i v)
  | _, _, _, .nil => .nil
  | _, _, 0, .cons _ t => .cons r t
  | _, _, i + 1, .cons q t => .cons q (Rels.set r i t)

/-- the store: a new list -/
theorem RS.new {C : Ctx} {H : Hp} {fa : List Addr} {S : Sto} (r : RS C H fa S) {p : Addr} (hp : H p = none) {xs : List D} {vs : List V} (h : Rels C H fa xs vs) :
    Later fa H (fa ++ [p]) (upd H p (.lst vs)) ∧ RS C (upd H p (.lst vs)) (fa ++ [p]) (S ++ [.lst xs]) := by
  have l : Later fa H (fa ++ [p]) (upd H p (.lst vs)) := by
    refine ⟨⟨[p], rfl, fun b hb o e => ?_⟩, fun b o e n => ⟨o, ?_, n⟩, fun b o e _ _ => ?_⟩
    · rw [List.mem_singleton.mp hb, hp] at e
      cases e
    · rw [upd_ne (ne_of_none e hp)]
      exact e
    · rw [upd_ne (ne_of_none e hp)]
      exact e
  have np : p ∉ fa := fun z => by
    obtain ⟨ws, e⟩ := r.lst z
    rw [hp] at e
    cases e
  refine ⟨l, ⟨by simp [r.len], ?_, fun n a o e1 e2 => ?_, ?_, fun q hq => ?_⟩⟩
  · rw [List.nodup_append]
    exact ⟨r.nd, by simp, fun a ha b hb => by
      rw [List.mem_singleton.mp hb]
      intro z
      exact np (z ▸ ha)⟩
  · rcases Nat.lt_or_ge n fa.length with q | q
    · rw [List.getElem?_append_left q] at e1
      rw [List.getElem?_append_left (by rw [← r.len]; exact q)] at e2
      have z := r.at_ n a o e1 e2
      cases o with
      | lst ys =>
        obtain ⟨us, h1, h2⟩ := z
        exact ⟨us, by rw [upd_ne (ne_of_none h1 hp)]; exact h1, Rels.later r l h2⟩
    · rw [List.getElem?_append_right q] at e1
      rw [List.getElem?_append_right (by rw [← r.len]; exact q)] at e2
      cases hm : n - fa.length with
      | zero =>
        rw [hm] at e1
        rw [← r.len, hm] at e2
        simp at e1 e2
        subst e1 e2
        exact ⟨vs, upd_same, Rels.later r l h⟩
      | succ k =>
        rw [hm] at e1
        simp at e1
  · exact r.tabs.ext fun b o e => by
      rw [upd_ne (ne_of_none e hp)]
      exact e
  · obtain ⟨h1, h2⟩ := r.fix q hq
    refine ⟨by rw [upd_ne (ne_of_none h1 hp)]; exact h1, fun z => ?_⟩
    rcases List.mem_append.mp z with z | z
    · exact h2 z
    · rw [List.mem_singleton.mp z, hp] at h1
      cases h1
/-- a new tuple -/
theorem RS.newT {C : Ctx} {H : Hp} {fa : List Addr} {S : Sto} (r : RS C H fa S) {p : Addr} (hp : H p = none) (vs : List V) :
    Later fa H fa (upd H p (.tup vs)) ∧ RS C (upd H p (.tup vs)) fa S := by
  have l : Later fa H fa (upd H p (.tup vs)) := by
    refine ⟨⟨[], by simp, by simp⟩, fun b o e n => ⟨o, ?_, n⟩, fun b o e _ _ => ?_⟩
    · rw [upd_ne (ne_of_none e hp)]
      exact e
    · rw [upd_ne (ne_of_none e hp)]
      exact e
  refine ⟨l, ⟨r.len, r.nd, fun n a o e1 e2 => ?_, ?_, fun q hq => ?_⟩⟩
  · have z := r.at_ n a o e1 e2
    cases o with
    | lst ys =>
      obtain ⟨us, h1, h2⟩ := z
      exact ⟨us, by rw [upd_ne (ne_of_none h1 hp)]; exact h1, Rels.later r l h2⟩
  · exact r.tabs.ext fun b o e => by
      rw [upd_ne (ne_of_none e hp)]
      exact e
  · obtain ⟨h1, h2⟩ := r.fix q hq
    exact ⟨by rw [upd_ne (ne_of_none h1 hp)]; exact h1, h2⟩
/-- the n-th list is written -/
theorem RS.write {C : Ctx} {H : Hp} {fa : List Addr} {S : Sto} (r : RS C H fa S) {n : Nat} {a : Addr} (ha : fa[n]? = some a) {xs : List D} {vs : List V} (h : Rels C H fa xs vs) :
    Later fa H fa (upd H a (.lst vs)) ∧ RS C (upd H a (.lst vs)) fa (S.set n (.lst xs)) := by
  have hm : a ∈ fa := List.mem_of_getElem? ha
  obtain ⟨ws, ew⟩ := r.lst hm
  have l : Later fa H fa (upd H a (.lst vs)) := by
    refine ⟨⟨[], by simp, by simp⟩, fun b o e n => ?_, fun b o e hn _ => ?_⟩
    · by_cases q : b = a
      · exact ⟨.lst vs, by rw [q, upd_same], fun ps z => by cases z⟩
      · exact ⟨o, by rw [upd_ne q]; exact e, n⟩
    · have q : b ≠ a := fun z => hn (z ▸ hm)
      rw [upd_ne q]
      exact e
  refine ⟨l, ⟨by simp [r.len], r.nd, fun m b o e1 e2 => ?_, fun p hp => ?_, fun q hq => ?_⟩⟩
  · by_cases q : m = n
    · subst q
      rw [ha] at e1
      cases e1
      have hl : m < S.length := by
        rw [← r.len]
        rcases Nat.lt_or_ge m fa.length with z | z
        · exact z
        · rw [List.getElem?_eq_none z] at ha
          cases ha
      rw [List.getElem?_set_self hl] at e2
      cases e2
      exact ⟨vs, upd_same, Rels.later r l h⟩
    · rw [List.getElem?_set_ne (Ne.symm q)] at e2
      have z := r.at_ m b o e1 e2
      have nb : b ≠ a := fun e => q (by
        subst e
        exact (List.getElem_inj (h₀ := (List.getElem?_eq_some_iff.mp e1).1) (h₁ := (List.getElem?_eq_some_iff.mp ha).1) r.nd).mp ((List.getElem?_eq_some_iff.mp e1).2.trans (List.getElem?_eq_some_iff.mp ha).2.symm))
      cases o with
      | lst ys =>
        obtain ⟨us, h1, h2⟩ := z
        exact ⟨us, by rw [upd_ne nb]; exact h1, Rels.later r l h2⟩
  · obtain ⟨ps, h1, h2, h3⟩ := r.tabs p hp
    refine ⟨ps, ?_, h2, fun pos cv hc => ?_⟩
    · rw [upd_ne (fun z => by rw [z, ew] at h1; cases h1)]
      exact h1
    · obtain ⟨c, e1, e2⟩ := h3 pos cv hc
      refine ⟨c, e1, ?_⟩
      rw [upd_ne (fun z => by rw [z, ew] at e2; cases e2)]
      exact e2
  · obtain ⟨h1, h2⟩ := r.fix q hq
    refine ⟨?_, h2⟩
    rw [upd_ne (fun z => h2 (by rw [z]; exact hm))]
    exact h1

/-- all but the tables stays: so does the store -/
theorem RS.frame {C : Ctx} {H H' : Hp} {fa : List Addr} {S : Sto} (r : RS C H fa S) (e : LamX.ExtN H H') (t : LamX.Tabs C.T H') (hZ : ∀ p ∈ C.Z, ∀ ps, p.2 ≠ .tbl ps) : Later fa H fa H' ∧ RS C H' fa S := by
  have l : Later fa H fa H' := ⟨⟨[], by simp, by simp⟩, fun b o h n => ⟨o, e b o h n, n⟩, fun b o h _ n => e b o h n⟩
  refine ⟨l, r.len, r.nd, fun n a o e1 e2 => ?_, t, fun q hq => ⟨e _ _ (r.fix q hq).1 (hZ q hq), (r.fix q hq).2⟩⟩
  have z := r.at_ n a o e1 e2
  cases o with
  | lst ys =>
    obtain ⟨us, h1, h2⟩ := z
    exact ⟨us, e _ _ h1 (fun ps z => by cases z), Rels.later r l h2⟩
theorem Later.ext {H H' : Hp} {fa' : List Addr} (l : Later [] H fa' H') : LamX.ExtN H H' := fun b o h n => l.keep b o h (by simp) n
/-! ### slots -/
abbrev Env := List (Option D)
def RelSt (C : Ctx) (H : Hp) (fa : List Addr) (σd : Env) (σ : L2.St) : Prop := σd.length = σ.length ∧ ∀ (i : Nat) (d : D), σd[i]? = some (some d) → ∃ v, σ[i]? = some (some v) ∧ Rel C H fa d v
theorem RelSt.later {C : Ctx} {H H' : Hp} {fa fa' : List Addr} {S : Sto} (r : RS C H fa S) (l : Later fa H fa' H') {σd : Env} {σ : L2.St} (h : RelSt C H fa σd σ) : RelSt C H' fa' σd σ :=
  ⟨h.1, fun i d e => let ⟨v, h1, h2⟩ := h.2 i d e; ⟨v, h1, Rel.later r l h2⟩⟩
theorem RelSt.set {C : Ctx} {H : Hp} {fa : List Addr} {σd : Env} {σ : L2.St} (h : RelSt C H fa σd σ) {d : D} {v : V} (r : Rel C H fa d v) (i : Nat) : RelSt C H fa (σd.set i (some d)) (σ.set i (some v)) := by
  refine ⟨by simp [h.1], fun j e q => ?_⟩
  by_cases hj : j = i
  · subst hj
    have hl : j < σd.length := by
      rcases Nat.lt_or_ge j σd.length with z | z
      · exact z
      · rw [List.getElem?_eq_none (by simpa using z)] at q
        cases q
    rw [List.getElem?_set_self hl] at q
    cases q
    exact ⟨v, by rw [List.getElem?_set_self (by rw [← h.1]; exact hl)], r⟩
  · rw [List.getElem?_set_ne (Ne.symm hj)] at q
    obtain ⟨u, h1, h2⟩ := h.2 j e q
    exact ⟨u, by rw [List.getElem?_set_ne (Ne.symm hj)]; exact h1, h2⟩

/-! ### outcomes -/
inductive Res (α : Type) where
  | ok (a : α) (S : Sto)
  | exc (x : Str) (p : Option (Str × D)) (S : Sto)
  | bad
def Res.bind {α β : Type} : Res α → (α → Sto → Res β) → Res β
  | .ok a S, f => f a S
  | .exc x p S, _ => .exc x p S
  | .bad, _ => .bad
/-- an exception: its class, its own dict -/
def ExcRel (C : Ctx) (H : Hp) (fa : List Addr) (x : Str) (p : Option (Str × D)) (cls : Value) (de : Option Addr) : Prop :=
  cls = .ref (He.ga C.K x) ∧ match p with
    | none => de = none
    | some (f, d) => ∃ dd v, de = some dd ∧ H dd = some (.xd [(f, v)]) ∧ Rel C H fa d v
def LK (C : Ctx) (E : XK) {α : Type} (R : Hp → List Addr → α → Hp → Prop) (fa : List Addr) (H : Hp) : Res α → Prop
  | .ok d S' => ∀ fa' H', Later fa H fa' H' → RS C H' fa' S' → R H' fa' d H'
  | .exc x p S' => ∀ fa' H' cls de, Later fa H fa' H' → RS C H' fa' S' → ExcRel C H' fa' x p cls de → E cls de H'
  | .bad => False
end DV

end
section
set_option Elab.async false
set_option linter.all false
set_option maxRecDepth 100000
set_option maxHeartbeats 4000000
set_option autoImplicit false
/-! The deep layer, part B: liftings, operators. -/
namespace DV
open PySem PySem.Spec PyProof.Rows L2

/-! ### what is wanted behind an outcome -/
section
variable {α β : Type}
def LKg (C : Ctx) (E : XK) (P : Hp → List Addr → α → β → Prop) (Q : β → Hp → Prop) (fa : List Addr) (H : Hp) : Res α → Prop
  | .ok a S' => ∀ fa' H' b, Later fa H fa' H' → RS C H' fa' S' → P H' fa' a b → Q b H'
  | .exc x p S' => ∀ fa' H' cls de, Later fa H fa' H' → RS C H' fa' S' → ExcRel C H' fa' x p cls de → E cls de H'
  | .bad => False
end
section
variable {α β γ δ : Type} {C : Ctx} {E : XK} {P : Hp → List Addr → α → β → Prop} {P2 : Hp → List Addr → γ → δ → Prop} {Q : β → Hp → Prop} {Q2 : δ → Hp → Prop} {fa fa1 : List Addr} {H H1 : Hp}
theorem LKg.later {r : Res α} (h : LKg C E P Q fa H r) (l : Later fa H fa1 H1) : LKg C E P Q fa1 H1 r := by
  cases r with
  | ok a S => exact fun fa' H' b l' rs p => h fa' H' b (l.trans l') rs p
  | exc x p S => exact fun fa' H' cls de l' rs z => h fa' H' cls de (l.trans l') rs z
  | bad => exact h
theorem LKg.mono {r : Res α} {Q' : β → Hp → Prop} (h : LKg C E P Q fa H r) (m : ∀ b H', Q b H' → Q' b H') : LKg C E P Q' fa H r := by
  cases r with
  | ok a S => exact fun fa' H' b l' rs p => m _ _ (h fa' H' b l' rs p)
  | exc x p S => exact h
  | bad => exact h
theorem LKg.bind {r : Res γ} {k : γ → Sto → Res α} (h : LKg C E P Q fa H (r.bind k)) :
    LKg C E P2 (fun b H' => ∃ fa' S' a, Later fa H fa' H' ∧ RS C H' fa' S' ∧ P2 H' fa' a b ∧ LKg C E P Q fa' H' (k a S')) fa H r := by
  cases r with
  | ok a S => exact fun fa' H' b l rs p => ⟨fa', S, a, l, rs, p, LKg.later (r := k a S) h l⟩
  | exc x p S => exact h
  | bad => exact h
end
abbrev PD (C : Ctx) : Hp → List Addr → D → V → Prop := fun H fa d v => Rel C H fa d v
abbrev PDs (C : Ctx) : Hp → List Addr → List D → List V → Prop := fun H fa d v => Rels C H fa d v
abbrev PB : Hp → List Addr → Bool → Bool → Prop := fun _ _ a b => a = b
abbrev DE := Env → Sto → Res D
abbrev DEs := Env → Sto → Res (List D)
abbrev DB := Env → Sto → Res Bool
def LE (C : Ctx) (E : XK) (f : DE) : TE := fun σ H Q => ∃ σd S fa, RelSt C H fa σd σ ∧ RS C H fa S ∧ LKg C E (PD C) Q fa H (f σd S)
def LA (C : Ctx) (E : XK) (f : DEs) : TA := fun σ H Q => ∃ σd S fa, RelSt C H fa σd σ ∧ RS C H fa S ∧ LKg C E (PDs C) Q fa H (f σd S)
def LT (C : Ctx) (E : XK) (f : DB) : TT := fun σ H Q => ∃ σd S fa, RelSt C H fa σd σ ∧ RS C H fa S ∧ LKg C E PB Q fa H (f σd S)
def LR2 (C : Ctx) (E : XK) (f : D → D → Sto → Res D) : R2 := fun x y H Q => ∃ d e S fa, Rel C H fa d x ∧ Rel C H fa e y ∧ RS C H fa S ∧ LKg C E (PD C) Q fa H (f d e S)
def LR1 (C : Ctx) (E : XK) (f : D → Sto → Res D) : V → Hp → VK → Prop := fun x H Q => ∃ d S fa, Rel C H fa d x ∧ RS C H fa S ∧ LKg C E (PD C) Q fa H (f d S)
def LRs (C : Ctx) (E : XK) (f : List D → Sto → Res D) : List V → Hp → VK → Prop := fun xs H Q => ∃ ds S fa, Rels C H fa ds xs ∧ RS C H fa S ∧ LKg C E (PD C) Q fa H (f ds S)

section
variable {X : Cx} {e a b : Expr}
theorem PEimp {t t' : TE} (h : PE X e t) (m : ∀ σ H Q, t' σ H Q → t σ H Q) : PE X e t' := ⟨fun pins s σ H Q I q => h.run pins s σ H Q I (m _ _ _ q)⟩
theorem PTimp {t t' : TT} (h : PT X e t) (m : ∀ σ H Q, t' σ H Q → t σ H Q) : PT X e t' := ⟨fun pins s σ H Q I q => h.run pins s σ H Q I (m _ _ _ q)⟩
theorem PWimp {t t' : TT} (h : PW X e t) (m : ∀ σ H Q, t' σ H Q → t σ H Q) : PW X e t' := ⟨fun w pins s σ H Q I q => h.run w pins s σ H Q I (m _ _ _ q)⟩
theorem PAimp {es : List Expr} {t t' : TA} (h : PA X es t) (m : ∀ σ H Q, t' σ H Q → t σ H Q) : PA X es t' := ⟨fun pos pins s σ H Q I q => h.run pos pins s σ H Q I (m _ _ _ q)⟩
theorem PSimp {st : Stmt} {t t' : TS} (h : PS X st t) (m : ∀ D σ H, t' D σ H → t D σ H) : PS X st t' := ⟨fun pins s σ H D I q => h.run pins s σ H D I (m _ _ _ q)⟩
theorem PSsimp {st : List Stmt} {t t' : TS} (h : PSs X st t) (m : ∀ D σ H, t' D σ H → t D σ H) : PSs X st t' := ⟨fun pins s σ H D I q => h.run pins s σ H D I (m _ _ _ q)⟩
variable {C : Ctx} {E : XK}

/-! ### sequencing -/
theorem two_m {f g : DE} {h : D → D → Sto → Res D} {σ : L2.St} {H : Hp} {Q : VK} (q : LE C E (fun σ S => (f σ S).bind fun d S1 => (g σ S1).bind fun e S2 => h d e S2) σ H Q) :
    tOp (LR2 C E h) (LE C E f) (LE C E g) σ H Q := by
  obtain ⟨σd, S, fa, rs, r, q⟩ := q
  refine ⟨σd, S, fa, rs, r, (LKg.bind q).mono ?_⟩
  rintro x H1 ⟨fa1, S1, d1, l1, r1, p1, q1⟩
  refine ⟨σd, S1, fa1, rs.later r l1, r1, (LKg.bind q1).mono ?_⟩
  rintro y H2 ⟨fa2, S2, d2, l2, r2, p2, q2⟩
  exact ⟨d1, d2, S2, fa2, Rel.later r1 l2 p1, p2, r2, q2⟩
theorem le_bin {op : Operator} {f g : DE} {h : D → D → Sto → Res D} {pos : Pos} (ho : OpR X (binaryOp op) (LR2 C E h)) (ha : PE X a (LE C E f)) (hb : PE X b (LE C E g)) :
    PE X (.BinOp a op b pos) (LE C E fun σ S => (f σ S).bind fun d S1 => (g σ S1).bind fun e S2 => h d e S2) := PEimp (pe_op ho ha hb) fun _ _ _ => two_m
theorem le_cmp {op : CmpOp} {f g : DE} {h : D → D → Sto → Res D} {pos : Pos} (ho : OpR X (compareOp op) (LR2 C E h)) (hm : behindInMarks op b = false) (ha : PE X a (LE C E f)) (hb : PE X b (LE C E g)) :
    PE X (.Compare a [op] [b] pos) (LE C E fun σ S => (f σ S).bind fun d S1 => (g σ S1).bind fun e S2 => h d e S2) := PEimp (pe_cmpR ho ha hb hm) fun _ _ _ => two_m
theorem le_un {op : UnaryOp} {f : DE} {h : D → Sto → Res D} {pos : Pos} (ho : UnR X (unaryOp op) (LR1 C E h)) (ha : PE X a (LE C E f)) :
    PE X (.UnaryOp op a pos) (LE C E fun σ S => (f σ S).bind fun d S1 => h d S1) := by
  refine PEimp (pe_un ho ha) fun σ H Q q => ?_
  obtain ⟨σd, S, fa, rs, r, q⟩ := q
  refine ⟨σd, S, fa, rs, r, (LKg.bind q).mono ?_⟩
  rintro x H1 ⟨fa1, S1, d1, l1, r1, p1, q1⟩
  exact ⟨d1, S1, fa1, p1, r1, q1⟩
/-- a value as a test: a bool it must be -/
def asB : D → Sto → Res Bool
  | .bl b, S => .ok b S
  | _, _ => .bad
theorem lk_asB {r : Res D} {fa : List Addr} {H : Hp} {Q : Bool → Hp → Prop} (h : LKg C E PB Q fa H (r.bind asB)) : LKg C E (PD C) (fun x H1 => ∃ c, x = .bl c ∧ Q c H1) fa H r := by
  cases r with
  | bad => exact h
  | exc x p S => exact h
  | ok d S =>
    cases d with
    | bl k =>
      intro fa' H' v l rs p
      cases p
      exact ⟨k, rfl, h fa' H' k l rs rfl⟩
    | _ => exact h.elim
theorem LE.tB_m {f : DE} {σ : L2.St} {H : Hp} {Q : Bool → Hp → Prop} (q : LT C E (fun σ S => (f σ S).bind asB) σ H Q) : tB (LE C E f) σ H Q := by
  obtain ⟨σd, S, fa, rs, r, q⟩ := q
  exact ⟨σd, S, fa, rs, r, lk_asB q⟩
theorem lt_val {f : DE} (h : PE X e (LE C E f)) (he : ∀ whole, isTrue e X.env whole = (do let v ← whole; standAt e.pos; holding [v] (truthy v))) : PT X e (LT C E fun σ S => (f σ S).bind asB) :=
  PTimp (pt_val h he) fun _ _ _ => LE.tB_m
theorem lt_cmp {op : CmpOp} {f g : DE} {h : D → D → Sto → Res D} {pos : Pos} (ho : OpR X (compareOp op) (LR2 C E h)) (hm : behindInMarks op b = false) (ha : PE X a (LE C E f)) (hb : PE X b (LE C E g)) :
    PT X (.Compare a [op] [b] pos) (LT C E fun σ S => ((f σ S).bind fun d S1 => (g σ S1).bind fun e S2 => h d e S2).bind asB) := by
  refine PTimp (pt_cmpR ho ha hb hm) fun σ H Q q => ?_
  have q2 := LE.tB_m q
  exact two_m q2
end
section
variable {X : Cx} {C : Ctx} {E : XK}
theorem OpRimp {f : Value → Value → Sem Value} {r r' : R2} (h : OpR X f r) (m : ∀ x y H Q, r' x y H Q → r x y H Q) : OpR X f r' := fun pins s σ H x y v u Q I rx ry q => h pins s σ H x y v u Q I rx ry (m _ _ _ _ q)

/-! ### arithmetic -/
def okB (c : Bool) (S : Sto) : Res D := .ok (.bl c) S
def okI (i : Int) (S : Sto) : Res D := .ok (.int i) S
def addD : D → D → Sto → Res D
  | .int i, .int j, S => .ok (.int (i + j)) S
  | .str x, .str y, S => if x.length + y.length ≤ sizeLine then .ok (.str (x ++ y)) S else .bad
  | .tup xs, .tup ys, S => if xs.length + ys.length ≤ sizeLine then .ok (.tup (xs ++ ys)) S else .bad
  | .ref n, .ref m, S => match S[n]?, S[m]? with
    | some (.lst xs), some (.lst ys) => if xs.length + ys.length ≤ sizeLine then .ok (.ref S.length) (S ++ [.lst (xs ++ ys)]) else .bad
    | _, _ => .bad
  | _, _, _ => .bad
def subD : D → D → Sto → Res D
  | .int i, .int j, S => .ok (.int (i - j)) S
  | _, _, _ => .bad
def mulD : D → D → Sto → Res D
  | .int i, .int j, S => if i.natAbs.log2 + j.natAbs.log2 < 1000000 then .ok (.int (i * j)) S else .bad
  | .tup xs, .int k, S => if k = 1 then .ok (.tup xs) S else if 2 ≤ k ∧ k ≤ 1000 ∧ xs.length ≤ 1000 ∧ xs ≠ [] then .ok (.tup (List.replicate k.toNat xs).flatten) S
    else if k ≤ 0 ∧ -1000 ≤ k then .ok (.tup []) S else .bad
  | .ref n, .int k, S => match S[n]? with
    | some (.lst xs) => if -1000 ≤ k ∧ k ≤ 1000 ∧ xs.length ≤ 1000 then .ok (.ref S.length) (S ++ [.lst (List.replicate k.toNat xs).flatten]) else .bad
    | _ => .bad
  | _, _, _ => .bad
def fdivD : D → D → Sto → Res D
  | .int i, .int j, S => if 0 < j ∧ j.natAbs.log2 < 9000 then .ok (.int (i / j)) S else .bad
  | _, _, _ => .bad
def modD : D → D → Sto → Res D
  | .int i, .int j, S => if 0 < j then .ok (.int (i % j)) S else .bad
  | _, _, _ => .bad
def powD : D → D → Sto → Res D
  | .int i, .int j, S => if 0 ≤ j ∧ j ≤ 1000 ∧ i.natAbs < 1000 then .ok (.int (i ^ j.toNat)) S else .bad
  | _, _, _ => .bad
def negD : D → Sto → Res D
  | .int i, S => .ok (.int (-i)) S
  | _, _ => .bad

theorem RS.ref {H : Hp} {fa : List Addr} {S : Sto} (r : RS C H fa S) {n : Nat} {v : V} {xs : List D} (h : Rel C H fa (.ref n) v) (e : S[n]? = some (.lst xs)) : ∃ a vs, v = .ref a ∧ fa[n]? = some a ∧ H a = some (.lst vs) ∧ Rels C H fa xs vs := by
  cases h with
  | ref h =>
    obtain ⟨vs, h1, h2⟩ := r.at_ n _ _ h e
    exact ⟨_, vs, rfl, h, h1, h2⟩
theorem lk_ok {α β : Type} {P : Hp → List Addr → α → β → Prop} {Q : β → Hp → Prop} {fa fa' : List Addr} {H H' : Hp} {a : α} {b : β} {S' : Sto} (h : LKg C E P Q fa H (.ok a S')) (l : Later fa H fa' H') (r : RS C H' fa' S') (p : P H' fa' a b) : Q b H' := h fa' H' b l r p
theorem lk_new {Q : VK} {fa : List Addr} {H : Hp} {S : Sto} {xs : List D} {vs : List V} (h : LKg C E (PD C) Q fa H (.ok (.ref S.length) (S ++ [.lst xs]))) (r : RS C H fa S) (rl : Rels C H fa xs vs) {p : Addr} (hp : H p = none) : Q (.ref p) (upd H p (.lst vs)) := by
  obtain ⟨l, r'⟩ := r.new hp rl
  refine h _ _ _ l r' (.ref ?_)
  rw [← r.len, List.getElem?_append_right (Nat.le_refl _), Nat.sub_self]
  rfl
theorem lk_tup {Q : VK} {fa : List Addr} {H : Hp} {S : Sto} {xs : List D} {vs : List V} (h : LKg C E (PD C) Q fa H (.ok (.tup xs) S)) (r : RS C H fa S) (rl : Rels C H fa xs vs) {p : Addr} (hp : H p = none) : Q (.ref p) (upd H p (.tup vs)) := by
  obtain ⟨l, r'⟩ := r.newT hp vs
  exact h _ _ _ l r' (.tup (.inl (.inl upd_same)) (Rels.later r l rl))
theorem lk_same {Q : VK} {fa : List Addr} {H : Hp} {S : Sto} {d : D} {v : V} (h : LKg C E (PD C) Q fa H (.ok d S)) (r : RS C H fa S) (rl : Rel C H fa d v) : Q v H := h _ _ _ (.refl _ _) r rl

theorem op_addD (hk : C.K = X.K) : OpR X (binaryOp .Add) (LR2 C E addD) := by
  intro pins s σ H x y v u Q I rx ry h
  obtain ⟨d, e, S, fa, p1, p2, r, h⟩ := h
  cases d <;> cases e <;> try exact h.elim
  · cases p1
    cases p2
    exact op_add pins s σ H _ _ v u Q I rx ry ⟨_, _, rfl, rfl, lk_same h r (.int _)⟩
  · cases p1
    cases p2
    simp only [addD] at h
    split at h
    · rename_i hz
      exact op_add_str pins s σ H _ _ v u Q I rx ry ⟨_, _, rfl, rfl, hz, lk_same h r (.str _)⟩
    · exact h.elim
  · simp only [addD] at h
    split at h
    · rename_i hz
      cases p1 with
      | tup a1 a2 =>
        cases p2 with
        | tup b1 b2 =>
          rw [a2.length, b2.length] at hz
          rw [hk] at a1 b1
          refine op_catA pins s σ H _ _ v u Q I rx ry ⟨_, _, _, _, rfl, rfl, a1, b1, hz, fun e => ?_, fun e e' => ?_, fun _ _ p hp => ?_⟩
          · subst e
            cases a2
            exact lk_same h r (.tup (by rw [hk]; exact b1) b2)
          · subst e'
            cases b2
            rw [List.append_nil] at h
            exact lk_same h r (.tup (by rw [hk]; exact a1) a2)
          · exact lk_tup h r (a2.append b2) hp
    · exact h.elim
  · simp only [addD] at h
    split at h
    · rename_i xs ys e1 e2
      split at h
      · rename_i hz
        obtain ⟨a, vs, rfl, _, h1, h2⟩ := r.ref p1 e1
        obtain ⟨b, us, rfl, _, h3, h4⟩ := r.ref p2 e2
        rw [h2.length, h4.length] at hz
        exact op_cat pins s σ H _ _ v u Q I rx ry ⟨_, _, _, _, rfl, rfl, h1, h3, hz, fun p hp => lk_new h r (h2.append h4) hp⟩
      · exact h.elim
    · exact h.elim
theorem op_subD : OpR X (binaryOp .Sub) (LR2 C E subD) := by
  intro pins s σ H x y v u Q I rx ry h
  obtain ⟨d, e, S, fa, p1, p2, r, h⟩ := h
  cases d <;> cases e <;> try exact h.elim
  cases p1
  cases p2
  exact op_sub pins s σ H _ _ v u Q I rx ry ⟨_, _, rfl, rfl, lk_same h r (.int _)⟩
theorem op_fdivD : OpR X (binaryOp .FloorDiv) (LR2 C E fdivD) := by
  intro pins s σ H x y v u Q I rx ry h
  obtain ⟨d, e, S, fa, p1, p2, r, h⟩ := h
  cases d <;> cases e <;> try exact h.elim
  cases p1
  cases p2
  simp only [fdivD] at h
  split at h
  · rename_i hz
    exact op_fdivW pins s σ H _ _ v u Q I rx ry ⟨_, _, rfl, rfl, hz, lk_same h r (.int _)⟩
  · exact h.elim
theorem op_modD : OpR X (binaryOp .Mod) (LR2 C E modD) := by
  intro pins s σ H x y v u Q I rx ry h
  obtain ⟨d, e, S, fa, p1, p2, r, h⟩ := h
  cases d <;> cases e <;> try exact h.elim
  cases p1
  cases p2
  simp only [modD] at h
  split at h
  · rename_i hz
    exact op_mod pins s σ H _ _ v u Q I rx ry ⟨_, _, rfl, rfl, hz, lk_same h r (.int _)⟩
  · exact h.elim
theorem op_powD : OpR X (binaryOp .Pow) (LR2 C E powD) := by
  intro pins s σ H x y v u Q I rx ry h
  obtain ⟨d, e, S, fa, p1, p2, r, h⟩ := h
  cases d <;> cases e <;> try exact h.elim
  cases p1
  cases p2
  simp only [powD] at h
  split at h
  · rename_i hz
    exact op_pow pins s σ H _ _ v u Q I rx ry ⟨_, _, rfl, rfl, ⟨hz.1, by omega, by omega⟩, lk_same h r (.int _)⟩
  · exact h.elim
theorem un_negD : UnR X (unaryOp .USub) (LR1 C E negD) := by
  intro pins s σ H x v Q I rx h
  obtain ⟨d, S, fa, p1, r, h⟩ := h
  cases d <;> try exact h.elim
  cases p1
  exact un_neg pins s σ H _ v Q I rx ⟨_, rfl, lk_same h r (.int _)⟩
end
end DV

end
section
set_option Elab.async false
set_option linter.all false
set_option maxRecDepth 100000
set_option maxHeartbeats 4000000
set_option autoImplicit false
/-! The deep layer, part C: products with a tuple, comparisons, membership, items, slices, lengths. -/
namespace DV
open PySem PySem.Spec PyProof.Rows L2
/-! ### tuple * 1, tuple * 0 -/
theorem tuple_mul1 (l : Addr) (items : Array Value) (n : Nat) (dd : Option Addr) (sl : Array (Option Value)) (u : Tok) :
    Meets (Builtin.«tuple.__mul__» ⟨[.ref l, .int 1 u], []⟩) (fun _ R s => s.heap.get? l = some { cls := .type "tuple", dict := dd, data := .seq items n, slots := sl } ∧ R (.ok (.ret (Value.ref l))) s) :=
  .of_wp fun prog w A R s h => by
    obtain ⟨hp, g, d, tk, os⟩ := s
    obtain ⟨hl, h⟩ := h
    have f1 := AutoSeq1.idx_int
    wp_walk using wpAny_loadPart' hl
    all_goals (repeat (first
      | (refine wpAny_ite_false (by decide) ?_; wp_walk using wpAny_loadPart' hl)
      | (refine wpAny_ite_true (by rw [Bool.or_eq_true]; exact .inr (by decide)) ?_; wp_walk using wpAny_loadPart' hl)
      | (refine wpAny_ite_true (by decide) ?_; wp_walk using wpAny_loadPart' hl)))
    all_goals first | exact ⟨_, rfl, h⟩ | skip
theorem tuple_mul0 (l : Addr) (items : Array Value) (n : Nat) (dd : Option Addr) (sl : Array (Option Value)) (x : Int) (u : Tok) (h0 : x ≤ 0) (h1 : -1000 ≤ x) (hi : items.isEmpty = false) :
    Meets (Builtin.«tuple.__mul__» ⟨[.ref l, .int x u], []⟩) (fun _ R s => s.heap.get? l = some { cls := .type "tuple", dict := dd, data := .seq items n, slots := sl } ∧
      R (.ok (.ret (Value.ref s.heap.objs.size))) { s with heap := s.heap.push { cls := Value.type "tuple", data := Data.seq #[] }, toks := s.toks }) :=
  .of_wp fun prog w A R s h => by
    obtain ⟨hp, g, d, tk, os⟩ := s
    obtain ⟨hl, h⟩ := h
    have f1 := AutoSeq1.idx_int
    have c0 : (decide (x < -(2 ^ 63)) || decide (x ≥ 2 ^ 63)) = false := by
      rw [decide_eq_false (by omega), decide_eq_false (by omega)] <;> rfl
    have c1 : (items.isEmpty || x == 1) = false := by
      rw [hi, Bool.false_or]
      exact beq_eq_false_iff_ne.mpr (by omega)
    have c2 : (decide (x ≤ 0) || items.isEmpty) = true := by
      rw [decide_eq_true h0] <;> rfl
    wp_walk using wpAny_loadPart' hl
    repeat (first
      | (refine wpAny_ite_false (decide_eq_false (by rw [c0]; exact Bool.false_ne_true)) ?_; wp_walk using wpAny_loadPart' hl)
      | (refine wpAny_ite_false (decide_eq_false (by rw [c1]; exact Bool.false_ne_true)) ?_; wp_walk using wpAny_loadPart' hl)
      | (refine wpAny_ite_true (decide_eq_true (by rw [c2])) ?_; wp_walk using wpAny_loadPart' hl))
    all_goals first | exact ⟨_, rfl, h⟩ | skip
theorem tuple_mulE (l : Addr) (n : Nat) (dd : Option Addr) (sl : Array (Option Value)) (x : Int) (u : Tok) (h0 : x ≤ 0) (h1 : -1000 ≤ x) :
    Meets (Builtin.«tuple.__mul__» ⟨[.ref l, .int x u], []⟩) (fun _ R s => s.heap.get? l = some { cls := .type "tuple", dict := dd, data := .seq #[] n, slots := sl } ∧ R (.ok (.ret (Value.ref l))) s) :=
  .of_wp fun prog w A R s h => by
    obtain ⟨hp, g, d, tk, os⟩ := s
    obtain ⟨hl, h⟩ := h
    have f1 := AutoSeq1.idx_int
    have c0 : (decide (x < -(2 ^ 63)) || decide (x ≥ 2 ^ 63)) = false := by
      rw [decide_eq_false (by omega), decide_eq_false (by omega)] <;> rfl
    have c1 : ((#[] : Array Value).isEmpty || x == 1) = true := rfl
    wp_walk using wpAny_loadPart' hl
    repeat (first
      | (refine wpAny_ite_false (decide_eq_false (by rw [c0]; exact Bool.false_ne_true)) ?_; wp_walk using wpAny_loadPart' hl)
      | (refine wpAny_ite_true (decide_eq_true (by rw [c1])) ?_; wp_walk using wpAny_loadPart' hl))
    all_goals first | exact ⟨_, rfl, h⟩ | skip
section
variable {X : Cx} {C : Ctx} {E : XK}
theorem op_repT1 : OpR X (binaryOp .Mult) (fun x y H Q => ∃ l xs, x = .ref l ∧ y = .int 1 ∧ SqT X.K H l xs ∧ Q (.ref l) H) := by
  intro pins s σ H x y v u Q I rx ry h
  obtain ⟨l, xs, rfl, rfl, hT, q⟩ := h
  cases rx
  obtain ⟨t, rfl⟩ := ry
  obtain ⟨its, r, ⟨⟨cls, dd, data, sl⟩, ho, hc, n, hd⟩, hs⟩ := I.tuple hT
  simp only at hc hd
  subst hc hd
  refine wpAny_binaryOp_repeat_ref (T := "tuple") (U := "int") (by decide) ⟨_, ho, rfl⟩ (fun s' => typeIs_int s' 1 t) noFill_tuple_mul F.fills_int_mul F.slot_int_rmul repeat_tuple F.slot_int_index.lookup
    (call_meets F.slot_int_rmul (typeIs_int s 1 t) F.entry_int_rmul (F.args_int_rmul_2 _ _) (int_rmul_tuple 1 t l its.toArray n dd sl)
      ⟨ho, rfl, ⟨_, ho, rfl⟩, call_meets F.slot_tuple_mul ⟨_, ho, rfl⟩ F.entry_tuple_mul (F.args_tuple_mul_2 _ _) (tuple_mul1 l its.toArray n dd sl t) ⟨ho, ?_⟩⟩)
  exact ⟨.ref l, H, I, rfl, q⟩
theorem op_repT0 : OpR X (binaryOp .Mult) (fun x y H Q => ∃ l k xs, x = .ref l ∧ y = .int k ∧ SqT X.K H l xs ∧ k ≤ 0 ∧ -1000 ≤ k ∧ (xs = [] → Q (.ref l) H) ∧ (xs ≠ [] → ∀ p, H p = none → Q (.ref p) (upd H p (.tup [])))) := by
  intro pins s σ H x y v u Q I rx ry h
  obtain ⟨l, k, xs, rfl, rfl, hT, h0, h1, q0, q1⟩ := h
  cases rx
  obtain ⟨t, rfl⟩ := ry
  obtain ⟨its, r, ⟨⟨cls, dd, data, sl⟩, ho, hc, n, hd⟩, hs⟩ := I.tuple hT
  simp only at hc hd
  subst hc hd
  by_cases hx : xs = []
  · subst hx
    cases r
    refine wpAny_binaryOp_repeat_ref (T := "tuple") (U := "int") (by decide) ⟨_, ho, rfl⟩ (fun s' => typeIs_int s' k t) noFill_tuple_mul F.fills_int_mul F.slot_int_rmul repeat_tuple F.slot_int_index.lookup
      (call_meets F.slot_int_rmul (typeIs_int s k t) F.entry_int_rmul (F.args_int_rmul_2 _ _) (int_rmul_tuple k t l ([] : List Value).toArray n dd sl)
        ⟨ho, rfl, ⟨_, ho, rfl⟩, call_meets F.slot_tuple_mul ⟨_, ho, rfl⟩ F.entry_tuple_mul (F.args_tuple_mul_2 _ _) (tuple_mulE l n dd sl k t h0 h1) ⟨ho, ?_⟩⟩)
    exact ⟨.ref l, H, I, rfl, q0 rfl⟩
  · have hi : its.toArray.isEmpty = false := by
      cases its with
      | nil => cases r; exact absurd rfl hx
      | cons a b => rfl
    refine wpAny_binaryOp_repeat_ref (T := "tuple") (U := "int") (by decide) ⟨_, ho, rfl⟩ (fun s' => typeIs_int s' k t) noFill_tuple_mul F.fills_int_mul F.slot_int_rmul repeat_tuple F.slot_int_index.lookup
      (call_meets F.slot_int_rmul (typeIs_int s k t) F.entry_int_rmul (F.args_int_rmul_2 _ _) (int_rmul_tuple k t l its.toArray n dd sl)
        ⟨ho, rfl, ⟨_, ho, rfl⟩, call_meets F.slot_tuple_mul ⟨_, ho, rfl⟩ F.entry_tuple_mul (F.args_tuple_mul_2 _ _) (tuple_mul0 l its.toArray n dd sl k t h0 h1 hi) ⟨ho, ?_⟩⟩)
    refine ⟨.ref s.heap.objs.size, _, I.laid (t' := s.toks) (o := .tup []) (fun b ob q => Heap.get?_push_of_some _ q) (Nat.le_refl _) ?_, rfl, q1 hx _ (I.hok.fresh (Nat.le_refl _))⟩
    exact ⟨Nat.zero_le _, [], .nil, IsTup.new _ _⟩
theorem Rels.flat {H : Hp} {fa : List Addr} {ds : List D} {vs : List V} (r : Rels C H fa ds vs) : ∀ k : Nat, Rels C H fa (List.replicate k ds).flatten (List.replicate k vs).flatten
  | 0 => .nil
  | k + 1 => by
    rw [List.replicate_succ, List.replicate_succ, List.flatten_cons, List.flatten_cons]
    exact r.append (r.flat k)
theorem op_mulD (hk : C.K = X.K) : OpR X (binaryOp .Mult) (LR2 C E mulD) := by
  intro pins s σ H x y v u Q I rx ry h
  obtain ⟨d, e, S, fa, p1, p2, r, h⟩ := h
  cases d <;> cases e <;> try exact h.elim
  · cases p1
    cases p2
    simp only [mulD] at h
    split at h
    · rename_i hz
      exact op_mulW pins s σ H _ _ v u Q I rx ry ⟨_, _, rfl, rfl, hz, lk_same h r (.int _)⟩
    · exact h.elim
  · cases p2
    simp only [mulD] at h
    cases p1 with
    | tup a1 a2 =>
      rw [hk] at a1
      split at h
      · rename_i h1
        subst h1
        exact op_repT1 pins s σ H _ _ v u Q I rx ry ⟨_, _, rfl, rfl, a1, lk_same h r (.tup (by rw [hk]; exact a1) a2)⟩
      · split at h
        · rename_i h2
          refine op_repT pins s σ H _ _ v u Q I rx ry ⟨_, _, _, rfl, rfl, a1, fun z => ?_, h2.1, h2.2.1, by rw [← a2.length]; exact h2.2.2.1, fun p hp => lk_tup h r (a2.flat _) hp⟩
          subst z
          cases a2
          exact h2.2.2.2 rfl
        · split at h
          · rename_i h3
            refine op_repT0 pins s σ H _ _ v u Q I rx ry ⟨_, _, _, rfl, rfl, a1, h3.1, h3.2, fun z => ?_, fun _ p hp => lk_tup h r .nil hp⟩
            subst z
            cases a2
            exact lk_same h r (.tup (by rw [hk]; exact a1) .nil)
          · exact h.elim
  · cases p2
    simp only [mulD] at h
    split at h
    · rename_i xs e1
      split at h
      · rename_i hz
        obtain ⟨a, vs, rfl, _, h1, h2⟩ := r.ref p1 e1
        refine op_rep pins s σ H _ _ v u Q I rx ry ⟨_, _, _, rfl, rfl, h1, by omega, by omega, ?_, fun p hp => lk_new h r (h2.flat _) hp⟩
        rw [← h2.length, sizeLine_eq]
        exact Nat.le_trans (Nat.mul_le_mul hz.2.2 (show _ ≤ 1000 by omega)) (by decide)
      · exact h.elim
    · exact h.elim
/-! ### comparisons -/
def toPyW (g : Nat → Option PyData) : D → Option PyData
  | .non => some .none
  | .bl b => some (.bool b)
  | .int i => some (.int i)
  | .str x => some (.str x)
  | .tup xs => (toPysW g xs).map .tuple
  | .ref n => g n
  | .fn _ => none
  | .exc _ => none
  | .lstc xs => (toPysW g xs).map .list
where toPysW (g : Nat → Option PyData) : List D → Option (List PyData)
  | [] => some []
  | x :: xs => match toPyW g x, toPysW g xs with
    | some d, some ds => some (d :: ds)
    | _, _ => none
def gAt (g : Nat → Option PyData) (S : Sto) (n : Nat) : Option PyData := match S[n]? with
  | some (.lst xs) => (toPyW.toPysW g xs).map .list
  | none => none
def toPy (S : Sto) : D → Option PyData := toPyW (gAt (gAt (fun _ => none) S) S)
end
end DV

end
section
set_option Elab.async false
set_option linter.all false
set_option maxRecDepth 100000
set_option maxHeartbeats 4000000
set_option autoImplicit false
/-! The deep layer, part D: comparisons, membership, items, slices, lengths. -/
namespace DV
open PySem PySem.Spec PyProof.Rows L2
section
variable {X : Cx} {C : Ctx} {E : XK} {H : Hp} {fa : List Addr} {S : Sto}
theorem RS.lstc (r : RS C H fa S) {xs : List D} {v : V} (h : Rel C H fa (.lstc xs) v) : ∃ a vs, v = .ref a ∧ SqL C.K H a vs ∧ Rels C H fa xs vs := by
  cases h with
  | lstc h e hs =>
    obtain ⟨h1, _⟩ := r.fix _ h
    rcases e with e | ⟨ob, e⟩
    · rw [e] at h1
      exact ⟨_, _, rfl, .inl (.inl h1), hs⟩
    · rw [e] at h1
      exact ⟨_, _, rfl, .inl (.inr ⟨ob, h1⟩), hs⟩
  | lstK h hs => exact ⟨_, _, rfl, .inr h, hs⟩
mutual
theorem Rel.dp (r : RS C H fa S) {g : Nat → Option PyData} (hg : ∀ (n : Nat) (a : Addr) (p : PyData), fa[n]? = some a → g n = some p → Dp C.K H (.ref a) p) : ∀ (d : D) (v : V) (p : PyData), Rel C H fa d v → toPyW g d = some p → Dp C.K H v p
  | .non, v, p, h, e => by
    cases h
    simp only [toPyW, Option.some.injEq] at e
    subst e
    exact .non
  | .bl b, v, p, h, e => by
    cases h
    simp only [toPyW, Option.some.injEq] at e
    subst e
    exact .bl b
  | .int i, v, p, h, e => by
    cases h
    simp only [toPyW, Option.some.injEq] at e
    subst e
    exact .int i
  | .str x, v, p, h, e => by
    cases h
    simp only [toPyW, Option.some.injEq] at e
    subst e
    exact .str x
  | .tup xs, v, p, h, e => by
    cases h with
    | tup h hs =>
      simp only [toPyW, Option.map_eq_some_iff] at e
      obtain ⟨ps, e, rfl⟩ := e
      exact .tup h (Rels.dp r hg xs _ ps hs e)
  | .ref n, v, p, h, e => by
    cases h with
    | ref h => exact hg n _ p h e
  | .fn x, v, p, h, e => by cases e
  | .lstc xs, v, p, h, e => by
    obtain ⟨a, vs, rfl, h1, hs⟩ := r.lstc h
    simp only [toPyW, Option.map_eq_some_iff] at e
    obtain ⟨ps, e, rfl⟩ := e
    exact .lst h1 (Rels.dp r hg xs _ ps hs e)
theorem Rels.dp (r : RS C H fa S) {g : Nat → Option PyData} (hg : ∀ (n : Nat) (a : Addr) (p : PyData), fa[n]? = some a → g n = some p → Dp C.K H (.ref a) p) : ∀ (ds : List D) (vs : List V) (ps : List PyData), Rels C H fa ds vs → toPyW.toPysW g ds = some ps → DpAll C.K H vs ps
  | [], _, ps, h, e => by
    cases h
    simp only [toPyW.toPysW, Option.some.injEq] at e
    subst e
    exact .nil
  | d :: ds, _, ps, h, e => by
    cases h with
    | cons h hs =>
      simp only [toPyW.toPysW] at e
      split at e
      · rename_i p qs e1 e2
        cases e
        exact .cons (Rel.dp r hg d _ p h e1) (Rels.dp r hg ds _ qs hs e2)
      · cases e
end
theorem gAt_dp (r : RS C H fa S) {g : Nat → Option PyData} (hg : ∀ (n : Nat) (a : Addr) (p : PyData), fa[n]? = some a → g n = some p → Dp C.K H (.ref a) p) : ∀ (n : Nat) (a : Addr) (p : PyData), fa[n]? = some a → gAt g S n = some p → Dp C.K H (.ref a) p := fun n a p h e => by
  unfold gAt at e
  split at e
  · rename_i xs e1
    simp only [Option.map_eq_some_iff] at e
    obtain ⟨ps, e, rfl⟩ := e
    obtain ⟨vs, h1, h2⟩ := r.at_ n a _ h e1
    exact .lst (.inl (.inl h1)) (Rels.dp r hg xs _ ps h2 e)
  · cases e
theorem Rel.py (r : RS C H fa S) {d : D} {v : V} {p : PyData} (h : Rel C H fa d v) (e : toPy S d = some p) : Dp C.K H v p :=
  Rel.dp r (gAt_dp r (gAt_dp r fun _ _ _ _ z => by cases z)) d v p h e
/-- two data compared -/
def eqD (d e : D) (S : Sto) : Res D := match toPy S d, toPy S e with
  | some p, some q => if SeqAt.shaped p = true ∧ SeqAt.shaped q = true then .ok (.bl (PyData.eqv p q)) S else .bad
  | _, _ => .bad
def neD (d e : D) (S : Sto) : Res D := match toPy S d, toPy S e with
  | some p, some q => if SeqAt.shaped p = true ∧ SeqAt.shaped q = true then .ok (.bl (!PyData.eqv p q)) S else .bad
  | _, _ => .bad
theorem op_eqDD (hu : X.A.units + 64 < cLine) (hk : C.K = X.K) : OpR X (compareOp .Eq) (LR2 C E eqD) := by
  intro pins s σ H x y v u Q I rx ry h
  obtain ⟨d, e, S, fa, p1, p2, r, h⟩ := h
  simp only [eqD] at h
  split at h
  · rename_i p q e1 e2
    split at h
    · rename_i hz
      refine op_eqD hu pins s σ H x y v u Q I rx ry ⟨p, q, ?_, ?_, hz.1, hz.2, lk_same h r (.bl _)⟩
      · rw [← hk]; exact p1.py r e1
      · rw [← hk]; exact p2.py r e2
    · exact h.elim
  · exact h.elim
theorem op_neDD (hu : X.A.units + 64 < cLine) (hk : C.K = X.K) : OpR X (compareOp .NotEq) (LR2 C E neD) := by
  intro pins s σ H x y v u Q I rx ry h
  obtain ⟨d, e, S, fa, p1, p2, r, h⟩ := h
  simp only [neD] at h
  split at h
  · rename_i p q e1 e2
    split at h
    · rename_i hz
      refine op_neD hu pins s σ H x y v u Q I rx ry ⟨p, q, ?_, ?_, hz.1, hz.2, lk_same h r (.bl _)⟩
      · rw [← hk]; exact p1.py r e1
      · rw [← hk]; exact p2.py r e2
    · exact h.elim
  · exact h.elim
def cmpI (p : Int → Int → Bool) : D → D → Sto → Res D
  | .int i, .int j, S => .ok (.bl (p i j)) S
  | _, _, _ => .bad
abbrev ltD := cmpI fun i j => decide (i < j)
abbrev leD := cmpI fun i j => decide (i ≤ j)
abbrev gtD := cmpI fun i j => decide (j < i)
abbrev geD := cmpI fun i j => decide (j ≤ i)
theorem op_cmpI {op : CmpOp} {p : Int → Int → Bool} (ho : OpR X (compareOp op) (rI0 fun i j => .bl (p i j))) : OpR X (compareOp op) (LR2 C E (cmpI p)) := by
  intro pins s σ H x y v u Q I rx ry h
  obtain ⟨d, e, S, fa, p1, p2, r, h⟩ := h
  cases d <;> cases e <;> try exact h.elim
  cases p1
  cases p2
  exact ho pins s σ H _ _ v u Q I rx ry ⟨_, _, rfl, rfl, lk_same h r (.bl _)⟩
/-- x in c: a text in a text; data in a list or a tuple -/
def inB (neg : Bool) (d e : D) (S : Sto) : Res D := match d, e with
  | .str x, .str y => .ok (.bl (xor neg (!(Builtin.Str.occurrences y x 0 y.length 1).isEmpty))) S
  | d, e => match toPy S d, toPy S e with
    | some p, some (.list qs) => if SeqAt.shaped p = true ∧ SeqAt.shaped (.list qs) = true then .ok (.bl (xor neg (qs.any fun z => PyData.eqv z p))) S else .bad
    | some p, some (.tuple qs) => if SeqAt.shaped p = true ∧ SeqAt.shaped (.tuple qs) = true then .ok (.bl (xor neg (qs.any fun z => PyData.eqv z p))) S else .bad
    | _, _ => .bad
theorem op_inTup (hu : X.A.units + 65 < cLine) : OpR X (compareOp .In) (fun x y H Q => ∃ d ds, Dp X.K H x d ∧ Dp X.K H y (.tuple ds) ∧ SeqAt.shaped d = true ∧ SeqAt.shaped (.tuple ds) = true ∧ Q (.bl (ds.any fun z => PyData.eqv z d)) H) := by
  intro pins s σ H x y v u Q I rx ry h
  obtain ⟨d, ds, hd, he, sd, se, q⟩ := h
  obtain ⟨as, r1⟩ := Dp.reads I d x v hd rx
  obtain ⟨bs, r2⟩ := Dp.reads I (.tuple ds) y u he ry
  exact SeqAt.in_tuple_reads r2 r1 (SeqAt.canLay_of_shaped se) (SeqAt.canLay_of_shaped sd) (by
    have h1 := SeqAt.depth_of_shaped sd
    have h2 : min (PyData.depthAll ds) d.depth ≤ d.depth := Nat.min_le_right _ _
    omega) ⟨.bl _, H, I, rfl, q⟩
theorem op_notInTup (hu : X.A.units + 65 < cLine) : OpR X (compareOp .NotIn) (fun x y H Q => ∃ d ds, Dp X.K H x d ∧ Dp X.K H y (.tuple ds) ∧ SeqAt.shaped d = true ∧ SeqAt.shaped (.tuple ds) = true ∧ Q (.bl (!ds.any fun z => PyData.eqv z d)) H) := by
  intro pins s σ H x y v u Q I rx ry h
  obtain ⟨d, ds, hd, he, sd, se, q⟩ := h
  obtain ⟨as, r1⟩ := Dp.reads I d x v hd rx
  obtain ⟨bs, r2⟩ := Dp.reads I (.tuple ds) y u he ry
  exact SeqAt.notIn_tuple_reads r2 r1 (SeqAt.canLay_of_shaped se) (SeqAt.canLay_of_shaped sd) (by
    have h1 := SeqAt.depth_of_shaped sd
    have h2 : min (PyData.depthAll ds) d.depth ≤ d.depth := Nat.min_le_right _ _
    omega) ⟨.bl _, H, I, rfl, q⟩
theorem xf (b : Bool) : xor false b = b := by cases b <;> rfl
theorem xt (b : Bool) : xor true b = !b := by cases b <;> rfl
theorem op_inDD (hu : X.A.units + 65 < cLine) (hk : C.K = X.K) : OpR X (compareOp .In) (LR2 C E (inB false)) := by
  intro pins s σ H x y v u Q I rx ry h
  obtain ⟨d, e, S, fa, p1, p2, r, h⟩ := h
  have core : LKg C E (PD C) Q fa H (match toPy S d, toPy S e with
    | some p, some (.list qs) => if SeqAt.shaped p = true ∧ SeqAt.shaped (.list qs) = true then .ok (.bl (xor false (qs.any fun z => PyData.eqv z p))) S else .bad
    | some p, some (.tuple qs) => if SeqAt.shaped p = true ∧ SeqAt.shaped (.tuple qs) = true then .ok (.bl (xor false (qs.any fun z => PyData.eqv z p))) S else .bad
    | _, _ => .bad) → wpAny (model X.prog X.w) X.A (compareOp .In v u) (EP X pins σ Q) X.xe s := by
    intro h
    split at h
    · rename_i p qs e1 e2
      split at h
      · rename_i hz
        rw [xf] at h
        exact op_inD hu pins s σ H x y v u Q I rx ry ⟨p, qs, by rw [← hk]; exact p1.py r e1, by rw [← hk]; exact p2.py r e2, hz.1, hz.2, lk_same h r (.bl _)⟩
      · exact h.elim
    · rename_i p qs e1 e2
      split at h
      · rename_i hz
        rw [xf] at h
        exact op_inTup hu pins s σ H x y v u Q I rx ry ⟨p, qs, by rw [← hk]; exact p1.py r e1, by rw [← hk]; exact p2.py r e2, hz.1, hz.2, lk_same h r (.bl _)⟩
      · exact h.elim
    · exact h.elim
  cases d with
  | str x' =>
    cases e with
    | str y' =>
      cases p1
      cases p2
      simp only [inB, xf] at h
      exact op_in_str pins s σ H _ _ v u Q I rx ry ⟨_, _, rfl, rfl, lk_same h r (.bl _)⟩
    | _ => exact core h
  | _ => exact core h
theorem op_notInDD (hu : X.A.units + 65 < cLine) (hk : C.K = X.K) : OpR X (compareOp .NotIn) (LR2 C E (inB true)) := by
  intro pins s σ H x y v u Q I rx ry h
  obtain ⟨d, e, S, fa, p1, p2, r, h⟩ := h
  have core : LKg C E (PD C) Q fa H (match toPy S d, toPy S e with
    | some p, some (.list qs) => if SeqAt.shaped p = true ∧ SeqAt.shaped (.list qs) = true then .ok (.bl (xor true (qs.any fun z => PyData.eqv z p))) S else .bad
    | some p, some (.tuple qs) => if SeqAt.shaped p = true ∧ SeqAt.shaped (.tuple qs) = true then .ok (.bl (xor true (qs.any fun z => PyData.eqv z p))) S else .bad
    | _, _ => .bad) → wpAny (model X.prog X.w) X.A (compareOp .NotIn v u) (EP X pins σ Q) X.xe s := by
    intro h
    split at h
    · rename_i p qs e1 e2
      split at h
      · rename_i hz
        rw [xt] at h
        exact op_notInD hu pins s σ H x y v u Q I rx ry ⟨p, qs, by rw [← hk]; exact p1.py r e1, by rw [← hk]; exact p2.py r e2, hz.1, hz.2, lk_same h r (.bl _)⟩
      · exact h.elim
    · rename_i p qs e1 e2
      split at h
      · rename_i hz
        rw [xt] at h
        exact op_notInTup hu pins s σ H x y v u Q I rx ry ⟨p, qs, by rw [← hk]; exact p1.py r e1, by rw [← hk]; exact p2.py r e2, hz.1, hz.2, lk_same h r (.bl _)⟩
      · exact h.elim
    · exact h.elim
  cases d with
  | str x' =>
    cases e with
    | str y' =>
      cases p1
      cases p2
      simp only [inB, xt] at h
      exact op_notIn_str pins s σ H _ _ v u Q I rx ry ⟨_, _, rfl, rfl, lk_same h r (.bl _)⟩
    | _ => exact core h
  | _ => exact core h
/-- x is None -/
def isNonD : D → Bool
  | .non => true
  | _ => false
theorem Rel.isNon {d : D} {v : V} (h : Rel C H fa d v) : decide (v = .non) = isNonD d := by cases h <;> rfl
end
end DV

end
section
set_option Elab.async false
set_option linter.all false
set_option maxRecDepth 100000
set_option maxHeartbeats 4000000
set_option autoImplicit false
/-! The deep layer, part E: expressions. -/
namespace DV
open PySem PySem.Spec PyProof.Rows L2
section
variable {X : Cx} {C : Ctx} {E : XK} {a b c e : Expr} {pos : Pos}
def evVar (i : Nat) : DE := fun σ S => match σ[i]? with
  | some (some d) => .ok d S
  | _ => .bad
def evCon (d : D) : DE := fun _ S => .ok d S
theorem le_var {i : Nat} {x : Str} (hN : X.N[i]? = some x) (hv : Vis X.env.scope x) (hd : (x == ("__debug__" : Str)) = false) (hcd : (x == ("__classdict__" : Str)) = false) : PE X (.Name x pos) (LE C E (evVar i)) := by
  refine PEimp (pe_var hN hv hd hcd) fun σ H Q q => ?_
  obtain ⟨σd, S, fa, rs, r, q⟩ := q
  unfold evVar at q
  split at q
  · rename_i d e1
    obtain ⟨v, h1, h2⟩ := rs.2 i d e1
    exact ⟨v, h1, lk_same q r h2⟩
  · exact q.elim
theorem le_tC {d : D} {v : V} (h : PE X e (tC v)) (hr : ∀ H fa, Rel C H fa d v) : PE X e (LE C E (evCon d)) := by
  refine PEimp h fun σ H Q q => ?_
  obtain ⟨σd, S, fa, rs, r, q⟩ := q
  exact lk_same q r (hr _ _)
theorem le_int {i : Int} {j : Nat} : PE X (.Constant (.int i) j pos) (LE C E (evCon (.int i))) := le_tC pe_int fun _ _ => .int i
theorem le_bl {i : Bool} {j : Nat} : PE X (.Constant (.bool i) j pos) (LE C E (evCon (.bl i))) := le_tC pe_bl fun _ _ => .bl i
theorem le_non {j : Nat} : PE X (.Constant .none j pos) (LE C E (evCon .non)) := le_tC pe_non fun _ _ => .non
theorem le_str {i : Str} {j : Nat} : PE X (.Constant (.str i) j pos) (LE C E (evCon (.str i))) := le_tC pe_str fun _ _ => .str i
/-! ### truth -/
def evNot (f : DE) : DE := fun σ S => ((f σ S).bind asB).bind fun k S1 => .ok (.bl (!k)) S1
def evAnd (f g : DE) : DE := fun σ S => ((f σ S).bind asB).bind fun k S1 => if k = true then g σ S1 else .ok (.bl false) S1
def evOr (f g : DE) : DE := fun σ S => ((f σ S).bind asB).bind fun k S1 => if k = true then .ok (.bl true) S1 else g σ S1
def evIf (t f g : DE) : DE := fun σ S => ((t σ S).bind asB).bind fun k S1 => if k = true then f σ S1 else g σ S1
def evT (f : DE) : DB := fun σ S => (f σ S).bind asB
theorem bindB {r : Res Bool} {k : Bool → Sto → Res D} {fa : List Addr} {H : Hp} {Q : VK} (h : LKg C E (PD C) Q fa H (r.bind k)) :
    LKg C E PB (fun b H' => ∃ fa' S', Later fa H fa' H' ∧ RS C H' fa' S' ∧ LKg C E (PD C) Q fa' H' (k b S')) fa H r := by
  refine (LKg.bind (P2 := PB) h).mono ?_
  rintro b H' ⟨fa', S', a, l, rs, p, q⟩
  subst p
  exact ⟨fa', S', l, rs, q⟩
theorem bindB2 {r : Res Bool} {k : Bool → Sto → Res Bool} {fa : List Addr} {H : Hp} {Q : Bool → Hp → Prop} (h : LKg C E PB Q fa H (r.bind k)) :
    LKg C E PB (fun b H' => ∃ fa' S', Later fa H fa' H' ∧ RS C H' fa' S' ∧ LKg C E PB Q fa' H' (k b S')) fa H r := by
  refine (LKg.bind (P2 := PB) h).mono ?_
  rintro b H' ⟨fa', S', a, l, rs, p, q⟩
  subst p
  exact ⟨fa', S', l, rs, q⟩
theorem Res.bind_assoc {α β γ : Type} (r : Res α) (f : α → Sto → Res β) (g : β → Sto → Res γ) : (r.bind f).bind g = r.bind fun a S => (f a S).bind g := by cases r <;> rfl
theorem asB_of {k : Bool} {S : Sto} : (Res.ok (D.bl k) S).bind asB = .ok k S := rfl
theorem le_not {f : DE} (ha : PE X a (LE C E f)) : PE X (.UnaryOp .Not a pos) (LE C E (evNot f)) := by
  refine PEimp (pe_not ha) fun σ H Q q => ?_
  obtain ⟨σd, S, fa, rs, r, q⟩ := q
  refine ⟨σd, S, fa, rs, r, lk_asB ((bindB q).mono ?_)⟩
  rintro b H' ⟨fa', S', l, rs', q⟩
  exact lk_same q rs' (.bl _)
theorem lt_not {f : DE} (ha : PT X a (LT C E (evT f))) : PT X (.UnaryOp .Not a pos) (LT C E (evT (evNot f))) := by
  refine PTimp (pt_not ha) fun σ H Q q => ?_
  obtain ⟨σd, S, fa, rs, r, q⟩ := q
  refine ⟨σd, S, fa, rs, r, ?_⟩
  have e : evT (evNot f) σd S = (evT f σd S).bind fun k S1 => .ok (!k) S1 := by
    unfold evT evNot
    rw [Res.bind_assoc]
    rfl
  rw [e] at q
  refine (bindB2 q).mono ?_
  rintro b H' ⟨fa', S', l, rs', q⟩
  exact lk_ok (P := PB) q (.refl _ _) rs' rfl
theorem le_one {op : BoolOp} {f : DE} (ha : PE X a (LE C E f)) : PE X (.BoolOp op [a] pos) (LE C E f) := pe_one ha
theorem le_and {rest : List Expr} {f g : DE} (ha : PE X a (LE C E f)) (hb : PE X (.BoolOp .And (b :: rest) pos) (LE C E g)) : PE X (.BoolOp .And (a :: b :: rest) pos) (LE C E (evAnd f g)) := by
  refine PEimp (pe_and ha hb) fun σ H Q q => ?_
  obtain ⟨σd, S, fa, rs, r, q⟩ := q
  refine ⟨σd, S, fa, rs, r, lk_asB ((bindB q).mono ?_)⟩
  rintro k H' ⟨fa', S', l, rs', q⟩
  split at q
  · rw [if_pos (by assumption)]
    exact ⟨σd, S', fa', rs.later r l, rs', q⟩
  · rw [if_neg (by assumption)]
    exact lk_same q rs' (.bl _)
theorem le_or {rest : List Expr} {f g : DE} (ha : PE X a (LE C E f)) (hb : PE X (.BoolOp .Or (b :: rest) pos) (LE C E g)) : PE X (.BoolOp .Or (a :: b :: rest) pos) (LE C E (evOr f g)) := by
  refine PEimp (pe_or ha hb) fun σ H Q q => ?_
  obtain ⟨σd, S, fa, rs, r, q⟩ := q
  refine ⟨σd, S, fa, rs, r, lk_asB ((bindB q).mono ?_)⟩
  rintro k H' ⟨fa', S', l, rs', q⟩
  split at q
  · rw [if_pos (by assumption)]
    exact lk_same q rs' (.bl _)
  · rw [if_neg (by assumption)]
    exact ⟨σd, S', fa', rs.later r l, rs', q⟩
theorem evT_and {f g : DE} {σ : Env} {S : Sto} : evT (evAnd f g) σ S = (evT f σ S).bind fun k S1 => if k = true then evT g σ S1 else .ok false S1 := by
  unfold evT evAnd
  rw [Res.bind_assoc]
  congr 1
  funext k S1
  cases k <;> rfl
theorem evT_or {f g : DE} {σ : Env} {S : Sto} : evT (evOr f g) σ S = (evT f σ S).bind fun k S1 => if k = true then .ok true S1 else evT g σ S1 := by
  unfold evT evOr
  rw [Res.bind_assoc]
  congr 1
  funext k S1
  cases k <;> rfl
theorem lw_and {rest : List Expr} {f g : DE} (ha : PT X a (LT C E (evT f))) (hb : PW X (.BoolOp .And (b :: rest) pos) (LT C E (evT g))) : PW X (.BoolOp .And (a :: b :: rest) pos) (LT C E (evT (evAnd f g))) := by
  refine PWimp (pw_and ha hb) fun σ H Q q => ?_
  obtain ⟨σd, S, fa, rs, r, q⟩ := q
  rw [evT_and] at q
  refine ⟨σd, S, fa, rs, r, (bindB2 q).mono ?_⟩
  rintro k H' ⟨fa', S', l, rs', q⟩
  split at q
  · rw [if_pos (by assumption)]
    exact ⟨σd, S', fa', rs.later r l, rs', q⟩
  · rw [if_neg (by assumption)]
    exact lk_ok (P := PB) q (.refl _ _) rs' rfl
theorem lw_or {rest : List Expr} {f g : DE} (ha : PT X a (LT C E (evT f))) (hb : PW X (.BoolOp .Or (b :: rest) pos) (LT C E (evT g))) : PW X (.BoolOp .Or (a :: b :: rest) pos) (LT C E (evT (evOr f g))) := by
  refine PWimp (pw_or ha hb) fun σ H Q q => ?_
  obtain ⟨σd, S, fa, rs, r, q⟩ := q
  rw [evT_or] at q
  refine ⟨σd, S, fa, rs, r, (bindB2 q).mono ?_⟩
  rintro k H' ⟨fa', S', l, rs', q⟩
  split at q
  · rw [if_pos (by assumption)]
    exact lk_ok (P := PB) q (.refl _ _) rs' rfl
  · rw [if_neg (by assumption)]
    exact ⟨σd, S', fa', rs.later r l, rs', q⟩
theorem le_if {t f g : DE} (hc : PT X c (LT C E (evT t))) (ha : PE X a (LE C E f)) (hb : PE X b (LE C E g)) : PE X (.IfExp c a b pos) (LE C E (evIf t f g)) := by
  refine PEimp (pe_ifExp hc ha hb) fun σ H Q q => ?_
  obtain ⟨σd, S, fa, rs, r, q⟩ := q
  refine ⟨σd, S, fa, rs, r, (bindB q).mono ?_⟩
  rintro k H' ⟨fa', S', l, rs', q⟩
  split at q
  · rw [if_pos (by assumption)]
    exact ⟨σd, S', fa', rs.later r l, rs', q⟩
  · rw [if_neg (by assumption)]
    exact ⟨σd, S', fa', rs.later r l, rs', q⟩
/-! ### is None -/
def evIs (neg : Bool) (f : DE) : DE := fun σ S => (f σ S).bind fun d S1 => .ok (.bl (xor neg (isNonD d))) S1
theorem le_isN {j : Nat} {p2 : Pos} {f : DE} (ha : PE X a (LE C E f)) : PE X (.Compare a [.Is] [.Constant .none j p2] pos) (LE C E (evIs false f)) := by
  refine PEimp (pe_cmp (pc_isN ha) rfl) fun σ H Q q => ?_
  obtain ⟨σd, S, fa, rs, r, q⟩ := q
  refine ⟨σd, S, fa, rs, r, (LKg.bind q).mono ?_⟩
  rintro v H' ⟨fa', S', d, l, rs', p, q⟩
  rw [p.isNon]
  exact lk_same q rs' (by rw [xf]; exact .bl _)
theorem le_notN {j : Nat} {p2 : Pos} {f : DE} (ha : PE X a (LE C E f)) : PE X (.Compare a [.IsNot] [.Constant .none j p2] pos) (LE C E (evIs true f)) := by
  refine PEimp (pe_cmp (pc_notN ha) rfl) fun σ H Q q => ?_
  obtain ⟨σd, S, fa, rs, r, q⟩ := q
  refine ⟨σd, S, fa, rs, r, (LKg.bind q).mono ?_⟩
  rintro v H' ⟨fa', S', d, l, rs', p, q⟩
  rw [p.isNon]
  exact lk_same q rs' (by rw [xt]; exact .bl _)
theorem lt_isN {j : Nat} {p2 : Pos} {f : DE} (ha : PE X a (LE C E f)) : PT X (.Compare a [.Is] [.Constant .none j p2] pos) (LT C E (evT (evIs false f))) := by
  refine PTimp (pt_cmp (pc_isN ha) rfl) fun σ H Q q => ?_
  obtain ⟨σd, S, fa, rs, r, q⟩ := LE.tB_m q
  refine ⟨σd, S, fa, rs, r, (LKg.bind q).mono ?_⟩
  rintro v H' ⟨fa', S', d, l, rs', p, q⟩
  rw [p.isNon]
  exact lk_same q rs' (by rw [xf]; exact .bl _)
theorem lt_notN {j : Nat} {p2 : Pos} {f : DE} (ha : PE X a (LE C E f)) : PT X (.Compare a [.IsNot] [.Constant .none j p2] pos) (LT C E (evT (evIs true f))) := by
  refine PTimp (pt_cmp (pc_notN ha) rfl) fun σ H Q q => ?_
  obtain ⟨σd, S, fa, rs, r, q⟩ := LE.tB_m q
  refine ⟨σd, S, fa, rs, r, (LKg.bind q).mono ?_⟩
  rintro v H' ⟨fa', S', d, l, rs', p, q⟩
  rw [p.isNon]
  exact lk_same q rs' (by rw [xt]; exact .bl _)
/-! ### chains -/
def evChain (h1 h2 : D → D → Sto → Res D) (f g k : DE) : DE := fun σ S => (f σ S).bind fun d S1 => (g σ S1).bind fun e S2 => ((h1 d e S2).bind asB).bind fun b S3 => if b = true then (k σ S3).bind fun w S4 => h2 e w S4 else .ok (.bl false) S3
theorem chain_m {h1 h2 : D → D → Sto → Res D} {f g k : DE} {σ : L2.St} {H : Hp} {Q : VK} (q : LE C E (evChain h1 h2 f g k) σ H Q) : tChain (LR2 C E h1) (LR2 C E h2) (LE C E f) (LE C E g) (LE C E k) σ H Q := by
  obtain ⟨σd, S, fa, rs, r, q⟩ := q
  refine ⟨σd, S, fa, rs, r, (LKg.bind q).mono ?_⟩
  rintro x H1 ⟨fa1, S1, d1, l1, r1, p1, q1⟩
  refine ⟨σd, S1, fa1, rs.later r l1, r1, (LKg.bind q1).mono ?_⟩
  rintro y H2 ⟨fa2, S2, d2, l2, r2, p2, q2⟩
  refine ⟨d1, d2, S2, fa2, Rel.later r1 l2 p1, p2, r2, lk_asB ((bindB q2).mono ?_)⟩
  rintro b H3 ⟨fa3, S3, l3, r3, q3⟩
  split at q3
  · rw [if_pos (by assumption)]
    refine ⟨σd, S3, fa3, (((rs.later r l1).later r1 l2).later r2 l3), r3, (LKg.bind q3).mono ?_⟩
    rintro w H4 ⟨fa4, S4, d4, l4, r4, p4, q4⟩
    exact ⟨d2, d4, S4, fa4, Rel.later r2 (l3.trans l4) p2, p4, r4, q4⟩
  · rw [if_neg (by assumption)]
    exact lk_same q3 r3 (.bl _)
theorem le_chain {op op' : CmpOp} {h1 h2 : D → D → Sto → Res D} {f g k : DE} (ho : OpR X (compareOp op) (LR2 C E h1)) (ho' : OpR X (compareOp op') (LR2 C E h2)) (ha : PE X a (LE C E f)) (hb : PE X b (LE C E g)) (hc : PE X c (LE C E k))
    (hm : lastMarks [op, op'] [b, c] = false) : PE X (.Compare a [op, op'] [b, c] pos) (LE C E (evChain h1 h2 f g k)) := PEimp (pe_chain ho ho' ha hb hc hm) fun _ _ _ => chain_m
theorem lt_chain {op op' : CmpOp} {h1 h2 : D → D → Sto → Res D} {f g k : DE} (ho : OpR X (compareOp op) (LR2 C E h1)) (ho' : OpR X (compareOp op') (LR2 C E h2)) (ha : PE X a (LE C E f)) (hb : PE X b (LE C E g)) (hc : PE X c (LE C E k))
    (hm : lastMarks [op, op'] [b, c] = false) : PT X (.Compare a [op, op'] [b, c] pos) (LT C E (evT (evChain h1 h2 f g k))) := PTimp (pt_chain ho ho' ha hb hc hm) fun _ _ _ q => LE.tB_m (f := evChain h1 h2 f g k) q |> fun z => by
  obtain ⟨σd, S, fa, rs, r, q⟩ := z
  exact chain_m ⟨σd, S, fa, rs, r, q⟩
/-! ### arguments, displays -/
def evNil : DEs := fun _ S => .ok [] S
def evCons (f : DE) (g : DEs) : DEs := fun σ S => (f σ S).bind fun d S1 => (g σ S1).bind fun ds S2 => .ok (d :: ds) S2
theorem la_nil : PA X [] (LA C E evNil) := by
  refine PAimp pa_nil fun σ H Q q => ?_
  obtain ⟨σd, S, fa, rs, r, q⟩ := q
  exact lk_ok (P := PDs C) q (.refl _ _) r .nil
theorem la_cons {es : List Expr} {f : DE} {g : DEs} (ha : PE X e (LE C E f)) (hr : PA X es (LA C E g)) (hs : starEach (e :: es) X.env = (false, eval e X.env) :: starEach es X.env) : PA X (e :: es) (LA C E (evCons f g)) := by
  refine PAimp (pa_cons ha hr hs) fun σ H Q q => ?_
  obtain ⟨σd, S, fa, rs, r, q⟩ := q
  refine ⟨σd, S, fa, rs, r, (LKg.bind q).mono ?_⟩
  rintro x H1 ⟨fa1, S1, d1, l1, r1, p1, q1⟩
  refine ⟨σd, S1, fa1, rs.later r l1, r1, (LKg.bind (P2 := PDs C) q1).mono ?_⟩
  rintro xs H2 ⟨fa2, S2, d2, l2, r2, p2, q2⟩
  exact lk_ok (P := PDs C) q2 (.refl _ _) r2 (.cons (Rel.later r1 l2 p1) p2)
def evTup (f : DEs) : DE := fun σ S => (f σ S).bind fun ds S1 => if ds.length ≤ 16777216 then .ok (.tup ds) S1 else .bad
def evLst (f : DEs) : DE := fun σ S => (f σ S).bind fun ds S1 => if ds.length ≤ 16777216 then .ok (.ref S1.length) (S1 ++ [.lst ds]) else .bad
theorem le_tup {es : List Expr} {k : Nat} {f : DEs} (h : PA X es (LA C E f)) : PE X (.Tuple es k pos) (LE C E (evTup f)) := by
  refine PEimp (pe_tup h) fun σ H Q q => ?_
  obtain ⟨σd, S, fa, rs, r, q⟩ := q
  refine ⟨σd, S, fa, rs, r, (LKg.bind q).mono ?_⟩
  rintro xs H1 ⟨fa1, S1, ds, l1, r1, p1, q1⟩
  split at q1
  · rename_i hz
    exact ⟨by rw [← Rels.length p1, sizeLine_eq]; exact hz, fun p hp => lk_tup q1 r1 p1 hp⟩
  · exact q1.elim
theorem le_lst {es : List Expr} {f : DEs} (h : PA X es (LA C E f)) : PE X (.List es pos) (LE C E (evLst f)) := by
  refine PEimp (pe_lst h) fun σ H Q q => ?_
  obtain ⟨σd, S, fa, rs, r, q⟩ := q
  refine ⟨σd, S, fa, rs, r, (LKg.bind q).mono ?_⟩
  rintro xs H1 ⟨fa1, S1, ds, l1, r1, p1, q1⟩
  split at q1
  · rename_i hz
    exact ⟨by rw [← Rels.length p1, sizeLine_eq]; exact hz, fun p hp => lk_new q1 r1 p1 hp⟩
  · exact q1.elim
/-! ### items -/
def seqOf (S : Sto) : D → Option (List D)
  | .tup xs => some xs
  | .lstc xs => some xs
  | .ref n => match S[n]? with
    | some (.lst xs) => some xs
    | none => none
  | _ => none
theorem seqOf_rel {H : Hp} {fa : List Addr} {S : Sto} (r : RS C H fa S) {d : D} {v : V} {xs : List D} (h : Rel C H fa d v) (e : seqOf S d = some xs) : ∃ a vs, v = .ref a ∧ (SqL C.K H a vs ∨ SqT C.K H a vs) ∧ Rels C H fa xs vs := by
  cases d with
  | tup ys =>
    cases e
    cases h with
    | tup h hs => exact ⟨_, _, rfl, .inr h, hs⟩
  | lstc ys =>
    cases e
    obtain ⟨a, vs, h1, h2, h3⟩ := r.lstc h
    exact ⟨a, vs, h1, .inl h2, h3⟩
  | ref n =>
    simp only [seqOf] at e
    split at e
    · rename_i ys e1
      cases e
      obtain ⟨a, vs, h1, _, h2, h3⟩ := r.ref h e1
      exact ⟨a, vs, h1, .inl (.inl (.inl h2)), h3⟩
    · cases e
  | _ => cases e
def idxD (d i : D) (S : Sto) : Res D := match d, i with
  | .str z, .int i => match atI z.cps.toList i with
    | some c => if z.length ≤ 16777216 then .ok (.str ⟨#[c]⟩) S else .bad
    | none => .bad
  | d, .int i => match seqOf S d with
    | some xs => match atI xs i with
      | some x => .ok x S
      | none => .bad
    | none => .bad
  | _, _ => .bad
theorem atI_rel {H : Hp} {fa : List Addr} {ds : List D} {vs : List V} (h : Rels C H fa ds vs) {i : Int} {d : D} (e : atI ds i = some d) : ∃ v, atI vs i = some v ∧ Rel C H fa d v := by
  unfold atI at e ⊢
  rw [h.length] at e
  cases q : ixN vs.length i with
  | none =>
    rw [q] at e
    cases e
  | some j =>
    rw [q] at e
    exact h.get e
theorem ix_D (hk : C.K = X.K) : IxR X (LR2 C E idxD) := by
  intro va sl pins s σ H x y v u Q I rx ry h hs
  obtain ⟨d, e, S, fa, p1, p2, r, h⟩ := h
  have core : ∀ i : Int, e = .int i → LKg C E (PD C) Q fa H (match seqOf S d with
    | some xs => match atI xs i with
      | some x => .ok x S
      | none => .bad
    | none => .bad) → wpAny (model X.prog X.w) X.A (subscriptTail va sl v u) (EP X pins σ Q) X.xe s := by
    intro i ei g
    clear h
    subst ei
    split at g
    · rename_i xs e1
      split at g
      · rename_i d' e2
        cases p2
        obtain ⟨a, vs, rfl, hq, hs2⟩ := seqOf_rel r p1 e1
        obtain ⟨w, e3, p3⟩ := atI_rel hs2 e2
        rw [hk] at hq
        rcases hq with hq | hq
        · exact ix_list va sl pins s σ H _ _ v u Q I rx ry ⟨a, vs, i, w, rfl, rfl, hq, e3, lk_same g r p3⟩ hs
        · exact ix_tup va sl pins s σ H _ _ v u Q I rx ry ⟨a, vs, i, w, rfl, rfl, hq, e3, lk_same g r p3⟩ hs
      · exact g.elim
    · exact g.elim
  cases e with
  | int i =>
    cases d with
    | str z =>
      cases p1
      cases p2
      simp only [idxD] at h
      split at h
      · rename_i c e1
        split at h
        · rename_i hz
          exact ix_str va sl pins s σ H _ _ v u Q I rx ry ⟨z, i, c, rfl, rfl, by rw [sizeLine_eq]; exact hz, e1, lk_same h r (.str _)⟩ hs
        · exact h.elim
      · exact h.elim
    | _ => exact core i rfl h
  | _ => cases d <;> exact h.elim
theorem le_ix {f g : DE} (hk : C.K = X.K) (ha : PE X a (LE C E f)) (hb : PE X b (LE C E g)) (hs : PlainIx b) : PE X (.Subscript a b pos) (LE C E fun σ S => (f σ S).bind fun d S1 => (g σ S1).bind fun e S2 => idxD d e S2) :=
  PEimp (pe_ix (ix_D hk) ha hb hs) fun _ _ _ => two_m
/-! ### slices -/
abbrev DO := Env → Sto → Res (Option Int)
abbrev PO' : Hp → List Addr → Option Int → Option Int → Prop := fun _ _ a b => a = b
def LO' (C : Ctx) (E : XK) (f : DO) : TO := fun σ H Q => ∃ σd S fa, RelSt C H fa σd σ ∧ RS C H fa S ∧ LKg C E PO' Q fa H (f σd S)
def poNone : DO := fun _ S => .ok none S
def asI : D → Sto → Res (Option Int)
  | .int i, S => .ok (some i) S
  | _, _ => .bad
def poSome (f : DE) : DO := fun σ S => (f σ S).bind asI
theorem lo_none : PO X none (LO' C E poNone) := ⟨fun pins s σ H Q I h => (po_none (X := X)).run pins s σ H Q I (by
  obtain ⟨σd, S, fa, rs, r, q⟩ := h
  exact lk_ok (P := PO') q (.refl _ _) r rfl)⟩
theorem lo_some {f : DE} (h : PE X e (LE C E f)) : PO X (some e) (LO' C E (poSome f)) := ⟨fun pins s σ H Q I hw => (po_some h).run pins s σ H Q I (by
  obtain ⟨σd, S, fa, rs, r, q⟩ := hw
  refine ⟨σd, S, fa, rs, r, ?_⟩
  unfold poSome at q
  cases hf : f σd S with
  | bad => rw [hf] at q; exact q
  | exc x p S => rw [hf] at q; exact q
  | ok d S1 =>
    rw [hf] at q
    cases d with
    | int i =>
      intro fa' H' v l rs' p
      cases p
      exact ⟨i, rfl, lk_ok (P := PO') q l rs' rfl⟩
    | _ => exact q.elim)⟩
def cutD (xs : List D) (lo hi : Option Int) : List D := (xs.drop (HT.sIx xs.length 0 lo)).take (HT.sIx xs.length xs.length hi - HT.sIx xs.length 0 lo)
def slD (d : D) (lo hi : Option Int) (S : Sto) : Res D := match d with
  | .tup xs => .ok (.tup (cutD xs lo hi)) S
  | .ref n => match S[n]? with
    | some (.lst xs) => .ok (.ref S.length) (S ++ [.lst (cutD xs lo hi)])
    | none => .bad
  | .lstc xs => .ok (.ref S.length) (S ++ [.lst (cutD xs lo hi)])
  | .str z => if z.length ≤ 16777216 then .ok (.str (cutS z lo hi)) S else .bad
  | _ => .bad
theorem cut_rel {H : Hp} {fa : List Addr} {ds : List D} {vs : List V} (h : Rels C H fa ds vs) (lo hi : Option Int) : Rels C H fa (cutD ds lo hi) (cutV vs lo hi) := by
  unfold cutD cutV
  rw [h.length]
  exact (h.drop _).take _
def LSl (C : Ctx) (E : XK) (f : D → Option Int → Option Int → Sto → Res D) : V → Option Int → Option Int → Hp → VK → Prop := fun x lo hi H Q => ∃ d S fa, Rel C H fa d x ∧ RS C H fa S ∧ LKg C E (PD C) Q fa H (f d lo hi S)
theorem sl_D (hk : C.K = X.K) : SlR X (LSl C E slD) := by
  intro pins s σ H x v vl vu lo hi sl Q I rx hs pl pu h
  obtain ⟨d, S, fa, p, r, h⟩ := h
  cases d with
  | tup xs =>
    cases p with
    | tup h1 h2 =>
      rw [hk] at h1
      refine sl_tupA pins s σ H _ v vl vu lo hi sl Q I rx hs pl pu ⟨_, _, rfl, h1, fun z => ?_, fun _ p hp => lk_tup h r (cut_rel h2 lo hi) hp⟩
      have e : cutD xs lo hi = xs := by
        unfold cutD
        rw [h2.length, z.1, z.2, List.drop_zero, ← h2.length, Nat.sub_zero, List.take_length]
      simp only [slD, e] at h
      exact lk_same h r (.tup (by rw [hk]; exact h1) h2)
  | ref n =>
    simp only [slD] at h
    split at h
    · rename_i xs e1
      obtain ⟨a, vs, rfl, _, h1, h2⟩ := r.ref p e1
      exact sl_list pins s σ H _ v vl vu lo hi sl Q I rx hs pl pu ⟨_, _, rfl, .inl (.inl h1), fun p hp => lk_new h r (cut_rel h2 lo hi) hp⟩
    · exact h.elim
  | lstc xs =>
    obtain ⟨a, vs, rfl, h1, h2⟩ := r.lstc p
    rw [hk] at h1
    exact sl_list pins s σ H _ v vl vu lo hi sl Q I rx hs pl pu ⟨_, _, rfl, h1, fun p hp => lk_new h r (cut_rel h2 lo hi) hp⟩
  | str z =>
    cases p
    simp only [slD] at h
    split at h
    · rename_i hz
      exact sl_str pins s σ H _ v vl vu lo hi sl Q I rx hs pl pu ⟨z, rfl, by rw [sizeLine_eq]; exact hz, lk_same h r (.str _)⟩
    · exact h.elim
  | _ => exact h.elim
theorem le_slice {lo hi : Option Expr} {f : DE} {g k : DO} {p2 : Pos} (hk : C.K = X.K) (ha : PE X a (LE C E f)) (hl : PO X lo (LO' C E g)) (hu : PO X hi (LO' C E k)) :
    PE X (.Subscript a (.Slice lo hi none p2) pos) (LE C E fun σ S => (f σ S).bind fun d S1 => (g σ S1).bind fun l S2 => (k σ S2).bind fun u S3 => slD d l u S3) := by
  refine PEimp (pe_slice (sl_D (E := E) hk) ha hl hu) fun σ H Q q => ?_
  obtain ⟨σd, S, fa, rs, r, q⟩ := q
  refine ⟨σd, S, fa, rs, r, (LKg.bind q).mono ?_⟩
  rintro x H1 ⟨fa1, S1, d, l1, r1, p1, q1⟩
  refine ⟨σd, S1, fa1, rs.later r l1, r1, (LKg.bind (P2 := PO') q1).mono ?_⟩
  rintro lo' H2 ⟨fa2, S2, lo2, l2, r2, p2, q2⟩
  subst p2
  refine ⟨σd, S2, fa2, ((rs.later r l1).later r1 l2), r2, (LKg.bind (P2 := PO') q2).mono ?_⟩
  rintro hi' H3 ⟨fa3, S3, hi2, l3, r3, p3, q3⟩
  subst p3
  exact ⟨d, S3, fa3, Rel.later r1 (l2.trans l3) p1, r3, q3⟩
end
end DV

end
section
set_option Elab.async false
set_option linter.all false
set_option maxRecDepth 100000
set_option maxHeartbeats 4000000
set_option autoImplicit false
/-! The deep layer, part F: calls. -/
namespace DV
open PySem PySem.Spec PyProof.Rows L2
section
variable {X : Cx} {C : Ctx} {E : XK} {a b c e : Expr} {pos : Pos}
theorem CallRimp {f : Value} {r r' : List V → Hp → VK → Prop} (h : CallR X f r) (m : ∀ xs H Q, r' xs H Q → r xs H Q) : CallR X f r' := fun pins s σ H xs us Q I rs q => h pins s σ H xs us Q I rs (m _ _ _ q)
theorem args_m {f : DEs} {g : List D → Sto → Res D} {σ : L2.St} {H : Hp} {Q : VK} (q : LE C E (fun σ S => (f σ S).bind g) σ H Q) : LA C E f σ H fun vs H1 => LRs C E g vs H1 Q := by
  obtain ⟨σd, S, fa, rs, r, q⟩ := q
  refine ⟨σd, S, fa, rs, r, (LKg.bind (P2 := PDs C) q).mono ?_⟩
  rintro xs H1 ⟨fa1, S1, ds, l1, r1, p1, q1⟩
  exact ⟨ds, S1, fa1, p1, r1, q1⟩
theorem le_callB {id : String} {x : Str} {p : Pos} {es : List Expr} {f : DEs} {g : List D → Sto → Res D} (hc : CallR X (.builtin id) (LRs C E g)) (hg : Gl X x) (hm : X.mg x = none) (hv : bootBuiltins x = some (.builtin id)) (ha : PA X (e :: es) (LA C E f))
    (hn : x ≠ "__name__") (hdb : (x == ("__debug__" : Str)) = false) (he : starEach (e :: es) X.env = (false, eval e X.env) :: starEach es X.env) (hpl : (backTo pos (starEach es X.env)).any (·.1) = false) :
    PE X (.Call (.Name x p) (e :: es) [] pos) (LE C E fun σ S => (f σ S).bind g) := PEimp (pe_callB hc hg hm hv ha hn hdb he hpl) fun _ _ _ => args_m
theorem le_callTy {T : String} {x : Str} {p : Pos} {es : List Expr} {f : DEs} {g : List D → Sto → Res D} (hc : CallR X (.type T) (LRs C E g)) (hg : Gl X x) (hm : X.mg x = none) (hv : bootBuiltins x = some (.type T)) (ha : PA X (e :: es) (LA C E f))
    (hn : x ≠ "__name__") (hdb : (x == ("__debug__" : Str)) = false) (he : starEach (e :: es) X.env = (false, eval e X.env) :: starEach es X.env) (hpl : (backTo pos (starEach es X.env)).any (·.1) = false) :
    PE X (.Call (.Name x p) (e :: es) [] pos) (LE C E fun σ S => (f σ S).bind g) := PEimp (pe_callTy hc hg hm hv ha hn hdb he hpl) fun _ _ _ => args_m

/-! ### built-ins -/
def lenD : List D → Sto → Res D
  | [.str z], S => if z.length ≤ 16777216 then .ok (.int z.length) S else .bad
  | [d], S => match seqOf S d with
    | some xs => .ok (.int xs.length) S
    | none => .bad
  | _, _ => .bad
theorem seq_str {z : Str} {S : Sto} : seqOf S (.str z) = none := rfl
theorem Rels.one {H : Hp} {fa : List Addr} {d : D} {vs : List V} (h : Rels C H fa [d] vs) : ∃ v, vs = [v] ∧ Rel C H fa d v := by
  cases h with
  | cons h hs => cases hs; exact ⟨_, rfl, h⟩
theorem Rels.two {H : Hp} {fa : List Addr} {d e : D} {vs : List V} (h : Rels C H fa [d, e] vs) : ∃ v u, vs = [v, u] ∧ Rel C H fa d v ∧ Rel C H fa e u := by
  cases h with
  | cons h hs =>
    obtain ⟨u, rfl, h2⟩ := hs.one
    exact ⟨_, _, rfl, h, h2⟩
theorem call_lenD (hk : C.K = X.K) : CallR X (.builtin "len") (LRs C E lenD) := by
  intro pins s σ H xs us Q I rs h
  obtain ⟨ds, S, fa, p, r, h⟩ := h
  have core : ∀ d, ds = [d] → LKg C E (PD C) Q fa H (match seqOf S d with
    | some xs => .ok (.int xs.length) S
    | none => .bad) → wpAny (model X.prog X.w) X.A (call (.builtin "len") us) (EP X pins σ Q) X.xe s := by
    intro d ed g
    clear h
    subst ed
    obtain ⟨v, rfl, p1⟩ := p.one
    split at g
    · rename_i ys e1
      obtain ⟨a, vs, rfl, hq, hs2⟩ := seqOf_rel r p1 e1
      rw [hk] at hq
      refine call_len_seq pins s σ H _ us Q I rs ⟨a, vs, rfl, hq, ?_⟩
      rw [← hs2.length]
      exact lk_same g r (.int _)
    · exact g.elim
  unfold lenD at h
  split at h
  · obtain ⟨v, rfl, p1⟩ := p.one
    cases p1
    split at h
    · rename_i hz
      exact call_len_str pins s σ H _ us Q I rs ⟨_, rfl, by rw [sizeLine_eq]; exact hz, lk_same h r (.int _)⟩
    · exact h.elim
  · exact core _ rfl h
  · exact h.elim
def absD : List D → Sto → Res D
  | [.int i], S => .ok (.int (if i < 0 then -i else i)) S
  | _, _ => .bad
theorem call_absD : CallR X (.builtin "abs") (LRs C E absD) := by
  intro pins s σ H xs us Q I rs h
  obtain ⟨ds, S, fa, p, r, h⟩ := h
  unfold absD at h
  split at h
  · obtain ⟨v, rfl, p1⟩ := p.one
    cases p1
    exact call_abs pins s σ H _ us Q I rs ⟨_, rfl, lk_same h r (.int _)⟩
  · exact h.elim
def asInts : List D → Option (List Int)
  | [] => some []
  | .int i :: r => (asInts r).map (i :: ·)
  | _ => none
def asBools : List D → Option (List Bool)
  | [] => some []
  | .bl i :: r => (asBools r).map (i :: ·)
  | _ => none
def asStrs : List D → Option (List Str)
  | [] => some []
  | .str i :: r => (asStrs r).map (i :: ·)
  | _ => none
theorem asInts_rel {H : Hp} {fa : List Addr} : ∀ {ds : List D} {vs : List V} {ns : List Int}, Rels C H fa ds vs → asInts ds = some ns → vs = ns.map V.int
  | [], _, _, .nil, e => by cases e; rfl
  | d :: ds, _, _, .cons h hs, e => by
    cases d with
    | int i =>
      simp only [asInts, Option.map_eq_some_iff] at e
      obtain ⟨ms, e, rfl⟩ := e
      cases h
      rw [asInts_rel hs e]
      rfl
    | _ => cases e
theorem asBools_rel {H : Hp} {fa : List Addr} : ∀ {ds : List D} {vs : List V} {ns : List Bool}, Rels C H fa ds vs → asBools ds = some ns → vs = ns.map V.bl
  | [], _, _, .nil, e => by cases e; rfl
  | d :: ds, _, _, .cons h hs, e => by
    cases d with
    | bl i =>
      simp only [asBools, Option.map_eq_some_iff] at e
      obtain ⟨ms, e, rfl⟩ := e
      cases h
      rw [asBools_rel hs e]
      rfl
    | _ => cases e
theorem asStrs_rel {H : Hp} {fa : List Addr} : ∀ {ds : List D} {vs : List V} {ns : List Str}, Rels C H fa ds vs → asStrs ds = some ns → vs = ns.map V.str
  | [], _, _, .nil, e => by cases e; rfl
  | d :: ds, _, _, .cons h hs, e => by
    cases d with
    | str i =>
      simp only [asStrs, Option.map_eq_some_iff] at e
      obtain ⟨ms, e, rfl⟩ := e
      cases h
      rw [asStrs_rel hs e]
      rfl
    | _ => cases e
/-- the items of a list (no tuple) -/
def lstOf (S : Sto) : D → Option (List D)
  | .lstc xs => some xs
  | .ref n => match S[n]? with
    | some (.lst xs) => some xs
    | none => none
  | _ => none
theorem lstOf_rel {H : Hp} {fa : List Addr} {S : Sto} (r : RS C H fa S) {d : D} {v : V} {xs : List D} (h : Rel C H fa d v) (e : lstOf S d = some xs) : ∃ a vs, v = .ref a ∧ SqL C.K H a vs ∧ Rels C H fa xs vs := by
  cases d with
  | lstc ys =>
    cases e
    exact r.lstc h
  | ref n =>
    simp only [lstOf] at e
    split at e
    · rename_i ys e1
      cases e
      obtain ⟨a, vs, h1, _, h2, h3⟩ := r.ref h e1
      exact ⟨a, vs, h1, .inl (.inl h2), h3⟩
    · cases e
  | _ => cases e
def maxI (S : Sto) (ns : List Int) : Res D := match ns with
  | [] => .bad
  | n :: r => .ok (.int (r.foldl max n)) S
def minI (S : Sto) (ns : List Int) : Res D := match ns with
  | [] => .bad
  | n :: r => .ok (.int (r.foldl min n)) S
theorem foldl_max (n : Int) (r : List Int) (m : Int) (h1 : m ∈ n :: r) (h2 : ∀ y ∈ n :: r, y ≤ m) : r.foldl max n = m := by
  induction r generalizing n with
  | nil => simp at h1; exact h1.symm
  | cons x r ih =>
    rw [List.foldl_cons]
    refine ih (max n x) ?_ ?_
    · rcases List.mem_cons.mp h1 with e | h
      · subst e
        have := h2 x (by simp)
        rw [Int.max_eq_left this]
        simp
      · rcases List.mem_cons.mp h with e | h
        · subst e
          have := h2 n (by simp)
          rw [Int.max_eq_right this]
          simp
        · exact List.mem_cons_of_mem _ h
    · intro y hy
      rcases List.mem_cons.mp hy with e | h
      · rw [e]
        exact Int.max_le.mpr ⟨h2 n (by simp), h2 x (by simp)⟩
      · exact h2 y (by simp [h])
theorem foldl_min (n : Int) (r : List Int) (m : Int) (h1 : m ∈ n :: r) (h2 : ∀ y ∈ n :: r, m ≤ y) : r.foldl min n = m := by
  induction r generalizing n with
  | nil => simp at h1; exact h1.symm
  | cons x r ih =>
    rw [List.foldl_cons]
    refine ih (min n x) ?_ ?_
    · rcases List.mem_cons.mp h1 with e | h
      · subst e
        have := h2 x (by simp)
        rw [Int.min_eq_left this]
        simp
      · rcases List.mem_cons.mp h with e | h
        · subst e
          have := h2 n (by simp)
          rw [Int.min_eq_right this]
          simp
        · exact List.mem_cons_of_mem _ h
    · intro y hy
      rcases List.mem_cons.mp hy with e | h
      · rw [e]
        exact Int.le_min.mpr ⟨h2 n (by simp), h2 x (by simp)⟩
      · exact h2 y (by simp [h])
def maxD : List D → Sto → Res D
  | [.int i, .int j], S => .ok (.int (if j > i then j else i)) S
  | [d], S => match lstOf S d with
    | some xs => match asInts xs with
      | some ns => maxI S ns
      | none => .bad
    | none => .bad
  | _, _ => .bad
def minD : List D → Sto → Res D
  | [.int i, .int j], S => .ok (.int (if j < i then j else i)) S
  | [d], S => match lstOf S d with
    | some xs => match asInts xs with
      | some ns => minI S ns
      | none => .bad
    | none => .bad
  | _, _ => .bad
theorem call_maxD (hc : X.calm = true) (hk : C.K = X.K) : CallR X (.builtin "max") (LRs C E maxD) := by
  intro pins s σ H xs us Q I rs h
  obtain ⟨ds, S, fa, p, r, h⟩ := h
  unfold maxD at h
  split at h
  · obtain ⟨v, u, rfl, p1, p2⟩ := p.two
    cases p1
    cases p2
    exact call_max2 hc pins s σ H _ us Q I rs ⟨_, _, rfl, lk_same h r (.int _)⟩
  · split at h
    · rename_i ys e1
      split at h
      · rename_i ns e2
        obtain ⟨v, rfl, p1⟩ := p.one
        obtain ⟨a, vs, rfl, hq, hs2⟩ := lstOf_rel r p1 e1
        rw [hk, asInts_rel hs2 e2] at hq
        cases ns with
        | nil => exact h.elim
        | cons n t =>
          refine cr_max hc pins s σ H _ us Q I rs ⟨a, _, rfl, hq, Nat.succ_pos _, fun m hm hl => ?_⟩
          rw [← foldl_max n t m hm hl]
          exact lk_same h r (.int _)
      · exact h.elim
    · exact h.elim
  · exact h.elim
theorem call_minD (hc : X.calm = true) (hk : C.K = X.K) : CallR X (.builtin "min") (LRs C E minD) := by
  intro pins s σ H xs us Q I rs h
  obtain ⟨ds, S, fa, p, r, h⟩ := h
  unfold minD at h
  split at h
  · obtain ⟨v, u, rfl, p1, p2⟩ := p.two
    cases p1
    cases p2
    exact call_min2 hc pins s σ H _ us Q I rs ⟨_, _, rfl, lk_same h r (.int _)⟩
  · split at h
    · rename_i ys e1
      split at h
      · rename_i ns e2
        obtain ⟨v, rfl, p1⟩ := p.one
        obtain ⟨a, vs, rfl, hq, hs2⟩ := lstOf_rel r p1 e1
        rw [hk, asInts_rel hs2 e2] at hq
        cases ns with
        | nil => exact h.elim
        | cons n t =>
          refine cr_min hc pins s σ H _ us Q I rs ⟨a, _, rfl, hq, Nat.succ_pos _, fun m hm hl => ?_⟩
          rw [← foldl_min n t m hm hl]
          exact lk_same h r (.int _)
      · exact h.elim
    · exact h.elim
  · exact h.elim
def lsD (f : List D → Sto → Res D) : List D → Sto → Res D
  | [d], S => match lstOf S d with
    | some xs => f xs S
    | none => .bad
  | _, _ => .bad
def sumD : List D → Sto → Res D := lsD fun xs S => match asInts xs with
  | some ns => .ok (.int ns.sum) S
  | none => .bad
def allD : List D → Sto → Res D := lsD fun xs S => match asBools xs with
  | some ns => .ok (.bl (ns.all id)) S
  | none => .bad
def anyD : List D → Sto → Res D := lsD fun xs S => match asBools xs with
  | some ns => .ok (.bl (ns.any id)) S
  | none => .bad
theorem call_sumD (hc : X.calm = true) (hk : C.K = X.K) : CallR X (.builtin "sum") (LRs C E sumD) := by
  intro pins s σ H xs us Q I rs h
  obtain ⟨ds, S, fa, p, r, h⟩ := h
  unfold sumD lsD at h
  split at h
  · split at h
    · rename_i ys e1
      simp only [] at h
      split at h
      · rename_i ns e2
        obtain ⟨v, rfl, p1⟩ := p.one
        obtain ⟨a, vs, rfl, hq, hs2⟩ := lstOf_rel r p1 e1
        rw [hk, asInts_rel hs2 e2] at hq
        exact cr_sum hc pins s σ H _ us Q I rs ⟨a, _, rfl, hq, lk_same h r (.int _)⟩
      · exact h.elim
    · exact h.elim
  · exact h.elim
theorem call_allD (hc : X.calm = true) (hk : C.K = X.K) : CallR X (.builtin "all") (LRs C E allD) := by
  intro pins s σ H xs us Q I rs h
  obtain ⟨ds, S, fa, p, r, h⟩ := h
  unfold allD lsD at h
  split at h
  · split at h
    · rename_i ys e1
      simp only [] at h
      split at h
      · rename_i ns e2
        obtain ⟨v, rfl, p1⟩ := p.one
        obtain ⟨a, vs, rfl, hq, hs2⟩ := lstOf_rel r p1 e1
        rw [hk, asBools_rel hs2 e2] at hq
        exact cr_all hc pins s σ H _ us Q I rs ⟨a, _, rfl, hq, lk_same h r (.bl _)⟩
      · exact h.elim
    · exact h.elim
  · exact h.elim
theorem call_anyD (hc : X.calm = true) (hk : C.K = X.K) : CallR X (.builtin "any") (LRs C E anyD) := by
  intro pins s σ H xs us Q I rs h
  obtain ⟨ds, S, fa, p, r, h⟩ := h
  unfold anyD lsD at h
  split at h
  · split at h
    · rename_i ys e1
      simp only [] at h
      split at h
      · rename_i ns e2
        obtain ⟨v, rfl, p1⟩ := p.one
        obtain ⟨a, vs, rfl, hq, hs2⟩ := lstOf_rel r p1 e1
        rw [hk, asBools_rel hs2 e2] at hq
        exact cr_any hc pins s σ H _ us Q I rs ⟨a, _, rfl, hq, lk_same h r (.bl _)⟩
      · exact h.elim
    · exact h.elim
  · exact h.elim
/-! ### types called -/
def intD : List D → Sto → Res D
  | [.int i], S => .ok (.int i) S
  | [.bl k], S => .ok (.int (if k then 1 else 0)) S
  | [.str z], S => match PySem.intText? z with
    | some n => if z.length ≤ 640 then .ok (.int n) S else .bad
    | none => .bad
  | _, _ => .bad
theorem call_intD : CallR X (.type "int") (LRs C E intD) := by
  intro pins s σ H xs us Q I rs h
  obtain ⟨ds, S, fa, p, r, h⟩ := h
  unfold intD at h
  split at h
  · obtain ⟨v, rfl, p1⟩ := p.one
    cases p1
    exact call_int1 pins s σ H _ us Q I rs (.inl ⟨_, rfl, lk_same h r (.int _)⟩)
  · obtain ⟨v, rfl, p1⟩ := p.one
    cases p1
    exact call_int1 pins s σ H _ us Q I rs (.inr ⟨_, rfl, lk_same h r (.int _)⟩)
  · obtain ⟨v, rfl, p1⟩ := p.one
    cases p1
    split at h
    · rename_i n e1
      split at h
      · rename_i hz
        exact call_int_str pins s σ H _ us Q I rs ⟨_, _, rfl, e1, hz, lk_same h r (.int _)⟩
      · exact h.elim
    · exact h.elim
  · exact h.elim
def strD : List D → Sto → Res D
  | [.int i], S => if i.natAbs.log2 < 1920 then .ok (.str (toString i)) S else .bad
  | _, _ => .bad
theorem call_strD : CallR X (.type "str") (LRs C E strD) := by
  intro pins s σ H xs us Q I rs h
  obtain ⟨ds, S, fa, p, r, h⟩ := h
  unfold strD at h
  split at h
  · obtain ⟨v, rfl, p1⟩ := p.one
    cases p1
    split at h
    · rename_i hz
      exact call_str_int pins s σ H _ us Q I rs ⟨_, rfl, hz, lk_same h r (.str _)⟩
    · exact h.elim
  · exact h.elim
def boolD : List D → Sto → Res D
  | [.bl k], S => .ok (.bl k) S
  | _, _ => .bad
theorem call_boolD : CallR X (.type "bool") (LRs C E boolD) := by
  intro pins s σ H xs us Q I rs h
  obtain ⟨ds, S, fa, p, r, h⟩ := h
  unfold boolD at h
  split at h
  · obtain ⟨v, rfl, p1⟩ := p.one
    cases p1
    exact call_bool1 pins s σ H _ us Q I rs (.inr ⟨_, rfl, lk_same h r (.bl _)⟩)
  · exact h.elim
def listD : List D → Sto → Res D
  | [d], S => match seqOf S d with
    | some xs => .ok (.ref S.length) (S ++ [.lst xs])
    | none => .bad
  | _, _ => .bad
theorem call_listDD (hk : C.K = X.K) : CallR X (.type "list") (LRs C E listD) := by
  intro pins s σ H xs us Q I rs h
  obtain ⟨ds, S, fa, p, r, h⟩ := h
  unfold listD at h
  split at h
  · split at h
    · rename_i ys e1
      obtain ⟨v, rfl, p1⟩ := p.one
      obtain ⟨a, vs, rfl, hq, hs2⟩ := seqOf_rel r p1 e1
      rw [hk] at hq
      exact call_list_of pins s σ H _ us Q I rs ⟨a, vs, rfl, hq, fun l hl => lk_new h r hs2 hl⟩
    · exact h.elim
  · exact h.elim
def tupleD : List D → Sto → Res D
  | [d], S => match seqOf S d with
    | some xs => .ok (.tup xs) S
    | none => .bad
  | _, _ => .bad
theorem call_tupleD (hk : C.K = X.K) : CallR X (.type "tuple") (LRs C E tupleD) := by
  intro pins s σ H xs us Q I rs h
  obtain ⟨ds, S, fa, p, r, h⟩ := h
  unfold tupleD at h
  split at h
  · split at h
    · rename_i ys e1
      obtain ⟨v, rfl, p1⟩ := p.one
      obtain ⟨a, vs, rfl, hq, hs2⟩ := seqOf_rel r p1 e1
      rw [hk] at hq
      refine call_tuple_of pins s σ H _ us Q I rs ⟨a, vs, rfl, ?_⟩
      rcases hq with hq | hq
      · exact .inl ⟨hq, fun l hl => lk_tup h r hs2 hl⟩
      · exact .inr ⟨hq, lk_same h r (.tup (by rw [hk]; exact hq) hs2)⟩
    · exact h.elim
  · exact h.elim
end
end DV

end
section
set_option Elab.async false
set_option linter.all false
set_option maxRecDepth 100000
set_option maxHeartbeats 4000000
set_option autoImplicit false
/-! The deep layer, part G: isinstance, methods, defs called. -/
namespace DV
open PySem PySem.Spec PyProof.Rows L2
def tyD : D → Option String
  | .non => some "NoneType"
  | .bl _ => some "bool"
  | .int _ => some "int"
  | .str _ => some "str"
  | .tup _ => some "tuple"
  | .ref _ => some "list"
  | .lstc _ => some "list"
  | .exc _ => none
  | .fn _ => none
inductive Ty where
  | int | bool | str | tup | lst
  deriving DecidableEq
def Ty.nm : Ty → String
  | .int => "int"
  | .bool => "bool"
  | .str => "str"
  | .tup => "tuple"
  | .lst => "list"
def isTy : Ty → D → Option Bool
  | .int, .int _ => some true
  | .int, .bl _ => some true
  | .bool, .bl _ => some true
  | .str, .str _ => some true
  | .tup, .tup _ => some true
  | .lst, .ref _ => some true
  | .lst, .lstc _ => some true
  | _, .fn _ => none
  | _, .exc _ => none
  | _, _ => some false
theorem isTy_kit {K : PySem.W.Frag} {T : Ty} {d : D} {t : String} {b : Bool} (h : isTy T d = some b) (e : tyD d = some t) : PySem.W.kitOne K (.type t) (.type T.nm) = some b := by
  have k : ∀ (a b : String) (r : Bool), kitB a b = some r → PySem.W.kitOne K (.type a) (.type b) = some r := fun _ _ _ => kit_ty
  cases T <;> cases d <;> cases e <;> cases h <;> exact k _ _ _ (by decide +kernel)
section
variable {X : Cx} {C : Ctx} {E : XK} {a b c e o : Expr} {pos : Pos} {H : Hp} {fa : List Addr} {S : Sto}
theorem Rel.ty (r : RS C H fa S) {d : D} {v : V} (h : Rel C H fa d v) {t : String} (e : tyD d = some t) : TyX C.K H v (.type t) := by
  cases h with
  | non => cases e; exact .base .non
  | bl b => cases e; exact .base (.bl b)
  | int i => cases e; exact .base (.int i)
  | str x => cases e; exact .base (.str x)
  | tup h hs =>
    cases e
    rcases h with (h | ⟨ob, h⟩) | ⟨ob, its, n, h1, h2, h3⟩
    · exact .base (.tup h)
    · exact .fTuple h
    · exact .kTuple h1 h2
  | ref h =>
    cases e
    obtain ⟨vs, h1⟩ := r.lst (List.mem_of_getElem? h)
    exact .base (.lst h1)
  | fn x => cases e
  | exc h => cases e
  | lstc h e' hs =>
    cases e
    obtain ⟨h1, _⟩ := r.fix _ h
    rcases e' with e' | ⟨ob, e'⟩
    · rw [e'] at h1
      exact .base (.lst h1)
    · rw [e'] at h1
      exact .base (.frz h1)
  | lstK h hs =>
    cases e
    obtain ⟨ob, its, n, h1, h2, h3⟩ := h
    exact .kList h1 h2
theorem isTy_ty {T : Ty} {d : D} {b : Bool} (h : isTy T d = some b) : ∃ t, tyD d = some t := by
  cases d with
  | fn x => cases T <;> cases h
  | exc x => cases T <;> cases h
  | _ => exact ⟨_, rfl⟩
def evIsi (T : Ty) (f : DE) : DE := fun σ S => (f σ S).bind fun d S1 => match isTy T d with
  | some b => .ok (.bl b) S1
  | none => .bad
theorem le_isi {T : Ty} {f : DE} {p p2 : Pos} (hk : C.K = X.K) (ha : PE X e (LE C E f)) (hg : Gl X "isinstance") (hm : X.mg "isinstance" = none) (hg2 : Gl X (Str.ofString T.nm)) (hm2 : X.mg (Str.ofString T.nm) = none)
    (he : starEach [e, .Name (Str.ofString T.nm) p2] X.env = (false, eval e X.env) :: starEach [.Name (Str.ofString T.nm) p2] X.env) : PE X (.Call (.Name "isinstance" p) [e, .Name (Str.ofString T.nm) p2] [] pos) (LE C E (evIsi T f)) := by
  have hb : bootBuiltins (Str.ofString T.nm) = some (.type T.nm) := by cases T <;> decide +kernel
  have hn : (Str.ofString T.nm) ≠ "__name__" := by cases T <;> decide
  have hd : ((Str.ofString T.nm) == ("__debug__" : Str)) = false := by cases T <;> decide
  refine PEimp (pe_callB call_isi hg hm (by decide +kernel) (pa_cons ha (pa_cons (pe_bltn (v := .ty T.nm) hg2 hm2 hb rfl hn hd) pa_nil (by rfl)) he) (by decide) (by decide) he (by rfl)) fun σ H Q q => ?_
  obtain ⟨σd, S, fa, rs, r, q⟩ := q
  refine ⟨σd, S, fa, rs, r, (LKg.bind q).mono ?_⟩
  rintro x H1 ⟨fa1, S1, d, l1, r1, p1, q1⟩
  split at q1
  · rename_i b e1
    obtain ⟨t, et⟩ := isTy_ty e1
    exact ⟨x, .ty T.nm, .type t, .type T.nm, b, rfl, .ty _, by rw [← hk]; exact p1.ty r1 et, isTy_kit e1 et, lk_same q1 r1 (.bl _)⟩
  · exact q1.elim
/-- isinstance(e, an exception class) -/
def evIsX (tab : List (Str × Bool)) (f : DE) : DE := fun σ S => (f σ S).bind fun d S1 => match d with
  | .exc x => match tab.lookup x with
    | some b => .ok (.bl b) S1
    | none => .bad
  | _ => .bad
/-- isinstance(x, (T, U)) -/
def evIsi2 (T U : Ty) (f : DE) : DE := fun σ S => (f σ S).bind fun d S1 => match isTy T d, isTy U d with
  | some b, some c => .ok (.bl (b || c)) S1
  | _, _ => .bad
theorem le_isi2 {T U : Ty} {f : DE} {p p2 p3 p4 : Pos} {k : Nat} (hk : C.K = X.K) (ha : PE X e (LE C E f)) (hg : Gl X "isinstance") (hm : X.mg "isinstance" = none) (hg2 : Gl X (Str.ofString T.nm)) (hm2 : X.mg (Str.ofString T.nm) = none) (hg3 : Gl X (Str.ofString U.nm)) (hm3 : X.mg (Str.ofString U.nm) = none)
    (he : starEach [e, .Tuple [.Name (Str.ofString T.nm) p2, .Name (Str.ofString U.nm) p3] k p4] X.env = (false, eval e X.env) :: starEach [.Tuple [.Name (Str.ofString T.nm) p2, .Name (Str.ofString U.nm) p3] k p4] X.env) :
    PE X (.Call (.Name "isinstance" p) [e, .Tuple [.Name (Str.ofString T.nm) p2, .Name (Str.ofString U.nm) p3] k p4] [] pos) (LE C E (evIsi2 T U f)) := by
  have hb : ∀ T : Ty, bootBuiltins (Str.ofString T.nm) = some (.type T.nm) := fun T => by cases T <;> decide +kernel
  have hn : ∀ T : Ty, (Str.ofString T.nm) ≠ "__name__" := fun T => by cases T <;> decide
  have hd : ∀ T : Ty, ((Str.ofString T.nm) == ("__debug__" : Str)) = false := fun T => by cases T <;> decide
  refine PEimp (pe_callB call_isiT hg hm (by decide +kernel) (pa_cons ha (pa_cons (pe_tup (pa_cons (pe_bltn (v := .ty T.nm) hg2 hm2 (hb T) rfl (hn T) (hd T)) (pa_cons (pe_bltn (v := .ty U.nm) hg3 hm3 (hb U) rfl (hn U) (hd U)) pa_nil (by rfl)) (by rfl))) pa_nil (by rfl)) he) (by decide) (by decide) he (by rfl)) fun σ H Q q => ?_
  obtain ⟨σd, S, fa, rs, r, q⟩ := q
  refine ⟨σd, S, fa, rs, r, (LKg.bind q).mono ?_⟩
  rintro x H1 ⟨fa1, S1, d, l1, r1, p1, q1⟩
  split at q1
  · rename_i b c e1 e2
    obtain ⟨t, et⟩ := isTy_ty e1
    refine ⟨by show 2 ≤ sizeLine; decide, fun tp htp => ?_⟩
    obtain ⟨l2, r2⟩ := r1.newT htp [.ty T.nm, .ty U.nm]
    refine ⟨x, tp, [.ty T.nm, .ty U.nm], .type t, [.type T.nm, .type U.nm], b || c, rfl, upd_same, .cons (.ty _) (.cons (.ty _) .nil), ?_, ?_, ?_⟩
    · have z := (Rel.later r1 l2 p1).ty r2 et
      rw [hk] at z
      exact z
    · refine kitAny_cons (isTy_kit e1 et) (fun hb0 => ?_) (fun hb1 => by rw [hb1]; rfl)
      rw [hb0, Bool.false_or]
      refine kitAny_cons (isTy_kit e2 et) (fun hc0 => ?_) (fun hc1 => hc1)
      rw [hc0]
      rfl
    · exact lk_ok (P := PD C) q1 l2 r2 (.bl _)
  · exact q1.elim
/-! ### methods -/
theorem star1 (he : starEach [e] X.env = (false, eval e X.env) :: starEach [] X.env) (p : Pos) : ((backTo p (starEach [e] X.env)).all (fun x => !x.1) && (backToKw p (keywordEach [] X.env)).all (fun x => x.1.isSome)
      && decide (([e] : List Expr).length + ([] : List Keyword).length + (if ([] : List Keyword).isEmpty then 0 else 1) < 30)) = true := by
  rw [he]
  rfl
def appD (n : Nat) (y : D) (S : Sto) : Res D := match S[n]? with
  | some (.lst xs) => if xs.length < 16777216 then .ok .non (S.set n (.lst (xs ++ [y]))) else .bad
  | none => .bad
def evApp (f g : DE) : DE := fun σ S => (f σ S).bind fun d S1 => match d with
  | .ref n => (g σ S1).bind fun y S2 => appD n y S2
  | _ => .bad
theorem le_app {f g : DE} {apos : Pos} (hk : C.K = X.K) (ho : PE X o (LE C E f)) (ha : PE X e (LE C E g)) (hb : attributeBase o "append" X.env (eval o X.env) = eval o X.env) (hl : (apos.endLine == pos.line) = true)
    (he : starEach [e] X.env = (false, eval e X.env) :: starEach [] X.env) : PE X (.Call (.Attribute o "append" apos) [e] [] pos) (LE C E (evApp f g)) := by
  refine PEimp (pe_bm PySem.F.plainAttrs_list PySem.F.slot_list_append PySem.F.type_list_append mt_append ho (pa_cons ha pa_nil he) hb (star1 he _) hl he (by rfl)) fun σ H Q q => ?_
  obtain ⟨σd, S, fa, rs, r, q⟩ := q
  refine ⟨σd, S, fa, rs, r, (LKg.bind q).mono ?_⟩
  rintro x H1 ⟨fa1, S1, d, l1, r1, p1, q1⟩
  cases d with
  | ref n =>
    cases p1 with
    | @ref _ a ha' =>
      obtain ⟨vs, h1⟩ := r1.lst (List.mem_of_getElem? ha')
      refine ⟨.inl ⟨rfl, vs, by rw [← hk]; exact .inl (.inl h1)⟩, σd, S1, fa1, rs.later r l1, r1, (LKg.bind (P2 := PD C) q1).mono ?_⟩
      rintro y H2 ⟨fa2, S2, d2, l2, r2, p2, q2⟩
      unfold appD at q2
      split at q2
      · rename_i xs e1
        split at q2
        · rename_i hz
          have ha2 := l2.at_ ha'
          obtain ⟨vs2, h2, h3⟩ := r2.at_ n a _ ha2 e1
          refine ⟨a, vs2, y, rfl, rfl, h2, by rw [← h3.length, sizeLine_eq]; exact hz, ?_⟩
          obtain ⟨l3, r3⟩ := r2.write ha2 (h3.append (.cons p2 .nil))
          exact lk_ok (P := PD C) q2 l3 r3 .non
        · exact q2.elim
      · exact q2.elim
  | _ => exact q1.elim
def evMt1 (h : Str → D → Sto → Res D) (f g : DE) : DE := fun σ S => (f σ S).bind fun d S1 => match d with
  | .str z => (g σ S1).bind fun y S2 => h z y S2
  | _ => .bad
theorem le_mt1 {f g : DE} {apos : Pos} {name : Str} {id : String} {rr : V → List V → Hp → VK → Prop} {h : Str → D → Sto → Res D} (slot : Slot "str" name id) (hty : typeOf (.builtin id) = pure (.type "method_descriptor")) (hm : MtR X id rr)
    (hr : ∀ (z : Str) (d : D) (S : Sto) (fa : List Addr) (v : V) (H : Hp) (Q : VK), Rel C H fa d v → RS C H fa S → LKg C E (PD C) Q fa H (h z d S) → rr (.str z) [v] H Q)
    (ho : PE X o (LE C E f)) (ha : PE X e (LE C E g)) (hb : attributeBase o name X.env (eval o X.env) = eval o X.env) (hl : (apos.endLine == pos.line) = true)
    (he : starEach [e] X.env = (false, eval e X.env) :: starEach [] X.env) : PE X (.Call (.Attribute o name apos) [e] [] pos) (LE C E (evMt1 h f g)) := by
  refine PEimp (pe_bm PySem.F.plainAttrs_str slot hty hm ho (pa_cons ha pa_nil he) hb (star1 he _) hl he (by rfl)) fun σ H Q q => ?_
  obtain ⟨σd, S, fa, rs, r, q⟩ := q
  refine ⟨σd, S, fa, rs, r, (LKg.bind q).mono ?_⟩
  rintro x H1 ⟨fa1, S1, d, l1, r1, p1, q1⟩
  cases d with
  | str z =>
    cases p1
    refine ⟨rfl, σd, S1, fa1, rs.later r l1, r1, (LKg.bind (P2 := PD C) q1).mono ?_⟩
    rintro y H2 ⟨fa2, S2, d2, l2, r2, p2, q2⟩
    exact hr z d2 S2 fa2 y H2 Q p2 r2 q2
  | _ => exact q1.elim
def joinD (z : Str) (d : D) (S : Sto) : Res D := match lstOf S d with
  | some xs => match asStrs xs with
    | some ys => if (ys.map (·.length)).sum + ys.length * z.length ≤ 16777216 then .ok (.str (Txt.join z ys)) S else .bad
    | none => .bad
  | none => .bad
theorem le_join {f g : DE} {apos : Pos} (hk : C.K = X.K) (ho : PE X o (LE C E f)) (ha : PE X e (LE C E g)) (hb : attributeBase o "join" X.env (eval o X.env) = eval o X.env) (hl : (apos.endLine == pos.line) = true)
    (he : starEach [e] X.env = (false, eval e X.env) :: starEach [] X.env) : PE X (.Call (.Attribute o "join" apos) [e] [] pos) (LE C E (evMt1 joinD f g)) := by
  refine le_mt1 PySem.F.slot_str_join PySem.F.type_str_join mt_join (fun z d S fa v H Q p r h => ?_) ho ha hb hl he
  unfold joinD at h
  split at h
  · rename_i xs e1
    split at h
    · rename_i ys e2
      split at h
      · rename_i hz
        obtain ⟨a, vs, rfl, hq, hs⟩ := lstOf_rel r p e1
        rw [hk, asStrs_rel hs e2] at hq
        exact ⟨z, a, ys, rfl, rfl, .inl hq, hz, lk_same h r (.str _)⟩
      · exact h.elim
    · exact h.elim
  · exact h.elim
def splitD (z : Str) (d : D) (S : Sto) : Res D := match d with
  | .str y => if (y.length == 0) = false ∧ z.length + 2 ≤ 16777216 then .ok (.ref S.length) (S ++ [.lst ((Txt.split z y).map D.str)]) else .bad
  | _ => .bad
theorem Rels.strs (ys : List Str) : Rels C H fa (ys.map D.str) (ys.map V.str) := by
  induction ys with
  | nil => exact .nil
  | cons y ys ih => exact .cons (.str y) ih
theorem le_split {f g : DE} {apos : Pos} (ho : PE X o (LE C E f)) (ha : PE X e (LE C E g)) (hb : attributeBase o "split" X.env (eval o X.env) = eval o X.env) (hl : (apos.endLine == pos.line) = true)
    (he : starEach [e] X.env = (false, eval e X.env) :: starEach [] X.env) : PE X (.Call (.Attribute o "split" apos) [e] [] pos) (LE C E (evMt1 splitD f g)) := by
  refine le_mt1 PySem.F.slot_str_split PySem.F.type_str_split mt_split (fun z d S fa v H Q p r h => ?_) ho ha hb hl he
  unfold splitD at h
  split at h
  · split at h
    · rename_i hz
      cases p
      exact ⟨z, _, rfl, rfl, hz.1, by rw [sizeLine_eq]; exact hz.2, fun p hp => lk_new h r (Rels.strs _) hp⟩
    · exact h.elim
  · exact h.elim
/-! ### defs called -/
abbrev Den := List D → Sto → Res D
def LSp (C : Ctx) (n : Nat) (den : Den) : Sp := fun vs H Q E => vs.length = n ∧ ∃ ds S fa, Rels C H fa ds vs ∧ RS C H fa S ∧ LKg C E (PD C) Q fa H (den ds S)
/-- the def of the name x keeps the promise den, and there is room for it -/
structure FOk (X : Cx) (C : Ctx) (x : Str) (n : Nat) (den : Den) : Prop where
  ex : ∃ (f : Addr) (fd : FuncData) (ps : List Str) (k : Nat), X.mg x = some (.ref f) ∧ PySem.W.keepIn X.K (.ref f) = true ∧ Binds X.K fd ps [] ∧ ps.length = n ∧ FnOk X.prog X.w X.K X.mg X.base (L2N.CX X.prog X.w) k f fd ps (LSp C n den) ∧ Room k X.A
theorem LA.len {n : Nat} {f : DEs} (hf : ∀ σ S ds S', f σ S = .ok ds S' → ds.length = n) {σ : L2.St} {H : Hp} {Q : List V → Hp → Prop} (h : LA C E f σ H Q) : LA C E f σ H fun vs H' => vs.length = n ∧ Q vs H' := by
  obtain ⟨σd, S, fa, rs, r, q⟩ := h
  refine ⟨σd, S, fa, rs, r, ?_⟩
  cases e : f σd S with
  | ok ds S' =>
    rw [e] at q
    exact fun fa' H' vs l rs' p => ⟨by rw [← Rels.length p]; exact hf _ _ _ _ e, q fa' H' vs l rs' p⟩
  | exc x p S' =>
    rw [e] at q
    exact q
  | bad =>
    rw [e] at q
    exact q
theorem le_call {x : Str} {p : Pos} {es : List Expr} {f : DEs} {n : Nat} {den : Den} (F : FOk X C x n den) (tk : L2N.Takes X fun cls d _ H => E cls d H) (hg : Gl X x) (hf : ∀ σ S ds S', f σ S = .ok ds S' → ds.length = n) (ha : PA X (e :: es) (LA C E f))
    (hdb : (x == ("__debug__" : Str)) = false) (he : starEach (e :: es) X.env = (false, eval e X.env) :: starEach es X.env) (hpl : (backTo pos (starEach es X.env)).any (·.1) = false) :
    PE X (.Call (.Name x p) (e :: es) [] pos) (LE C E fun σ S => (f σ S).bind den) := by
  obtain ⟨a, fd, ps, k, hm, kp, hb, hn, Fn, hr⟩ := F.ex
  refine PEimp (pe_call (E := E) Fn hr hg hm kp hb .nil (L2N.passes_call tk fun _ _ _ _ h => h) ha hdb he hpl) fun σ H Q q => ?_
  have q2 : LA C E f σ H fun vs H1 => LRs C E den vs H1 Q := args_m (g := den) q
  have q3 := LA.len (C := C) (E := E) hf q2
  obtain ⟨σd, S, fa, rs, r, q3⟩ := q3
  refine ⟨σd, S, fa, rs, r, q3.mono ?_⟩
  rintro vs H' ⟨hl, ds, S', fa', h1, h2, h3⟩
  rw [List.append_nil]
  exact ⟨hl, ds, S', fa', h1, h2, h3⟩
/-- a local name that holds a def -/
def evCallL (Φ : Str → Option Den) (i : Nat) (f : DEs) : DE := fun σ S => match σ[i]? with
  | some (some (.fn x)) => match Φ x with
    | some den => (f σ S).bind den
    | none => .bad
  | _ => .bad
theorem le_callL {Φ : Str → Option Den} {i : Nat} {x : Str} {p : Pos} {es : List Expr} {f : DEs} {n : Nat} (F : ∀ y den, Φ y = some den → FOk X C y n den ∧ X.mg y = some (.ref (He.ga X.K y))) (hk : C.K = X.K) (tk : L2N.Takes X fun cls d _ H => E cls d H) (hN : X.N[i]? = some x) (hv : Vis X.env.scope x)
    (hf : ∀ σ S ds S', f σ S = .ok ds S' → ds.length = n) (ha : PA X (e :: es) (LA C E f))
    (hdb : (x == ("__debug__" : Str)) = false) (hcd : (x == ("__classdict__" : Str)) = false) (he : starEach (e :: es) X.env = (false, eval e X.env) :: starEach es X.env) (hpl : (backTo pos (starEach es X.env)).any (·.1) = false) :
    PE X (.Call (.Name x p) (e :: es) [] pos) (LE C E (evCallL Φ i f)) := by
  refine ⟨fun pins s σ H Q I q => ?_⟩
  obtain ⟨σd, S, fa, rs, r, q⟩ := q
  unfold evCallL at q
  split at q
  · rename_i y e1
    split at q
    · rename_i den e2
      obtain ⟨Fk, hy⟩ := F y den e2
      obtain ⟨a, fd, ps, k, hm, kp, hb, hn, Fn, hr⟩ := Fk.ex
      obtain ⟨v, h1, h2⟩ := rs.2 i _ e1
      cases h2
      rw [hy] at hm
      cases hm
      refine (PEimp (pe_callL (i := i) (E := E) Fn hr hN hv kp hb .nil (L2N.passes_call tk fun _ _ _ _ h => h) ha hdb hcd he hpl) (t' := fun σ' H' Q' => σ'[i]? = some (some (.ref (He.ga X.K y))) ∧ LE C E (fun σ S => (f σ S).bind den) σ' H' Q') fun σ H Q q => ?_).run pins s σ H Q I ⟨by rw [← hk]; exact h1, ⟨σd, S, fa, rs, r, q⟩⟩
      obtain ⟨hs, q⟩ := q
      refine ⟨hs, ?_⟩
      have q2 : LA C E f σ H fun vs H1 => LRs C E den vs H1 Q := args_m (g := den) q
      have q3 := LA.len (C := C) (E := E) hf q2
      obtain ⟨σd, S, fa, rs, r, q3⟩ := q3
      refine ⟨σd, S, fa, rs, r, q3.mono ?_⟩
      rintro vs H' ⟨hl, ds, S', fa', h1, h2, h3⟩
      rw [List.append_nil]
      exact ⟨hl, ds, S', fa', h1, h2, h3⟩
    · exact q.elim
  · exact q.elim
end
end DV

end
section
set_option Elab.async false
set_option linter.all false
set_option maxRecDepth 100000
set_option maxHeartbeats 4000000
set_option autoImplicit false
/-! The deep layer, part H: targets, statements, loops. -/
namespace DV
open PySem PySem.Spec PyProof.Rows L2

/-! ### targets: names, tuples of targets -/
inductive Tg where
  | nm (i : Nat) | tp (ts : List Tg)
def setTg : Tg → D → Env → Option Env
  | .nm i, d, σ => some (σ.set i (some d))
  | .tp ts, .tup ds, σ => setTgs ts ds σ
  | .tp _, _, _ => none
where setTgs : List Tg → List D → Env → Option Env
  | [], [], σ => some σ
  | t :: ts, d :: ds, σ => match setTg t d σ with
    | some σ' => setTgs ts ds σ'
    | none => none
  | _, _, _ => none
def Tg.slots : Tg → List Nat
  | .nm i => [i]
  | .tp ts => Tgs.slots ts
where Tgs.slots : List Tg → List Nat
  | [] => []
  | t :: ts => t.slots ++ Tgs.slots ts
def Agree (vs : List Nat) (σ σ' : L2.St) : Prop := σ'.length = σ.length ∧ ∀ j, j ∉ vs → σ'[j]? = σ[j]?
section
variable {X : Cx} {C : Ctx} {E : XK} {a b c e o : Expr} {pos : Pos}
def LG (C : Ctx) (vs : List Nat) (t : D → Env → Option Env) : TG := fun v σ H Q => ∃ d σd S fa σd', Rel C H fa d v ∧ RelSt C H fa σd σ ∧ RS C H fa S ∧ t d σd = some σd' ∧ ∀ σ', RelSt C H fa σd' σ' → Agree vs σ σ' → Q σ' H
def LGs (C : Ctx) (vs : List Nat) (t : List D → Env → Option Env) : TGs := fun xs σ H Q => ∃ ds σd S fa σd', Rels C H fa ds xs ∧ RelSt C H fa σd σ ∧ RS C H fa S ∧ t ds σd = some σd' ∧ ∀ σ', RelSt C H fa σd' σ' → Agree vs σ σ' → Q σ' H
theorem PGimp {tg : Expr} {t t' : TG} (h : PG X tg t) (m : ∀ v σ H Q, t' v σ H Q → t v σ H Q) : PG X tg t' := ⟨fun pins s σ H v u Q I r q => h.run pins s σ H v u Q I r (m _ _ _ _ q)⟩
theorem PGsimp {tg : List Expr} {t t' : TGs} (h : PGs X tg t) (m : ∀ v σ H Q, t' v σ H Q → t v σ H Q) : PGs X tg t' := ⟨fun pins s σ H v u Q I r q => h.run pins s σ H v u Q I r (m _ _ _ _ q)⟩
theorem lg_name {i : Nat} {x : Str} (hN : X.N.Nodup) (hi : X.N[i]? = some x) (hx : Loc X.env.scope x) (hf : X.fn x = true ∨ X.env.scope.names.lookup x = some .local) : PG X (.Name x pos) (LG C [i] (setTg (.nm i))) := by
  refine PGimp (pg_name hN hi hx hf) fun v σ H Q q => ?_
  obtain ⟨d, σd, S, fa, σd', p, rs, r, e, q⟩ := q
  cases e
  exact q _ (rs.set p i) ⟨by simp, fun j hj => List.getElem?_set_ne (fun z => hj (by simp [z]))⟩
theorem lgs_nil : PGs X [] (LGs C [] (setTg.setTgs [])) := by
  refine PGsimp pgs_nil fun vs σ H Q q => ?_
  obtain ⟨ds, σd, S, fa, σd', p, rs, r, e, q⟩ := q
  cases ds with
  | nil =>
    cases e
    cases p
    exact ⟨rfl, q _ rs ⟨rfl, fun _ _ => rfl⟩⟩
  | cons d ds => cases e
theorem lgs_cons {t : Tg} {ts : List Tg} {es : List Expr} (h1 : PG X e (LG C t.slots (setTg t))) (h2 : PGs X es (LGs C (Tg.slots.Tgs.slots ts) (setTg.setTgs ts))) (hs : (assignEach (e :: es) X.env).map (·.2) = assign e X.env :: (assignEach es X.env).map (·.2)) :
    PGs X (e :: es) (LGs C (Tg.slots.Tgs.slots (t :: ts)) (setTg.setTgs (t :: ts))) := by
  refine PGsimp (pgs_cons h1 h2 hs) fun vs σ H Q q => ?_
  obtain ⟨ds, σd, S, fa, σd', p, rs, r, e, q⟩ := q
  cases ds with
  | nil => cases e
  | cons d ds =>
    simp only [setTg.setTgs] at e
    split at e
    · rename_i σ1 e1
      cases p with
      | @cons _ _ v vs p ps =>
        refine ⟨v, vs, rfl, d, σd, S, fa, σ1, p, rs, r, e1, fun σ' rs1 ag => ?_⟩
        refine ⟨ds, σ1, S, fa, σd', ps, rs1, r, e, fun σ2 rs2 ag2 => ?_⟩
        refine q σ2 rs2 ⟨ag2.1.trans ag.1, fun j hj => ?_⟩
        simp only [Tg.slots.Tgs.slots, List.mem_append, not_or] at hj
        rw [ag2.2 j hj.2, ag.2 j hj.1]
    · cases e
theorem setTgs_len : ∀ {ts : List Tg} {ds : List D} {σ σ' : Env}, setTg.setTgs ts ds σ = some σ' → ds.length = ts.length
  | [], [], _, _, _ => rfl
  | [], _ :: _, _, _, e => by cases e
  | _ :: _, [], _, _, e => by cases e
  | t :: ts, d :: ds, σ, σ', e => by
    simp only [setTg.setTgs] at e
    split at e
    · simp [setTgs_len e]
    · cases e
theorem lg_tup {ts : List Tg} {es : List Expr} {k : Nat} (hk : C.K = X.K) (hc : X.calm = true) (h : PGs X es (LGs C (Tg.slots.Tgs.slots ts) (setTg.setTgs ts))) (hn : (assignEach es X.env).length = ts.length) (hst : (assignEach es X.env).findIdx? (·.1) = none) :
    PG X (.Tuple es k pos) (LG C (Tg.slots (.tp ts)) (setTg (.tp ts))) := by
  refine PGimp (pg_tup hc h hn hst) fun v σ H Q q => ?_
  obtain ⟨d, σd, S, fa, σd', p, rs, r, e, q⟩ := q
  cases d with
  | tup ds =>
    cases p with
    | @tup _ a vs p ps =>
      rw [hk] at p
      exact ⟨a, vs, rfl, p, by rw [← ps.length]; exact setTgs_len e, ds, σd, S, fa, σd', ps, rs, r, e, q⟩
  | _ => cases e

/-! ### statements -/
inductive Fl where
  | nx (σ : Env) | rt (d : D) | bk (σ : Env) | ct (σ : Env)
inductive FlV where
  | nx (σ : L2.St) | rt (v : V) | bk (σ : L2.St) | ct (σ : L2.St)
def PF (C : Ctx) (H : Hp) (fa : List Addr) : Fl → FlV → Prop
  | .nx σd, .nx σ => RelSt C H fa σd σ
  | .rt d, .rt v => Rel C H fa d v
  | .bk σd, .bk σ => RelSt C H fa σd σ
  | .ct σd, .ct σ => RelSt C H fa σd σ
  | _, _ => False
def endsQ (D : Ends) : FlV → Hp → Prop
  | .nx σ, H => D.nx σ H
  | .rt v, H => D.rt v H
  | .bk σ, H => D.bk σ H
  | .ct σ, H => D.ct σ H
abbrev DS := Env → Sto → Res Fl
def LS (C : Ctx) (E : XK) (f : DS) : TS := fun D σ H => ∃ σd S fa, RelSt C H fa σd σ ∧ RS C H fa S ∧ LKg C E (PF C) (endsQ D) fa H (f σd S)
def svSeq (f g : DS) : DS := fun σ S => (f σ S).bind fun fl S1 => match fl with
  | .nx σ1 => g σ1 S1
  | fl => .ok fl S1
def svNil : DS := fun σ S => .ok (.nx σ) S
theorem ls_nil : PSs X [] (LS C E svNil) := by
  refine PSsimp pss_nil fun D σ H q => ?_
  obtain ⟨σd, S, fa, rs, r, q⟩ := q
  exact lk_ok (P := PF C) (b := .nx σ) q (.refl _ _) r rs
theorem seq_m {f g : DS} {D : Ends} {σ : L2.St} {H : Hp} (q : LS C E (svSeq f g) D σ H) : LS C E f { D with nx := LS C E g D } σ H := by
  obtain ⟨σd, S, fa, rs, r, q⟩ := q
  refine ⟨σd, S, fa, rs, r, ?_⟩
  unfold svSeq at q
  cases e : f σd S with
  | bad => rw [e] at q; exact q
  | exc x p S1 => rw [e] at q; exact q
  | ok fl S1 =>
    rw [e] at q
    intro fa' H' b l rs' p
    cases fl with
    | nx σ1 =>
      cases b with
      | nx σ' => exact ⟨σ1, S1, fa', p, rs', LKg.later q l⟩
      | _ => exact p.elim
    | rt d =>
      cases b with
      | rt v => exact lk_ok (P := PF C) (Q := endsQ D) (b := .rt v) q l rs' p
      | _ => exact p.elim
    | bk σ1 =>
      cases b with
      | bk v => exact lk_ok (P := PF C) (Q := endsQ D) (b := .bk v) q l rs' p
      | _ => exact p.elim
    | ct σ1 =>
      cases b with
      | ct v => exact lk_ok (P := PF C) (Q := endsQ D) (b := .ct v) q l rs' p
      | _ => exact p.elim
theorem ls_cons {st : Stmt} {rest : List Stmt} {f g : DS} (h1 : PS X st (LS C E f)) (h2 : PSs X rest (LS C E g)) : PSs X (st :: rest) (LS C E (svSeq f g)) := PSsimp (pss_cons h1 h2) fun _ _ _ q => seq_m q
def svRet (f : DE) : DS := fun σ S => (f σ S).bind fun d S1 => .ok (.rt d) S1
theorem ls_ret {f : DE} (h : PE X e (LE C E f)) : PS X (.Return (some e) pos) (LS C E (svRet f)) := by
  refine PSimp (ps_ret h) fun D σ H q => ?_
  obtain ⟨σd, S, fa, rs, r, q⟩ := q
  refine ⟨σd, S, fa, rs, r, (LKg.bind q).mono ?_⟩
  rintro v H' ⟨fa', S', d, l, rs', p, q⟩
  exact lk_ok (P := PF C) (b := .rt v) q (.refl _ _) rs' p
def svRetN : DS := fun _ S => .ok (.rt .non) S
theorem ls_retN : PS X (.Return none pos) (LS C E svRetN) := by
  refine PSimp ps_retN fun D σ H q => ?_
  obtain ⟨σd, S, fa, rs, r, q⟩ := q
  exact lk_ok (P := PF C) (b := .rt .non) q (.refl _ _) r .non
def svBrk : DS := fun σ S => .ok (.bk σ) S
def svCont : DS := fun σ S => .ok (.ct σ) S
theorem ls_pass : PS X (.Pass pos) (LS C E svNil) := by
  refine PSimp ps_pass fun D σ H q => ?_
  obtain ⟨σd, S, fa, rs, r, q⟩ := q
  exact lk_ok (P := PF C) (b := .nx σ) q (.refl _ _) r rs
theorem ls_brk : PS X (.Break pos) (LS C E svBrk) := by
  refine PSimp ps_break fun D σ H q => ?_
  obtain ⟨σd, S, fa, rs, r, q⟩ := q
  exact lk_ok (P := PF C) (b := .bk σ) q (.refl _ _) r rs
theorem ls_cont : PS X (.Continue pos) (LS C E svCont) := by
  refine PSimp ps_continue fun D σ H q => ?_
  obtain ⟨σd, S, fa, rs, r, q⟩ := q
  exact lk_ok (P := PF C) (b := .ct σ) q (.refl _ _) r rs
def svExpr (f : DE) : DS := fun σ S => (f σ S).bind fun _ S1 => .ok (.nx σ) S1
theorem ls_expr {f : DE} (h : PE X e (LE C E f)) (hs : swapsWith e none pos.line X.env = pure false) : PS X (.Expr e pos) (LS C E (svExpr f)) := by
  refine PSimp (ps_expr h hs) fun D σ H q => ?_
  obtain ⟨σd, S, fa, rs, r, q⟩ := q
  refine ⟨σd, S, fa, rs, r, (LKg.bind q).mono ?_⟩
  rintro v H' ⟨fa', S', d, l, rs', p, q⟩
  exact lk_ok (P := PF C) (b := .nx σ) q (.refl _ _) rs' (rs.later r l)
def svAsg (f : DE) (t : Tg) : DS := fun σ S => (f σ S).bind fun d S1 => match setTg t d σ with
  | some σ1 => .ok (.nx σ1) S1
  | none => .bad
theorem asg_m {f : DE} {t : Tg} {D : Ends} {σ : L2.St} {H : Hp} (q : LS C E (svAsg f t) D σ H) : LE C E f σ H fun x H1 => LG C t.slots (setTg t) x σ H1 D.nx := by
  obtain ⟨σd, S, fa, rs, r, q⟩ := q
  refine ⟨σd, S, fa, rs, r, (LKg.bind q).mono ?_⟩
  rintro v H' ⟨fa', S', d, l, rs', p, q⟩
  split at q
  · rename_i σ1 e1
    exact ⟨d, σd, S', fa', σ1, p, rs.later r l, rs', e1, fun σ' h ag => lk_ok (P := PF C) (b := .nx σ') q (.refl _ _) rs' h⟩
  · exact q.elim
theorem ls_asg {f : DE} {t : Tg} {tg : Expr} (he : PE X e (LE C E f)) (hg : PG X tg (LG C t.slots (setTg t))) (hs : swapsWithSole [tg] e pos.line X.env = pure false) (hw : swappedStores [tg] e X.env = pure none) (h1 : (assignEach [tg] X.env).map (·.2) = [assign tg X.env]) :
    PS X (.Assign [tg] e pos) (LS C E (svAsg f t)) := PSimp (ps_asg he hg hs hw h1) fun _ _ _ q => asg_m q
/-! xs[i] = e -/
def setD (o i d : D) (S : Sto) : Res Unit := match o, i with
  | .ref n, .int i => match S[n]? with
    | some (.lst xs) => match ixN xs.length i with
      | some j => .ok () (S.set n (.lst (xs.set j d)))
      | none => .bad
    | none => .bad
  | _, _ => .bad
def svSub (f o i : DE) : DS := fun σ S => (f σ S).bind fun d S1 => (o σ S1).bind fun od S2 => (i σ S2).bind fun id S3 => (setD od id d S3).bind fun _ S4 => .ok (.nx σ) S4
def LSet (C : Ctx) : TSet := fun o i v H Q => ∃ od id d S fa S', Rel C H fa od o ∧ Rel C H fa id i ∧ Rel C H fa d v ∧ RS C H fa S ∧ setD od id d S = .ok () S' ∧ ∀ fa' H', Later fa H fa' H' → RS C H' fa' S' → Q H'
theorem set_D : PSet X (LSet C) := by
  intro pins s σ H o i v ov iv u Q I ro ri rv q
  obtain ⟨od, id, d, S, fa, S', p1, p2, p3, r, e, q⟩ := q
  cases od with
  | ref n =>
    cases id with
    | int k =>
      simp only [setD] at e
      split at e
      · rename_i xs e1
        split at e
        · rename_i j e2
          cases e
          cases p2
          cases p1 with
          | ref ha =>
            obtain ⟨vs, h1, h2⟩ := r.at_ n _ _ ha e1
            obtain ⟨l, r'⟩ := r.write ha (h2.set p3 j)
            exact set_list pins s σ H _ _ v ov iv u Q I ro ri rv ⟨_, vs, k, j, rfl, rfl, h1, by rw [← h2.length]; exact e2, q _ _ l r'⟩
        · cases e
      · cases e
    | _ => cases e
  | _ => cases e
theorem setD_noexc {o i d : D} {S S' : Sto} {x : Str} {p : Option (Str × D)} : setD o i d S ≠ .exc x p S' := by
  unfold setD
  split
  · split
    · split
      · exact fun z => nomatch z
      · exact fun z => nomatch z
    · exact fun z => nomatch z
  · exact fun z => nomatch z
theorem ls_sub {f g k : DE} {i : Expr} {p2 : Pos} (he : PE X e (LE C E f)) (ho : PE X o (LE C E g)) (hi : PE X i (LE C E k)) (hs : swapsWithSole [.Subscript o i p2] e pos.line X.env = pure false) (hw : swappedStores [.Subscript o i p2] e X.env = pure none) (h1 : (assignEach [.Subscript o i p2] X.env).map (·.2) = [assign (.Subscript o i p2) X.env])
    (ha : ∀ v, assign (.Subscript o i p2) X.env v = (do
      let ov ← holding [v] (eval o X.env)
      let iv ← holding [v, ov] (eval i X.env)
      standAt p2
      holding [v, ov, iv] (setItem ov iv v)
      release [v, ov, iv] [])) : PS X (.Assign [.Subscript o i p2] e pos) (LS C E (svSub f g k)) := by
  refine PSimp (ps_asg he (pg_sub ho hi (set_D (C := C)) ha) hs hw h1) fun D σ H q => ?_
  obtain ⟨σd, S, fa, rs, r, q⟩ := q
  refine ⟨σd, S, fa, rs, r, (LKg.bind q).mono ?_⟩
  rintro v H' ⟨fa', S', d, l, r', p, q⟩
  refine ⟨σd, S', fa', rs.later r l, r', (LKg.bind q).mono ?_⟩
  rintro ov H2 ⟨fa2, S2, od, l2, r2, p2, q⟩
  refine ⟨σd, S2, fa2, (rs.later r l).later r' l2, r2, (LKg.bind q).mono ?_⟩
  rintro iv H3 ⟨fa3, S3, id, l3, r3, p3, q⟩
  cases e4 : setD od id d S3 with
  | bad => rw [e4] at q; exact q.elim
  | exc x p S => exact absurd e4 setD_noexc
  | ok u S4 =>
    rw [e4] at q
    exact ⟨od, id, d, S3, fa3, S4, Rel.later r2 l3 p2, p3, Rel.later r' (l2.trans l3) p, r3, e4, fun fa' H' l4 r4 => lk_ok (P := PF C) (b := .nx σ) q l4 r4 ((((rs.later r l).later r' l2).later r2 l3).later r3 l4)⟩
/-! o[i], p[j] = e -/
def subOn (d : D) (o i : DE) (σ : Env) (S : Sto) : Res Unit := (o σ S).bind fun od S2 => (i σ S2).bind fun id S3 => setD od id d S3
def svSub2 (f o i p j : DE) : DS := fun σ S => (f σ S).bind fun d S1 => match d with
  | .tup [a, b] => (subOn a o i σ S1).bind fun _ S2 => (subOn b p j σ S2).bind fun _ S3 => .ok (.nx σ) S3
  | _ => .bad
theorem subOn_run {g k : DE} {d : D} {σd : Env} {σ : L2.St} {S : Sto} {fa : List Addr} {H : Hp} {v : V} {β : Type} {P : Hp → List Addr → Fl → β → Prop} {κ : β → Hp → Prop} {kk : Sto → Res Fl} (rs : RelSt C H fa σd σ) (r : RS C H fa S) (p : Rel C H fa d v)
    (q : LKg C E P κ fa H ((subOn d g k σd S).bind fun _ S4 => kk S4)) :
    gSub (LE C E g) (LE C E k) (LSet C) v σ H fun σ' H' => σ' = σ ∧ ∃ fa' S4, Later fa H fa' H' ∧ RS C H' fa' S4 ∧ LKg C E P κ fa' H' (kk S4) := by
  unfold subOn at q
  have q : LKg C E P κ fa H ((g σd S).bind fun od S2 => (k σd S2).bind fun id S3 => (setD od id d S3).bind fun _ S4 => kk S4) := by
    generalize e1 : g σd S = r1 at q ⊢
    cases r1 with
    | ok od S2 =>
      dsimp only [Res.bind] at q ⊢
      generalize e2 : k σd S2 = r2 at q ⊢
      cases r2 with
      | ok id S3 => exact q
      | exc _ _ _ => exact q
      | bad => exact q
    | exc _ _ _ => exact q
    | bad => exact q
  refine ⟨σd, S, fa, rs, r, (LKg.bind q).mono ?_⟩
  rintro ov H2 ⟨fa2, S2, od, l2, r2, p2, q⟩
  refine ⟨σd, S2, fa2, rs.later r l2, r2, (LKg.bind q).mono ?_⟩
  rintro iv H3 ⟨fa3, S3, id, l3, r3, p3, q⟩
  cases e4 : setD od id d S3 with
  | bad => rw [e4] at q; exact q.elim
  | exc x p S => exact absurd e4 setD_noexc
  | ok u S4 =>
    rw [e4] at q
    exact ⟨od, id, d, S3, fa3, S4, Rel.later r2 l3 p2, p3, Rel.later r (l2.trans l3) p, r3, e4, fun fa' H' l4 r4 => ⟨rfl, fa', S4, (l2.trans l3).trans l4, r4, LKg.later (r := kk S4) q l4⟩⟩
theorem ls_sub2 {f g k g2 k2 : DE} {i o2 i2 : Expr} {p1 p2 p3 : Pos} {tk : Nat} (hk : C.K = X.K) (hc : X.calm = true) (he : PE X e (LE C E f)) (ho : PE X o (LE C E g)) (hi : PE X i (LE C E k)) (ho2 : PE X o2 (LE C E g2)) (hi2 : PE X i2 (LE C E k2))
    (hs : swapsWithSole [.Tuple [.Subscript o i p1, .Subscript o2 i2 p2] tk p3] e pos.line X.env = pure false) (hw : swappedStores [.Tuple [.Subscript o i p1, .Subscript o2 i2 p2] tk p3] e X.env = pure none)
    (ha : ∀ v, assign (.Subscript o i p1) X.env v = (do
      let ov ← holding [v] (eval o X.env)
      let iv ← holding [v, ov] (eval i X.env)
      standAt p1
      holding [v, ov, iv] (setItem ov iv v)
      release [v, ov, iv] []))
    (ha2 : ∀ v, assign (.Subscript o2 i2 p2) X.env v = (do
      let ov ← holding [v] (eval o2 X.env)
      let iv ← holding [v, ov] (eval i2 X.env)
      standAt p2
      holding [v, ov, iv] (setItem ov iv v)
      release [v, ov, iv] [])) : PS X (.Assign [.Tuple [.Subscript o i p1, .Subscript o2 i2 p2] tk p3] e pos) (LS C E (svSub2 f g k g2 k2)) := by
  refine PSimp (ps_asg he (pg_tup hc (pgs_cons (pg_sub ho hi (set_D (C := C)) ha) (pgs_cons (pg_sub ho2 hi2 (set_D (C := C)) ha2) pgs_nil))) hs hw) fun D σ H q => ?_
  obtain ⟨σd, S, fa, rs, r, q⟩ := q
  refine ⟨σd, S, fa, rs, r, (LKg.bind q).mono ?_⟩
  rintro v H' ⟨fa', S', d, l, r', p, q⟩
  split at q
  · rename_i a b
    cases p with
    | @tup _ ad vs hq hv =>
      rw [hk] at hq
      cases hv with
      | @cons _ _ va vr ra rr =>
        cases rr with
        | @cons _ _ vb vr2 rb rr2 =>
          cases rr2
          refine ⟨ad, [va, vb], rfl, hq, rfl, va, [vb], rfl, ?_⟩
          obtain ⟨od, S2, fa2, x1, x2, x3⟩ := subOn_run (rs.later r l) r' ra q
          refine ⟨od, S2, fa2, x1, x2, x3.mono ?_⟩
          intro ov H2 ⟨d2, S3, fa3, y1, y2, y3⟩
          refine ⟨d2, S3, fa3, y1, y2, y3.mono ?_⟩
          intro iv H3 z
          obtain ⟨od4, id4, d4, S4, fa4, S5, w1, w2, w3, w4, w5, w6⟩ := z
          refine ⟨od4, id4, d4, S4, fa4, S5, w1, w2, w3, w4, w5, fun fa5 H5 l5 r5 => ?_⟩
          obtain ⟨_, fa6, S6, l6, r6, q6⟩ := w6 fa5 H5 l5 r5
          refine ⟨vb, [], rfl, ?_⟩
          obtain ⟨od, S2, fa2, x1, x2, x3⟩ := subOn_run (κ := endsQ D) (P := PF C) ((rs.later r l).later r' l6) r6 (Rel.later r' l6 rb) q6
          refine ⟨od, S2, fa2, x1, x2, x3.mono ?_⟩
          intro ov H2 ⟨d2, S3, fa3, y1, y2, y3⟩
          refine ⟨d2, S3, fa3, y1, y2, y3.mono ?_⟩
          intro iv H3 z
          obtain ⟨od4, id4, d4, S4, fa4, S5, w1, w2, w3, w4, w5, w6⟩ := z
          refine ⟨od4, id4, d4, S4, fa4, S5, w1, w2, w3, w4, w5, fun fa7 H7 l7 r7 => ⟨rfl, ?_⟩⟩
          obtain ⟨_, fa8, S8, l8, r8, q8⟩ := w6 fa7 H7 l7 r7
          exact lk_ok (P := PF C) (b := .nx σ) q8 (.refl _ _) r8 (((rs.later r l).later r' l6).later r6 l8)
  · exact q.elim
/-! a, b = x, y (no tuple is made) -/
def svPar (i j : Nat) (f g : DE) : DS := fun σ S => (f σ S).bind fun d S1 => (g σ S1).bind fun e S2 => .ok (.nx ((σ.set i (some d)).set j (some e))) S2
theorem par_m {i j : Nat} {f g : DE} {D : Ends} {σ : L2.St} {H : Hp} (q : LS C E (svPar i j f g) D σ H) : tPar i j (LA C E (evCons f (evCons g evNil))) D σ H := by
  obtain ⟨σd, S, fa, rs, r, q⟩ := q
  refine ⟨σd, S, fa, rs, r, ?_⟩
  unfold svPar at q
  unfold evCons evNil
  cases e1 : f σd S with
  | bad => rw [e1] at q; exact q
  | exc x p S1 => rw [e1] at q; exact q
  | ok d S1 =>
    rw [e1] at q
    dsimp only [Res.bind] at q ⊢
    cases e2 : g σd S1 with
    | bad => rw [e2] at q; exact q
    | exc x p S1 => rw [e2] at q; exact q
    | ok d2 S2 =>
      rw [e2] at q
      dsimp only [Res.bind] at q ⊢
      intro fa' H' vs l r' p
      obtain ⟨v, u, rfl, p1, p2⟩ := p.two
      exact ⟨v, u, rfl, lk_ok (P := PF C) (b := .nx _) q l r' (((rs.later r l).set p1 i).set p2 j)⟩
/-! if -/
def svIf (t : DE) (f g : DS) : DS := fun σ S => ((t σ S).bind asB).bind fun k S1 => if k = true then f σ S1 else g σ S1
theorem ls_if {t : DE} {f g : DS} {a b : List Stmt} (hc : PT X c (LT C E (evT t))) (ha : PSs X a (LS C E f)) (hb : PSs X b (LS C E g)) : PS X (.If c a b pos) (LS C E (svIf t f g)) := by
  refine PSimp (ps_if hc ha hb) fun D σ H q => ?_
  obtain ⟨σd, S, fa, rs, r, q⟩ := q
  refine ⟨σd, S, fa, rs, r, (LKg.bind (P2 := PB) q).mono ?_⟩
  rintro k H' ⟨fa', S', k', l, rs', p, q⟩
  subst p
  split at q
  · rw [if_pos (by assumption)]
    exact ⟨σd, S', fa', rs.later r l, rs', q⟩
  · rw [if_neg (by assumption)]
    exact ⟨σd, S', fa', rs.later r l, rs', q⟩
/-! while -/
def whN (t : DE) (f : DS) : Nat → DS
  | 0, _, _ => .bad
  | n + 1, σ, S => ((t σ S).bind asB).bind fun k S1 => if k = true then (f σ S1).bind fun fl S2 => match fl with
      | .nx σ1 => whN t f n σ1 S2
      | .ct σ1 => whN t f n σ1 S2
      | .bk σ1 => .ok (.nx σ1) S2
      | .rt d => .ok (.rt d) S2
    else .ok (.nx σ) S1
open Classical in
noncomputable def svWh (t : DE) (f : DS) : DS := fun σ S => if h : ∃ n, whN t f n σ S ≠ .bad then whN t f (Classical.choose h) σ S else .bad
theorem Res.bind_ne {α β : Type} {r : Res α} {k : α → Sto → Res β} (h : r.bind k ≠ .bad) : r ≠ .bad := fun e => h (by rw [e]; rfl)
theorem whN_succ {t : DE} {f : DS} : ∀ (n : Nat) (σ : Env) (S : Sto), whN t f n σ S ≠ .bad → whN t f (n + 1) σ S = whN t f n σ S
  | 0, _, _, h => absurd rfl h
  | n + 1, σ, S, h => by
    rw [whN, whN]
    cases e : (t σ S).bind asB with
    | bad => rfl
    | exc x p S1 => rfl
    | ok k S1 =>
      dsimp only [Res.bind]
      cases k with
      | false => rfl
      | true =>
        simp only [if_true]
        cases e2 : f σ S1 with
        | bad => rfl
        | exc x p S1 => rfl
        | ok fl S2 =>
          dsimp only [Res.bind]
          rw [whN, e] at h
          dsimp only [Res.bind] at h
          simp only [if_true, e2] at h
          cases fl with
          | nx σ1 => exact whN_succ n σ1 S2 h
          | ct σ1 => exact whN_succ n σ1 S2 h
          | bk σ1 => rfl
          | rt d => rfl
theorem whN_le {t : DE} {f : DS} {n m : Nat} {σ : Env} {S : Sto} (h : whN t f n σ S ≠ .bad) (hm : n ≤ m) : whN t f m σ S = whN t f n σ S := by
  obtain ⟨k, rfl⟩ := Nat.le.dest hm
  clear hm
  induction k with
  | zero => rfl
  | succ k ih => rw [← Nat.add_assoc, whN_succ _ _ _ (by rw [ih]; exact h), ih]
theorem svWh_of {t : DE} {f : DS} {n : Nat} {σ : Env} {S : Sto} (h : whN t f n σ S ≠ .bad) : svWh t f σ S = whN t f n σ S := by
  have hx : ∃ n, whN t f n σ S ≠ .bad := ⟨n, h⟩
  unfold svWh
  rw [dif_pos hx]
  have h1 := Classical.choose_spec hx
  rcases Nat.le_total n (Classical.choose hx) with z | z
  · exact whN_le h z
  · exact (whN_le h1 z).symm
theorem ls_while {t : DE} {f : DS} {body : List Stmt} (hp : PassesOwn (model X.prog X.w) X.A X.env X.xe) (hc : PT X c (LT C E (evT t))) (hb : PSs X body (LS C E f)) : PS X (.While c body [] pos) (LS C E (svWh t f)) := by
  refine PSimp (ps_while hp hc hb) fun D σ H q => ?_
  have key : ∃ n, LS C E (whN t f n) D σ H := by
    obtain ⟨σd, S, fa, rs, r, q⟩ := q
    unfold svWh at q
    split at q
    · exact ⟨_, σd, S, fa, rs, r, q⟩
    · exact q.elim
  obtain ⟨n, q⟩ := key
  refine ⟨fun m σ H => LS C E (whN t f m) D σ H, ⟨n, q⟩, fun m σ H hW => ?_⟩
  cases m with
  | zero =>
    obtain ⟨σd, S, fa, rs, r, q⟩ := hW
    exact q.elim
  | succ m =>
    obtain ⟨σd, S, fa, rs, r, q⟩ := hW
    refine ⟨σd, S, fa, rs, r, (LKg.bind (P2 := PB) q).mono ?_⟩
    rintro k H' ⟨fa', S', k', l, r', p, q⟩
    subst p
    split at q
    · rw [if_pos (by assumption)]
      refine ⟨fun σ H => LS C E (whN t f m) D σ H, fun σ' H' h => ⟨m, Nat.lt_succ_self m, h⟩, ?_⟩
      refine ⟨σd, S', fa', rs.later r l, r', ?_⟩
      cases e : f σd S' with
      | bad => rw [e] at q; exact q
      | exc x p S1 => rw [e] at q; exact q
      | ok fl S1 =>
        rw [e] at q
        dsimp only [Res.bind] at q
        intro fa2 H2 b l2 r2 p
        cases fl with
        | nx σ1 =>
          cases b with
          | nx σ' => exact ⟨σ1, S1, fa2, p, r2, LKg.later q l2⟩
          | _ => exact p.elim
        | ct σ1 =>
          cases b with
          | ct σ' => exact ⟨σ1, S1, fa2, p, r2, LKg.later q l2⟩
          | _ => exact p.elim
        | bk σ1 =>
          cases b with
          | bk σ' => exact lk_ok (P := PF C) (b := .nx σ') q l2 r2 p
          | _ => exact p.elim
        | rt d =>
          cases b with
          | rt v => exact lk_ok (P := PF C) (Q := endsQ D) (b := .rt v) q l2 r2 p
          | _ => exact p.elim
    · rw [if_neg (by assumption)]
      exact lk_ok (P := PF C) (b := .nx σ) q (.refl _ _) r' (rs.later r l)
end
end DV

end
section
set_option Elab.async false
set_option linter.all false
set_option maxRecDepth 100000
set_option maxHeartbeats 4000000
set_option autoImplicit false
/-! The deep layer, part I: what loops walk; for; comprehensions; raise. -/
namespace DV
open PySem PySem.Spec PyProof.Rows L2

/-- what is walked: the items; lists that must stand still -/
structure Walk where
  items : List D
  lock : List (Nat × List D)
def Locked (S : Sto) (lk : List (Nat × List D)) : Prop := ∀ p ∈ lk, S[p.1]? = some (LO.lst p.2)
def JOk (C : Ctx) (H0 : Hp) (fa0 : List Addr) (w : Walk) (J : It) : Prop := ∀ (fa : List Addr) (H : Hp) (S : Sto), Later fa0 H0 fa H → RS C H fa S → Locked S w.lock →
  J.stop w.items.length H ∧ ∀ (i : Nat) (d : D), w.items[i]? = some d → J.go i H ∧ ∀ (x : V) (H' : Hp), J.yld i H x H' → Later fa H fa H' ∧ RS C H' fa S ∧ Rel C H' fa d x
abbrev DI := Env → Sto → Res Walk
section
variable {X : Cx} {C : Ctx} {E : XK} {a b c e o tg : Expr} {pos : Pos}
def LI (C : Ctx) (E : XK) (f : DI) : TI := fun σ H R => ∃ σd S fa, RelSt C H fa σd σ ∧ RS C H fa S ∧ LKg C E (JOk C) (fun J H' => R J H') fa H (f σd S)
theorem PIimp {t t' : TI} (h : PI X tg e t) (m : ∀ σ H R, t' σ H R → t σ H R) : PI X tg e t' := ⟨fun pins s σ H R I q => h.run pins s σ H R I (m _ _ _ q)⟩
/-- a list or a tuple -/
def walkD (d : D) (S : Sto) : Res Walk := match d with
  | .tup xs => .ok ⟨xs, []⟩ S
  | .lstc xs => .ok ⟨xs, []⟩ S
  | .ref n => match S[n]? with
    | some (.lst xs) => .ok ⟨xs, [(n, xs)]⟩ S
    | none => .bad
  | _ => .bad
def evWalk (f : DE) : DI := fun σ S => (f σ S).bind walkD
theorem jok_l {H : Hp} {fa : List Addr} {a : Addr} {xs : List D} {lk : List (Nat × List D)} {K : PySem.W.Frag} (h : ∀ fa' H' S', Later fa H fa' H' → RS C H' fa' S' → Locked S' lk → ∃ vs, SqL K H' a vs ∧ Rels C H' fa' xs vs) : JOk C H fa ⟨xs, lk⟩ (Itl K a) := by
  intro fa' H' S' l r k
  obtain ⟨vs, h1, h2⟩ := h fa' H' S' l r k
  refine ⟨⟨vs, h1, by rw [← h2.length]; exact Nat.le_refl _⟩, fun i d hi => ?_⟩
  obtain ⟨v, hv, rv⟩ := h2.get hi
  refine ⟨⟨vs, v, h1, hv⟩, fun x H'' hy => ?_⟩
  obtain ⟨rfl, h3⟩ := hy
  rw [h3 vs h1] at hv
  cases hv
  exact ⟨.refl _ _, r, rv⟩
theorem jok_t {H : Hp} {fa : List Addr} {S : Sto} {a : Addr} {xs : List D} {vs : List V} (r : RS C H fa S) (h1 : SqT C.K H a vs) (h2 : Rels C H fa xs vs) : JOk C H fa ⟨xs, []⟩ (Itt C.K a) := by
  intro fa' H' S' l r' k
  have g1 := SqT.later r l h1
  have g2 := Rels.later r l h2
  refine ⟨⟨vs, g1, by rw [← g2.length]; exact Nat.le_refl _⟩, fun i d hi => ?_⟩
  obtain ⟨v, hv, rv⟩ := g2.get hi
  refine ⟨⟨vs, v, g1, hv⟩, fun x H'' hy => ?_⟩
  obtain ⟨rfl, h3⟩ := hy
  rw [h3 vs g1] at hv
  cases hv
  exact ⟨.refl _ _, r', rv⟩
/-- for over a list or a tuple: which of both is told by the run -/
theorem pi_seq {te : TE} (he : PE X e te) : PI X tg e fun σ H R => te σ H fun x H1 => ∃ a, x = .ref a ∧ ((∃ xs, SqL X.K H1 a xs ∧ R (Itl X.K a) H1) ∨ (∃ xs, SqT X.K H1 a xs ∧ R (Itt X.K a) H1)) := by
  refine ⟨fun pins s σ H R I h => ?_⟩
  refine thn (he.run pins s σ H _ I h) fun v s1 ⟨x, H1, I1, r1, q1⟩ => ?_
  obtain ⟨a, rfl, q1⟩ := q1
  obtain rfl : v = Value.ref a := r1
  have nw : ∀ b, b ∈ [s1.heap.objs.size] → FpOk X pins H1 b := fun b hb => by
    have e : b = s1.heap.objs.size := by simpa using hb
    subst e
    exact I1.fpOk (Nat.le_refl _) (I1.hok.fresh (Nat.le_refl _))
  rcases q1 with ⟨xs, hq, q⟩ | ⟨xs, hq, q⟩
  · obtain ⟨its, rv, p, hz⟩ := I1.list hq
    exact wpAny_pyIter_list p.isList ⟨s1.heap.objs.size, [s1.heap.objs.size], _, _, H1, rfl, I1.kept (t' := s1.toks) fun b o e => Heap.get?_push_of_some _ e, turn_list a _, ⟨_, Heap.get?_push_size _ rfl, rfl, rfl⟩, nw, q⟩
  · obtain ⟨its, rv, p, hz⟩ := I1.tuple hq
    exact wpAny_pyIter_tuple (show s1.heap.IsTuple a its.toArray from p) ⟨s1.heap.objs.size, [s1.heap.objs.size], _, _, H1, rfl, I1.kept (t' := s1.toks) fun b o e => Heap.get?_push_of_some _ e, turn_tuple a _, ⟨_, Heap.get?_push_size _ rfl, rfl, rfl⟩, nw, q⟩
theorem li_walk {f : DE} (hk : C.K = X.K) (h : PE X e (LE C E f)) : PI X tg e (LI C E (evWalk f)) := by
  refine PIimp (pi_seq h) fun σ H R q => ?_
  obtain ⟨σd, S, fa, rs, r, q⟩ := q
  refine ⟨σd, S, fa, rs, r, (LKg.bind (P2 := PD C) q).mono ?_⟩
  rintro x H1 ⟨fa1, S1, d, l1, r1, p1, q1⟩
  cases d with
  | tup xs =>
    cases p1 with
    | @tup _ a vs p ps =>
      refine ⟨a, rfl, .inr ⟨vs, by rw [← hk]; exact p, ?_⟩⟩
      rw [← hk]
      exact lk_ok (P := JOk C) q1 (.refl _ _) r1 (jok_t r1 p ps)
  | lstc xs =>
    obtain ⟨a, vs, rfl, h1, h2⟩ := r1.lstc p1
    refine ⟨a, rfl, .inl ⟨vs, by rw [← hk]; exact h1, ?_⟩⟩
    rw [← hk]
    refine lk_ok (P := JOk C) q1 (.refl _ _) r1 (jok_l fun fa' H' S' l r' _ => ?_)
    have z := Rel.later r1 l p1
    obtain ⟨a', vs', e, h3, h4⟩ := r'.lstc z
    cases e
    exact ⟨vs', h3, h4⟩
  | ref n =>
    simp only [walkD] at q1
    split at q1
    · rename_i xs e1
      obtain ⟨a, vs, rfl, ha, h1, h2⟩ := r1.ref p1 e1
      refine ⟨a, rfl, .inl ⟨vs, .inl (.inl h1), ?_⟩⟩
      refine lk_ok (P := JOk C) q1 (.refl _ _) r1 (jok_l fun fa' H' S' l r' k => ?_)
      obtain ⟨vs', h3, h4⟩ := r'.at_ n a _ (l.at_ ha) (k (n, xs) (by simp))
      exact ⟨vs', .inl (.inl h3), h4⟩
    · exact q1.elim
  | _ => exact q1.elim
/-! ranges -/
def rangeW (lo : Int) (n : Nat) : Walk := ⟨(List.range n).map fun i => D.int (lo + (i : Nat)), []⟩
theorem jok_r {H : Hp} {fa : List Addr} (lo : Int) (n : Nat) : JOk C H fa (rangeW lo n) (Itr lo n) := by
  intro fa' H' S' l r k
  refine ⟨by simp [rangeW, Itr], fun i d hi => ?_⟩
  have hl : i < n := by
    rcases Nat.lt_or_ge i n with z | z
    · exact z
    · rw [rangeW, List.getElem?_eq_none (by simpa using z)] at hi
      cases hi
  refine ⟨hl, fun x H'' hy => ?_⟩
  obtain ⟨rfl, rfl⟩ := hy
  have e : d = D.int (lo + (i : Nat)) := by
    simp only [rangeW, List.getElem?_map, List.getElem?_range hl, Option.map_some, Option.some.injEq] at hi
    exact hi.symm
  subst e
  exact ⟨.refl _ _, r, .int _⟩
def okR (i : Int) : Prop := -4611686018427387904 ≤ i ∧ i < 4611686018427387904
instance (i : Int) : Decidable (okR i) := inferInstanceAs (Decidable (_ ∧ _))
def range1D (ds : List D) (S : Sto) : Res Walk := match ds with
  | [.int j] => if okR j then .ok (rangeW 0 j.toNat) S else .bad
  | _ => .bad
def range2D (ds : List D) (S : Sto) : Res Walk := match ds with
  | [.int i, .int j] => if okR i ∧ okR j then .ok (rangeW i (j - i).toNat) S else .bad
  | _ => .bad
theorem li_range1 {f : DEs} {p : Pos} (hg : Gl X "range") (hm : X.mg "range" = none) (ha : PA X [a] (LA C E f)) (hs : starEach [a] X.env = [(false, eval a X.env)]) : PI X tg (.Call (.Name "range" p) [a] [] pos) (LI C E fun σ S => (f σ S).bind range1D) := by
  refine PIimp (pi_range1 hg hm ha hs) fun σ H R q => ?_
  obtain ⟨σd, S, fa, rs, r, q⟩ := q
  refine ⟨σd, S, fa, rs, r, (LKg.bind (P2 := PDs C) q).mono ?_⟩
  rintro vs H1 ⟨fa1, S1, ds, l1, r1, p1, q1⟩
  unfold range1D at q1
  split at q1
  · split at q1
    · rename_i hz
      obtain ⟨v, rfl, p2⟩ := p1.one
      cases p2
      exact ⟨_, rfl, hz.1, hz.2, lk_ok (P := JOk C) q1 (.refl _ _) r1 (jok_r _ _)⟩
    · exact q1.elim
  · exact q1.elim
theorem li_range2 {f : DEs} {p : Pos} (hg : Gl X "range") (hm : X.mg "range" = none) (ha : PA X [a, b] (LA C E f)) (hs : starEach [a, b] X.env = [(false, eval a X.env), (false, eval b X.env)]) (hs2 : starEach [b] X.env = [(false, eval b X.env)]) : PI X tg (.Call (.Name "range" p) [a, b] [] pos) (LI C E fun σ S => (f σ S).bind range2D) := by
  refine PIimp (pi_range2 hg hm ha hs hs2) fun σ H R q => ?_
  obtain ⟨σd, S, fa, rs, r, q⟩ := q
  refine ⟨σd, S, fa, rs, r, (LKg.bind (P2 := PDs C) q).mono ?_⟩
  rintro vs H1 ⟨fa1, S1, ds, l1, r1, p1, q1⟩
  unfold range2D at q1
  split at q1
  · split at q1
    · rename_i hz
      obtain ⟨v, u, rfl, p2, p3⟩ := p1.two
      cases p2
      cases p3
      exact ⟨_, _, rfl, ⟨hz.1.1, hz.1.2, hz.2.1, hz.2.2⟩, lk_ok (P := JOk C) q1 (.refl _ _) r1 (jok_r _ _)⟩
    · exact q1.elim
  · exact q1.elim
/-! ### for -/
open Classical in
noncomputable def forD (lk : List (Nat × List D)) (t : Tg) (f : DS) : List D → DS
  | [], σ, S => if Locked S lk then .ok (.nx σ) S else .bad
  | d :: ds, σ, S => if Locked S lk then match setTg t d σ with
      | some σ1 => (f σ1 S).bind fun fl S1 => match fl with
        | .nx σ2 => forD lk t f ds σ2 S1
        | .ct σ2 => forD lk t f ds σ2 S1
        | .bk σ2 => .ok (.nx σ2) S1
        | .rt d => .ok (.rt d) S1
      | none => .bad
    else .bad
noncomputable def svFor (w : DI) (t : Tg) (f : DS) : DS := fun σ S => (w σ S).bind fun wk S1 => forD wk.lock t f wk.items σ S1
theorem ls_for {w : DI} {t : Tg} {f : DS} {body : List Stmt} (hp : PassesOwn (model X.prog X.w) X.A X.env X.xe) (hc : X.calm = true) (hi : PI X tg e (LI C E w)) (hg : PG X tg (LG C t.slots (setTg t))) (hb : PSs X body (LS C E f))
    (hs : ∀ x, foldedSetIterable e X.env x = pure x) : PS X (.For tg e body [] pos) (LS C E (svFor w t f)) := by
  refine PSimp (ps_for hp hc hi hg hb hs) fun D σ H q => ?_
  obtain ⟨σd, S, fa, rs, r, q⟩ := q
  refine ⟨σd, S, fa, rs, r, (LKg.bind (P2 := JOk C) q).mono ?_⟩
  rintro J H1 ⟨fa1, S1, wk, l1, r1, hJ, q1⟩
  refine ⟨fun i m σ H => m = wk.items.length - i ∧ i ≤ wk.items.length ∧ ∃ σd S fa, RelSt C H fa σd σ ∧ RS C H fa S ∧ Later fa1 H1 fa H ∧ LKg C E (PF C) (endsQ D) fa H (forD wk.lock t f (wk.items.drop i) σd S),
    ⟨wk.items.length, rfl, Nat.zero_le _, σd, S1, fa1, rs.later r l1, r1, .refl _ _, q1⟩, ?_⟩
  rintro i m σ H ⟨rfl, hi, σd, S, fa, rs, r, l, q⟩
  by_cases hlt : i < wk.items.length
  · rw [List.drop_eq_getElem_cons hlt] at q
    simp only [forD] at q
    split at q
    · rename_i hL
      obtain ⟨_, hJ2⟩ := hJ fa H S l r hL
      obtain ⟨hgo, hy⟩ := hJ2 i _ (List.getElem?_eq_getElem hlt)
      split at q
      · rename_i σ1 e1
        refine .inr ⟨hgo, fun σ' H' => ∃ σd S fa, RelSt C H' fa σd σ' ∧ RS C H' fa S ∧ Later fa1 H1 fa H' ∧ LKg C E (PF C) (endsQ D) fa H' (forD wk.lock t f (wk.items.drop (i + 1)) σd S), fun σ' H' h => ⟨wk.items.length - (i + 1), by omega, rfl, hlt, h⟩, fun x H' y => ?_⟩
        obtain ⟨l2, r2, p⟩ := hy x H' y
        refine ⟨_, σd, S, fa, σ1, p, rs.later r l2, r2, e1, fun σ' rs' _ => ?_⟩
        refine ⟨σ1, S, fa, rs', r2, ?_⟩
        have q := LKg.later q l2
        cases e : f σ1 S with
        | bad => rw [e] at q; exact q
        | exc x p S1 => rw [e] at q; exact q
        | ok fl S1 =>
          rw [e] at q
          dsimp only [Res.bind] at q
          intro fa2 H2 b l3 r3 p
          cases fl with
          | nx σ1 =>
            cases b with
            | nx σ' => exact ⟨σ1, S1, fa2, p, r3, (l.trans l2).trans l3, LKg.later q l3⟩
            | _ => exact p.elim
          | ct σ1 =>
            cases b with
            | ct σ' => exact ⟨σ1, S1, fa2, p, r3, (l.trans l2).trans l3, LKg.later q l3⟩
            | _ => exact p.elim
          | bk σ1 =>
            cases b with
            | bk σ' => exact lk_ok (P := PF C) (Q := endsQ D) (b := .nx σ') q l3 r3 p
            | _ => exact p.elim
          | rt d =>
            cases b with
            | rt v => exact lk_ok (P := PF C) (Q := endsQ D) (b := .rt v) q l3 r3 p
            | _ => exact p.elim
      · exact q.elim
    · exact q.elim
  · have e : i = wk.items.length := by omega
    subst e
    rw [List.drop_length] at q
    simp only [forD] at q
    split at q
    · rename_i hL
      obtain ⟨hJ1, _⟩ := hJ fa H S l r hL
      exact .inl ⟨hJ1, lk_ok (P := PF C) (Q := endsQ D) (b := .nx σ) q (.refl _ _) r rs⟩
    · exact q.elim
/-! ### comprehensions -/
def wipeD (σ : Env) : List Nat → Env
  | [] => σ
  | v :: vs => (wipeD σ vs).set v none
theorem wipeD_rel {H : Hp} {fa : List Addr} {σd : Env} {σ : L2.St} (h : RelSt C H fa σd σ) : ∀ vs : List Nat, RelSt C H fa (wipeD σd vs) (wipe σ vs)
  | [] => h
  | v :: vs => by
    have ih := wipeD_rel h vs
    refine ⟨by simp [wipeD, wipe, ih.1], fun j e q => ?_⟩
    by_cases hj : j = v
    · subst hj
      simp only [wipeD] at q
      rcases Nat.lt_or_ge j (wipeD σd vs).length with z | z
      · rw [List.getElem?_set_self z] at q
        cases q
      · rw [List.getElem?_eq_none (by simpa using z)] at q
        cases q
    · simp only [wipeD] at q
      rw [List.getElem?_set_ne (Ne.symm hj)] at q
      obtain ⟨u, h1, h2⟩ := ih.2 j e q
      refine ⟨u, ?_, h2⟩
      simp only [wipe]
      rw [List.getElem?_set_ne (Ne.symm hj)]
      exact h1
theorem wipe_at {σ : L2.St} : ∀ (vs : List Nat) (j : Nat), (wipe σ vs)[j]? = if j ∈ vs then (if j < σ.length then some none else none) else σ[j]?
  | [], j => by simp [wipe]
  | v :: vs, j => by
    simp only [wipe]
    by_cases hj : j = v
    · subst hj
      rcases Nat.lt_or_ge j (wipe σ vs).length with z | z
      · rw [List.getElem?_set_self z, if_pos (by simp), if_pos (by rw [← wipe_length σ vs]; exact z)]
      · rw [List.getElem?_eq_none (by simpa using z), if_pos (by simp), if_neg (by rw [← wipe_length σ vs]; omega)]
    · rw [List.getElem?_set_ne (Ne.symm hj), wipe_at vs j]
      simp [hj]
theorem wipe_agree {σ σ' : L2.St} {vs us : List Nat} (h : Agree us (wipe σ vs) σ') (hs : ∀ i ∈ us, i ∈ vs) : wipe σ' vs = wipe σ vs := by
  apply List.ext_getElem?
  intro j
  rw [wipe_at, wipe_at]
  have hl : σ'.length = σ.length := by rw [h.1, wipe_length]
  rw [hl]
  split
  · rfl
  · rename_i hj
    rw [h.2 j (fun z => hj (hs j z)), wipe_at, if_neg hj]
def noE {α : Type} : Res α → Res α
  | .exc _ _ _ => .bad
  | r => r
theorem noE_lk {α β : Type} {P : Hp → List Addr → α → β → Prop} {Q : β → Hp → Prop} {E' : XK} {fa : List Addr} {H : Hp} {r : Res α} (h : LKg C E P Q fa H (noE r)) : LKg C E' P Q fa H r := by
  cases r with
  | ok a S => exact h
  | exc x p S => exact h.elim
  | bad => exact h.elim
open Classical in
noncomputable def compD (lk : List (Nat × List D)) (t : Tg) (vs : List Nat) (cond : DB) (f : DE) (n : Nat) (σ : Env) : List D → Sto → Res D
  | [], S => if Locked S lk then .ok (.ref n) S else .bad
  | d :: ds, S => if Locked S lk then match setTg t d (wipeD σ vs) with
      | some σ1 => (noE (cond σ1 S)).bind fun k S1 => if k = true then (noE (f σ1 S1)).bind fun y S2 => (appD n y S2).bind fun _ S3 => compD lk t vs cond f n σ ds S3
          else compD lk t vs cond f n σ ds S1
      | none => .bad
    else .bad
noncomputable def evComp (w : DI) (t : Tg) (vs : List Nat) (cond : DB) (f : DE) : DE := fun σ S => (w σ S).bind fun wk S1 => compD wk.lock t vs cond f S1.length σ wk.items (S1 ++ [.lst []])
theorem Locked.keep {S : Sto} {lk : List (Nat × List D)} (h : Locked S lk) (o : LO) : Locked (S ++ [o]) lk := fun p hp => by
  have z := h p hp
  have hl : p.1 < S.length := (List.getElem?_eq_some_iff.mp z).1
  rw [List.getElem?_append_left hl]
  exact z
theorem comp_m {w : DI} {t : Tg} {vs : List Nat} {cond : DB} {f : DE} {σ : L2.St} {H : Hp} {Q : VK} (ht : ∀ i ∈ t.slots, i ∈ vs) (q : LE C E (evComp w t vs cond f) σ H Q) : tLc (LI C E w) (LG C t.slots (setTg t)) (LT C E0 cond) (LE C E0 f) vs σ H Q := by
  obtain ⟨σd, S, fa, rs, r, q⟩ := q
  refine ⟨σd, S, fa, rs, r, (LKg.bind (P2 := JOk C) q).mono ?_⟩
  rintro J H1 ⟨fa1, S1, wk, l1, r1, hJ, q1⟩ L hL
  obtain ⟨l2, r2⟩ := r1.new (xs := []) (vs := []) hL .nil
  have hn : (fa1 ++ [L])[S1.length]? = some L := by
    rw [← r1.len, List.getElem?_append_right (Nat.le_refl _), Nat.sub_self]
    rfl
  refine ⟨fun i m H => m = wk.items.length - i ∧ i ≤ wk.items.length ∧ ∃ S fa, RS C H fa S ∧ Later (fa1 ++ [L]) (upd H1 L (.lst [])) fa H ∧ LKg C E (PD C) Q fa H (compD wk.lock t vs cond f S1.length σd (wk.items.drop i) S),
    ⟨wk.items.length, rfl, Nat.zero_le _, _, _, r2, .refl _ _, LKg.later q1 l2⟩, ?_⟩
  rintro i m H2 ⟨rfl, hi, S2, fa2, r3, l3, q⟩
  by_cases hlt : i < wk.items.length
  · rw [List.drop_eq_getElem_cons hlt] at q
    simp only [compD] at q
    split at q
    · rename_i hLk
      obtain ⟨_, hJ2⟩ := hJ fa2 H2 S2 (l2.trans l3) r3 hLk
      obtain ⟨hgo, hy⟩ := hJ2 i _ (List.getElem?_eq_getElem hlt)
      split at q
      · rename_i σ1 e1
        refine .inr ⟨hgo, fun H' => ∃ S fa, RS C H' fa S ∧ Later (fa1 ++ [L]) (upd H1 L (.lst [])) fa H' ∧ LKg C E (PD C) Q fa H' (compD wk.lock t vs cond f S1.length σd (wk.items.drop (i + 1)) S), fun H' h => ⟨wk.items.length - (i + 1), by omega, rfl, hlt, h⟩, fun x H' y => ?_⟩
        obtain ⟨l4, r4, p⟩ := hy x H' y
        have rsw : RelSt C H' fa2 (wipeD σd vs) (wipe σ vs) := wipeD_rel ((((rs.later r l1).later r1 l2).later r2 l3).later r3 l4) vs
        refine ⟨_, _, S2, fa2, σ1, p, rsw, r4, e1, fun σ' rs' ag => ⟨wipe_agree ag ht, ?_⟩⟩
        refine ⟨σ1, S2, fa2, rs', r4, ?_⟩
        have q := LKg.later q l4
        have q := (LKg.bind (P2 := PB) q)
        refine (noE_lk q).mono ?_
        rintro k H5 ⟨fa5, S5, k', l5, r5, p5, q5⟩
        subst p5
        split at q5
        · rw [if_pos (by assumption)]
          refine ⟨σ1, S5, fa5, rs'.later r4 l5, r5, ?_⟩
          refine (noE_lk (LKg.bind (P2 := PD C) q5)).mono ?_
          rintro yv H6 ⟨fa6, S6, d6, l6, r6, p6, q6⟩
          have hn6 : fa6[S1.length]? = some L := (((l3.trans l4).trans l5).trans l6).at_ hn
          unfold appD at q6
          split at q6
          · rename_i xs e6
            split at q6
            · rename_i hz
              obtain ⟨acc, h7, h8⟩ := r6.at_ _ _ _ hn6 e6
              obtain ⟨l7, r7⟩ := r6.write hn6 (h8.append (.cons p6 .nil))
              exact ⟨acc, h7, by rw [← h8.length, sizeLine_eq]; exact hz, _, _, r7, (((l3.trans l4).trans l5).trans l6).trans l7, LKg.later q6 l7⟩
            · exact q6.elim
          · exact q6.elim
        · rw [if_neg (by assumption)]
          exact ⟨_, _, r5, (l3.trans l4).trans l5, q5⟩
      · exact q.elim
    · exact q.elim
  · have e : i = wk.items.length := by omega
    subst e
    rw [List.drop_length] at q
    simp only [compD] at q
    split at q
    · rename_i hLk
      obtain ⟨hJ1, _⟩ := hJ fa2 H2 S2 (l2.trans l3) r3 hLk
      exact .inl ⟨hJ1, lk_ok (P := PD C) q (.refl _ _) r3 (.ref (l3.at_ hn))⟩
    · exact q.elim
theorem le_comp {elt : Expr} {ifs : List Expr} {scope : Scope} {own : List (Str × Nat)} {w : DI} {t : Tg} {cond : DB} {f : DE} (hc : X.calm = true) (hN : X.N.Nodup) (hi : PI X tg e (LI C E w)) (ok : BlkOk X.N X.env.scope scope own) (ht : ∀ i ∈ t.slots, i ∈ own.map (·.2))
    (hg : ∀ (s : Shared) (H : Hp) (c : Addr) (cl : List (Str × Addr)) (fp : List Addr), PG (X.blk s H scope (compEnvC scope cl c X.env) fp) tg (LG C t.slots (setTg t)))
    (hq : ∀ (s : Shared) (H : Hp) (c : Addr) (cl : List (Str × Addr)) (fp : List Addr), PTs (X.blk s H scope (compEnvC scope cl c X.env) fp) ifs (LT C E0 cond))
    (he : ∀ (s : Shared) (H : Hp) (c : Addr) (cl : List (Str × Addr)) (fp : List Addr), PE (X.blk s H scope (compEnvC scope cl c X.env) fp) elt (LE C E0 f)) (hs : ∀ x, foldedSetIterable e X.env x = pure x) :
    PE X (.ListComp elt [⟨tg, e, ifs, 0⟩] scope pos) (LE C E (evComp w t (own.map (·.2)) cond f)) := PEimp (pe_lc hc hN hi ok hg hq he hs) fun _ _ _ q => comp_m ht q
/-- y = [..] on one line -/
theorem ls_setComp {elt : Expr} {ifs : List Expr} {scope : Scope} {own : List (Str × Nat)} {w : DI} {t : Tg} {cond : DB} {f : DE} {i : Nat} {y : Str} {py spos : Pos} (hc : X.calm = true) (hN : X.N.Nodup) (hy : X.N[i]? = some y) (hyl : X.env.scope.names.lookup y = some .local)
    (hsw : swapsWith (.ListComp elt [⟨tg, e, ifs, 0⟩] scope pos) (some (.Name y py)) spos.line X.env = pure true) (hi : PI X tg e (LI C E w)) (ok : BlkOk X.N X.env.scope scope own) (ht : ∀ i ∈ t.slots, i ∈ own.map (·.2))
    (hg : ∀ (s : Shared) (H : Hp) (c : Addr) (cl : List (Str × Addr)) (fp : List Addr), PG (X.blk s H scope (compEnvC scope cl c X.env) fp) tg (LG C t.slots (setTg t)))
    (hq : ∀ (s : Shared) (H : Hp) (c : Addr) (cl : List (Str × Addr)) (fp : List Addr), PTs (X.blk s H scope (compEnvC scope cl c X.env) fp) ifs (LT C E0 cond))
    (he : ∀ (s : Shared) (H : Hp) (c : Addr) (cl : List (Str × Addr)) (fp : List Addr), PE (X.blk s H scope (compEnvC scope cl c X.env) fp) elt (LE C E0 f)) (hs : ∀ x, foldedSetIterable e X.env x = pure x) :
    PS X (.Assign [.Name y py] (.ListComp elt [⟨tg, e, ifs, 0⟩] scope pos) spos) (LS C E (svAsg (evComp w t (own.map (·.2)) cond f) (.nm i))) := by
  refine PSimp (ps_setLc hc hN hy hyl hsw hi ok hg hq he hs) fun D σ H q => ?_
  have q2 := asg_m q
  obtain ⟨σd, S, fa, rs, r, q2⟩ := q2
  refine comp_m ht (Q := fun x H1 => gName i x σ H1 D.nx) ⟨σd, S, fa, rs, r, q2.mono ?_⟩
  rintro v H' ⟨d, σd', S', fa', σ1, p, rs', r', e1, q⟩
  cases e1
  exact q _ (rs'.set p i) ⟨by simp, fun j hj => List.getElem?_set_ne (fun z => hj (by simp [Tg.slots, z]))⟩
theorem lts_nil : PTs X [] (LT C E fun _ S => .ok true S) := ⟨fun pins s σ H Q I h => (pts_nil (X := X)).run pins s σ H Q I (by
  obtain ⟨σd, S, fa, rs, r, q⟩ := h
  exact lk_ok (P := PB) q (.refl _ _) r rfl)⟩
theorem lts_one {f : DB} (h : PT X c (LT C E f)) : PTs X [c] (LT C E f) := pts_one h
end
end DV

end
section
set_option Elab.async false
set_option linter.all false
set_option maxRecDepth 100000
set_option maxHeartbeats 4000000
set_option autoImplicit false
/-! The deep layer, part R: enumerate and zip over lists and tuples, in any mix. -/
namespace DV
open PySem PySem.Spec PyProof.Rows L2
/-- a list (false) or a tuple (true) -/
def SqX (t : Bool) (K : PySem.W.Frag) (H : Hp) (a : Addr) (xs : List V) : Prop := match t with
  | false => SqL K H a xs
  | true => SqT K H a xs
def SeqIs (t : Bool) (h : Heap) (a : Addr) (its : Array Value) : Prop := match t with
  | false => h.IsList a its
  | true => h.IsTuple a its
def IterAt (t : Bool) (h : Heap) (it a : Addr) (i : Nat) : Prop := match t with
  | false => h.IsListIter it a i
  | true => h.IsTupleIter it a i
section
variable {X : Cx} {pins : List (Addr × Obj)} {σ : L2.St} {H : Hp} {s : Shared} {a : Addr} {xs ys : List V} {t : Bool}
theorem sqx (I : Inv X pins σ H s) (h : SqX t X.K H a xs) : ∃ its : List Value, Vals xs its ∧ SeqIs t s.heap a its.toArray := by
  cases t with
  | false =>
    obtain ⟨its, r, p, _⟩ := I.list h
    exact ⟨its, r, p.isList⟩
  | true =>
    obtain ⟨its, r, p, _⟩ := I.tuple h
    exact ⟨its, r, p⟩
theorem sqx_inj (I : Inv X pins σ H s) (h : SqX t X.K H a xs) (h' : SqX t X.K H a ys) : xs = ys := by
  cases t with
  | false => exact I.list_inj h h'
  | true => exact I.tuple_inj h h'
theorem iter_obj {h : Heap} {it : Addr} {i : Nat} (x : IterAt t h it a i) : ∃ o, h.get? it = some o ∧ ∀ v, o.data ≠ .cell v := by
  cases t with
  | false =>
    obtain ⟨o, e, _, d⟩ := x
    exact ⟨o, e, fun v q => by rw [d] at q; cases q⟩
  | true =>
    obtain ⟨o, e, _, d⟩ := x
    exact ⟨o, e, fun v q => by rw [d] at q; cases q⟩
theorem iter_at {h h' : Heap} {it : Addr} {i : Nat} (x : IterAt t h it a i) (k : ∀ o, h.get? it = some o → h'.get? it = some o) : IterAt t h' it a i := by
  cases t with
  | false => exact x.at k
  | true => exact x.at k
theorem iter_ne {h : Heap} {it b : Addr} {i : Nat} {its : Array Value} {u : Bool} (x : IterAt t h it a i) (y : SeqIs u h b its) : b ≠ it := by
  intro z
  subst z
  cases t <;> cases u
  · obtain ⟨o, e, c, _⟩ := x
    obtain ⟨o', e', c', _⟩ := y
    rw [e] at e'
    cases e'
    rw [c] at c'
    simp at c'
  · obtain ⟨o, e, c, _⟩ := x
    obtain ⟨o', e', c', _⟩ := y
    rw [e] at e'
    cases e'
    rw [c] at c'
    simp at c'
  · obtain ⟨o, e, c, _⟩ := x
    obtain ⟨o', e', c', _⟩ := y
    rw [e] at e'
    cases e'
    rw [c] at c'
    simp at c'
  · obtain ⟨o, e, c, _⟩ := x
    obtain ⟨o', e', c', _⟩ := y
    rw [e] at e'
    cases e'
    rw [c] at c'
    simp at c'
theorem seq_lt {h : Heap} {its : Array Value} (y : SeqIs t h a its) : a < h.objs.size := by
  cases t with
  | false =>
    obtain ⟨o, e, _⟩ := y
    exact Heap.lt_size e
  | true =>
    obtain ⟨o, e, _⟩ := y
    exact Heap.lt_size e
theorem seq_not {h : Heap} {its : Array Value} {b : Addr} {n : String} {vs : Array Value} (y : SeqIs t h a its) (e : h.get? b = some { cls := .type n, data := .fields vs }) : a ≠ b := by
  intro z
  subst z
  cases t with
  | false =>
    obtain ⟨o, e', _, m, d⟩ := y
    rw [e] at e'
    cases e'
    cases d
  | true =>
    obtain ⟨o, e', _, m, d⟩ := y
    rw [e] at e'
    cases e'
    cases d
theorem draws {prog : Program} {w : World} {A : Around} (hh : A.handled = none) (t : Bool) (it a : Addr) (hne : a ≠ it) (items : Array Value) :
    Draws prog w A it [it, a] items.size (fun i v => items[i]? = some v) (fun i h => IterAt t h it a i ∧ SeqIs t h a items) := by
  cases t with
  | false => exact Draws.list hh it a hne items
  | true => exact Draws.tuple hh it a hne items
theorem begins (t : Bool) (a : Addr) (items : Array Value) : ∃ o, Begins (.ref a) o (fun h => SeqIs t h a items) ∧ ∀ (h : Heap) (it : Addr), h.get? it = some o → IterAt t h it a 0 := by
  cases t with
  | false => exact ⟨_, begins_list a items, fun h it e => ⟨_, e, rfl, rfl⟩⟩
  | true => exact ⟨_, begins_tuple a items, fun h it e => ⟨_, e, rfl, rfl⟩⟩
end
/-! ### enumerate -/
theorem meets_enum {v : Value} {o : Obj} {H1 : Heap → Prop} (B1 : Begins v o H1) :
    Meets (Builtin.«enumerate.__new__» ⟨[.type "enumerate", v], []⟩) (fun _ R s => H1 s.heap ∧
      R (.ok (.ret (.ref (s.heap.push o).objs.size))) { s with heap := (s.heap.push o).push { cls := .type "enumerate", data := .fields #[.none, .bool false, .ref s.heap.objs.size, rawInt 0, .none, .none] } }) :=
  .of_wp fun prog w A R s h => by
    obtain ⟨hp, g, d, tk, os⟩ := s; obtain ⟨h1, h⟩ := h
    have hsub := sub_enumerate
    have q1 : ∀ {A' : Around} {E : Value → Shared → Prop} {Q : Value → Shared → Prop}, Q (.ref hp.objs.size) ⟨(hp.push o), g, d, tk, os⟩ → wpAny (model prog w) A' (pyIter v) Q E ⟨hp, g, d, tk, os⟩ :=
      fun q => B1.iter prog w _ _ ⟨hp, g, d, tk, os⟩ _ (B1.keeps _ _ h1 fun b o' e => e) q
    wp_walk using q1
    refine wpAny_stack_any fun st => wpAny_pure ?_
    split
    · rename_i c _ _ _ _ _
      cases (c == Value.type "enumerate")
      · wp_walk using q1
        exact ⟨_, rfl, h⟩
      · wp_walk using q1
        exact ⟨_, rfl, h⟩
    · wp_walk using q1
      exact ⟨_, rfl, h⟩
theorem call_enum {prog : Program} {w : World} {A : Around} {E : Value → Shared → Prop} {s : Shared} {v : Value} {o : Obj} {H1 : Heap → Prop} {Q : Value → Shared → Prop} (B : Begins v o H1) (h1 : H1 s.heap)
    (h : ∀ h', IsEnum h' (s.heap.objs.size + 1) s.heap.objs.size 0 .none → h'.get? s.heap.objs.size = some o → h'.objs.size = s.heap.objs.size + 2 →
      (∀ b o, s.heap.get? b = some o → h'.get? b = some o) → Q (.ref (s.heap.objs.size + 1)) { s with heap := h' }) :
    wpAny (model prog w) A (call (.type "enumerate") [v]) Q E s := by
  refine callType_new F.called_enumerate (by decide) (F.typeCall_enumerate_1 _) (F.newCall_enumerate_1 _) (fun obj => F.args_object_init_2 obj _) F.entry_enumerate_new
    (meets_enum B) ⟨h1, ?_⟩
  have hz : (s.heap.push o).objs.size = s.heap.objs.size + 1 := Heap.size_push ..
  show _ ∧ _
  rw [hz]
  have he : IsEnum ((s.heap.push o).push { cls := .type "enumerate", data := .fields #[.none, .bool false, .ref s.heap.objs.size, rawInt 0, .none, .none] }) (s.heap.objs.size + 1) s.heap.objs.size 0 .none := by
    have := Heap.get?_push_size (s.heap.push o) (o := { cls := .type "enumerate", data := .fields #[.none, .bool false, .ref s.heap.objs.size, rawInt 0, .none, .none] }) rfl
    rw [hz] at this
    exact this
  exact ⟨⟨_, he, rfl⟩, h _ he (Heap.get?_push_of_some _ (Heap.get?_push_size _ B.free)) (by rw [Heap.size_push, hz]) fun b o x => Heap.get?_push_of_some _ (Heap.get?_push_of_some _ x)⟩
def ItE (t : Bool) (K : PySem.W.Frag) (a : Addr) : It :=
  ⟨fun i H => ∃ (xs : List V) (x : V), SqX t K H a xs ∧ xs[i]? = some x, fun i H v H' => ∃ T x, v = .ref T ∧ H T = none ∧ H' = upd H T (.tup [.int (i : Nat), x]) ∧ ∀ xs, SqX t K H a xs → xs[i]? = some x, fun i H => ∃ xs : List V, SqX t K H a xs ∧ xs.length = i⟩
theorem turn_E {P : Program} {w : World} {K : PySem.W.Frag} {elts : List Expr} {kk : Nat} {tpos : Pos} (t : Bool) (a e it : Addr) :
    Turn P w K (.Tuple elts kk tpos) (ItE t K a) [e, it] e (fun i h => (∃ old, IsEnum h e it ((i : Nat) : Int) old) ∧ IterAt t h it a i ∧ e ≠ it) where
  mem := by simp
  obj := fun i h st b hb => by
    obtain ⟨⟨old, he⟩, hi, _⟩ := st
    have e' : b = e ∨ b = it := by simpa using hb
    rcases e' with z | z
    · rw [z]; exact ⟨_, he, fun v q => nomatch q⟩
    · rw [z]; exact iter_obj hi
  keep := fun i h h' st k => let ⟨⟨old, he⟩, hi, hne⟩ := st; ⟨⟨old, k e (by simp) _ he⟩, iter_at hi fun o q => k it (by simp) o q, hne⟩
  item := by
    intro X hP hw hK hc i pins s σ H E I hf st hg
    subst hP hw hK
    obtain ⟨⟨old, he⟩, hit, hne⟩ := st
    obtain ⟨xs, x, hq, hx⟩ := hg
    obtain ⟨its, rv, p⟩ := sqx I hq
    obtain ⟨u, hu, ru⟩ := rv.get hx
    have hel : e < s.heap.objs.size := Heap.lt_size he
    have hil : it < s.heap.objs.size := by obtain ⟨_, q, _⟩ := iter_obj hit; exact Heap.lt_size q
    have hlt : i < its.toArray.size := by
      have := (List.getElem?_eq_some_iff.mp hu).1
      simpa using this
    have hna : a ≠ it := iter_ne hit p
    have hae : a ≠ e := seq_not p he
    have hh : (X.A.in1).handled = none := I.ok.hd hc
    refine wpAny_pyNext_enum_itemD (draws hh t it a hna its.toArray) he ⟨hit, p⟩ hlt hne (by simp [hne, Ne.symm hae]) fun x' h' tk hP' ho hit' hT hsz hk => ?_
    have ex : x' = u := by
      have : its.toArray[i]? = some u := by simpa using hu
      rw [this] at hP'
      exact (Option.some.inj hP').symm
    subst ex
    refine ⟨_, rfl, wpAny_letOwnedTupleGo_enum (s := { s with heap := h', toks := tk + 1 }) ho fun h'' he' sb => ?_⟩
    have hT2 : h''.get? s.heap.objs.size = some { cls := .type "tuple", data := .seq #[.int i tk, x'] } := (sb.2 _ (Nat.ne_of_gt hel)).trans hT
    have new : ObjOk X.prog X.w (upd H s.heap.objs.size (.tup [.int (i : Nat), x])) h'' s.heap.objs.size (.tup [.int (i : Nat), x]) :=
      ⟨by show 2 ≤ sizeLine; decide, [.int i tk, x'], .cons ⟨_, rfl⟩ (.cons ru .nil), ⟨_, hT2, rfl, _, rfl⟩⟩
    have I1 : Inv X pins σ (upd H s.heap.objs.size (.tup [.int (i : Nat), x])) { s with heap := h'', toks := tk + 1 } :=
      I.turnedNew (ch := [e, it]) (fun b ob hb q => (sb.2 b (fun z => hb (by simp [z]))).trans (hk b ob (fun z => hb (by simp [z])) (fun z => hb (by simp [z])) q)) hf (Nat.le_refl _) new
    refine ⟨.ref s.heap.objs.size, _, I1, rfl, ⟨_, x, rfl, I.hok.fresh (Nat.le_refl _), rfl, fun ys hy => by rw [sqx_inj I hy hq]; exact hx⟩, ⟨⟨x', ?_⟩, iter_at hit'.1 fun o q => (sb.2 it (Ne.symm hne)).trans q, hne⟩, fun b hb => ?_⟩
    · have e1 : ((i + 1 : Nat) : Int) = (i : Int) + 1 := by omega
      rw [e1]; exact he'
    · have hb' : b < s.heap.objs.size := by
        have e' : b = e ∨ b = it := by simpa using hb
        rcases e' with z | z
        · rw [z]; exact hel
        · rw [z]; exact hil
      rw [upd_ne (Nat.ne_of_lt hb')]
      exact (hf b hb).1
  done := by
    intro X hP hw hK hc i pins s σ H E I hf st hg
    subst hP hw hK
    obtain ⟨⟨old, he⟩, hit, hne⟩ := st
    obtain ⟨xs, hq, hx⟩ := hg
    obtain ⟨its, rv, p⟩ := sqx I hq
    obtain ⟨f0, f1, f2, f3, f4, f5⟩ := hf it (by simp)
    have hl := rv.length
    have hna : a ≠ it := iter_ne hit p
    have hh : (X.A.in1).handled = none := I.ok.hd hc
    have hn : i = its.toArray.size := by rw [List.size_toArray, ← hl, hx]
    subst hn
    exact wpAny_pyNext_enum_endD (draws hh t it a hna its.toArray) he ⟨hit, p⟩ fun h' eb => ⟨rfl, I.turned (t' := s.toks) (fun b o hb q => eb b o hb q) f0 f1 f3 f4 f5⟩
  self := fun A i s Q E st h => let ⟨⟨_, he⟩, _⟩ := st; wpAny_pyIter_enum he h
def iE (K : PySem.W.Frag) (te : TE) : TI := fun σ H R => te σ H fun x H1 => ∃ a xs t, x = .ref a ∧ SqX t K H1 a xs ∧ R (ItE t K a) H1
theorem hw_enum {X : Cx} {te : TE} {σ : L2.St} {H : Hp} {R : It → Hp → Prop} (h : iE X.K te σ H R) : tCons te tNil σ H (fun vs H1 => ∃ a xs t, vs = [V.ref a] ∧ SqX t X.K H1 a xs ∧ R (ItE t X.K a) H1) := by
  have e : (fun (x : V) (H1 : Hp) => ∃ a xs t, [x] = [V.ref a] ∧ SqX t X.K H1 a xs ∧ R (ItE t X.K a) H1) = fun x H1 => ∃ a xs t, x = .ref a ∧ SqX t X.K H1 a xs ∧ R (ItE t X.K a) H1 := by
    funext x H1
    simp only [List.cons.injEq, and_true]
  show te σ H (fun x H1 => ∃ a xs t, [x] = [V.ref a] ∧ SqX t X.K H1 a xs ∧ R (ItE t X.K a) H1)
  rw [e]
  exact h
theorem pi_E {X : Cx} {e : Expr} {te : TE} {p pos tpos : Pos} {elts : List Expr} {kk : Nat} (hg : Gl X "enumerate") (hm : X.mg "enumerate" = none) (he : PE X e te) (hs : starEach [e] X.env = [(false, eval e X.env)]) :
    PI X (.Tuple elts kk tpos) (.Call (.Name "enumerate" p) [e] [] pos) (iE X.K te) := by
  refine ⟨fun pins s σ H R I h => ?_⟩
  refine Call_ (ld_blt I hg hm boot_enumerate (PyProof.Rows.callWith_type1 (thn ((pa_cons he pa_nil hs).run pos pins s σ H _ I (hw_enum h)) fun us s1 ⟨vs, H1, I1, r1, q1⟩ => ?_) hs rfl))
  obtain ⟨a, xs, t, ex, hq, q⟩ := q1
  subst ex
  cases r1 with
  | cons r rr =>
    cases rr
    cases r
    obtain ⟨its, rv, p'⟩ := sqx I1 hq
    obtain ⟨o, B, hB⟩ := begins t a its.toArray
    refine call_enum B p' fun h' he hit hsz hk => wpAny_pyIter_enum he ?_
    have I2 : Inv X pins σ H1 { s1 with heap := h' } := I1.kept (t' := s1.toks) hk
    refine ⟨s1.heap.objs.size + 1, [s1.heap.objs.size + 1, s1.heap.objs.size], _, _, H1, rfl, I2, turn_E t a (s1.heap.objs.size + 1) s1.heap.objs.size, ⟨⟨.none, he⟩, hB _ _ hit, Nat.succ_ne_self _⟩, fun b hb => ?_, q⟩
    have e' : b = s1.heap.objs.size + 1 ∨ b = s1.heap.objs.size := by simpa using hb
    have hle : s1.heap.objs.size ≤ b := by
      rcases e' with z | z
      · rw [z]; exact Nat.le_add_right _ _
      · rw [z]; exact Nat.le_refl _
    exact I1.fpOk hle (I1.hok.fresh hle)
/-! ### zip -/
def ItZ (t u : Bool) (K : PySem.W.Frag) (a b : Addr) : It :=
  ⟨fun i H => ∃ (xs ys : List V) (x y : V), SqX t K H a xs ∧ SqX u K H b ys ∧ xs[i]? = some x ∧ ys[i]? = some y,
    fun i H v H' => ∃ T x y, v = .ref T ∧ H T = none ∧ H' = upd H T (.tup [x, y]) ∧ (∀ xs, SqX t K H a xs → xs[i]? = some x) ∧ ∀ ys, SqX u K H b ys → ys[i]? = some y,
    fun i H => ∃ xs ys : List V, SqX t K H a xs ∧ SqX u K H b ys ∧ i ≤ xs.length ∧ i ≤ ys.length ∧ (i = xs.length ∨ i = ys.length)⟩
theorem turn_Z {P : Program} {w : World} {K : PySem.W.Frag} {elts : List Expr} {kk : Nat} {tpos : Pos} (t u : Bool) {a b z TI TO i1 i2 : Addr} (D : ZipSep2 z TI TO i1 i2 [i1, a] [i2, b]) :
    Turn P w K (.Tuple elts kk tpos) (ItZ t u K a b) [z, TI, TO, i1, i2] z (fun i h => IsZip h z TI TO .none ∧ IsTupOf2 h TI (.ref i1) (.ref i2) ∧ (∃ x y, IsTupOf2 h TO x y) ∧ IterAt t h i1 a i ∧ IterAt u h i2 b i) where
  mem := by simp
  obj := fun i h st c hc => by
    obtain ⟨hz, hTI, ⟨x, y, hTO⟩, h1, h2⟩ := st
    have e' : c = z ∨ c = TI ∨ c = TO ∨ c = i1 ∨ c = i2 := by simpa using hc
    rcases e' with q | q | q | q | q
    · rw [q]; exact ⟨_, hz, fun v q => nomatch q⟩
    · rw [q]; exact ⟨_, hTI, fun v q => nomatch q⟩
    · rw [q]; exact ⟨_, hTO, fun v q => nomatch q⟩
    · rw [q]; exact iter_obj h1
    · rw [q]; exact iter_obj h2
  keep := fun i h h' st k => by
    obtain ⟨hz, hTI, ⟨x, y, hTO⟩, h1, h2⟩ := st
    exact ⟨k z (by simp) _ hz, k TI (by simp) _ hTI, ⟨x, y, k TO (by simp) _ hTO⟩, iter_at h1 fun o q => k i1 (by simp) o q, iter_at h2 fun o q => k i2 (by simp) o q⟩
  item := by
    intro X hP hw hK hc i pins s σ H E I hf st hg
    subst hP hw hK
    obtain ⟨hz, hTI, ⟨x0, y0, hTO⟩, h1, h2⟩ := st
    obtain ⟨xs, ys, x, y, hqx, hqy, hx, hy⟩ := hg
    obtain ⟨its, rv, p⟩ := sqx I hqx
    obtain ⟨its2, rv2, p2⟩ := sqx I hqy
    obtain ⟨u1, hu, ru⟩ := rv.get hx
    obtain ⟨u2, hu2, ru2⟩ := rv2.get hy
    have hzl : z < s.heap.objs.size := Heap.lt_size hz
    have hh : (X.A.in1).handled = none := I.ok.hd hc
    have l1 : i < its.toArray.size := by
      have := (List.getElem?_eq_some_iff.mp hu).1
      simpa using this
    have l2 : i < its2.toArray.size := by
      have := (List.getElem?_eq_some_iff.mp hu2).1
      simpa using this
    refine wpAny_pyNext_zipD2_item D (draws hh t i1 a (iter_ne h1 p) its.toArray) (draws hh u i2 b (iter_ne h2 p2) its2.toArray) hz hTI hTO ⟨h1, p⟩ ⟨h2, p2⟩ l1 l2 fun x1 x2 h' tk e1 e2 z' TO' h1' h2' hT hsz hk => ?_
    have ex1 : x1 = u1 := by
      have : its.toArray[i]? = some u1 := by simpa using hu
      rw [this] at e1
      exact (Option.some.inj e1).symm
    have ex2 : x2 = u2 := by
      have : its2.toArray[i]? = some u2 := by simpa using hu2
      rw [this] at e2
      exact (Option.some.inj e2).symm
    subst ex1 ex2
    refine ⟨_, rfl, wpAny_letOwnedTupleGo_zip (s := { s with heap := h', toks := tk }) z' fun h'' z'' sb => ?_⟩
    have hT2 : h''.get? s.heap.objs.size = some { cls := .type "tuple", data := .seq #[x1, x2] } := (sb.2 _ (Nat.ne_of_gt hzl)).trans hT
    have new : ObjOk X.prog X.w (upd H s.heap.objs.size (.tup [x, y])) h'' s.heap.objs.size (.tup [x, y]) :=
      ⟨by show 2 ≤ sizeLine; decide, [x1, x2], .cons ru (.cons ru2 .nil), ⟨_, hT2, rfl, _, rfl⟩⟩
    have I1 : Inv X pins σ (upd H s.heap.objs.size (.tup [x, y])) { s with heap := h'', toks := tk } :=
      I.turnedNew (t' := tk) (ch := [z, TI, TO, i1, i2]) (fun c o hb q => (sb.2 c (fun q' => hb (by simp [q']))).trans (hk c o (fun q' => hb (by simp [q'])) (fun q' => hb (by simp [q'])) (fun q' => hb (by simp [q'])) (fun q' => hb (by simp [q'])) q)) hf (Nat.le_refl _) new
    refine ⟨.ref s.heap.objs.size, _, I1, rfl, ⟨_, x, y, rfl, I.hok.fresh (Nat.le_refl _), rfl, fun l hl => by rw [sqx_inj I hl hqx]; exact hx, fun l hl => by rw [sqx_inj I hl hqy]; exact hy⟩, ⟨z'', ?_, ⟨x1, x2, ?_⟩, ?_, ?_⟩, fun c hcm => ?_⟩
    · have TIi2 : TI ≠ i2 := D.TIi2
      exact (sb.2 _ D.TIz).trans (hk _ _ D.TIz D.TITO D.TIi1 TIi2 hTI)
    · exact (sb.2 _ D.TOz).trans TO'
    · exact iter_at h1'.1 fun o q => (sb.2 _ (Ne.symm D.zi1)).trans q
    · exact iter_at h2'.1 fun o q => (sb.2 _ (Ne.symm D.zi2)).trans q
    · have hlt : c < s.heap.objs.size := by
        have e' : c = z ∨ c = TI ∨ c = TO ∨ c = i1 ∨ c = i2 := by simpa using hcm
        rcases e' with q | q | q | q | q
        · rw [q]; exact hzl
        · rw [q]; exact Heap.lt_size hTI
        · rw [q]; exact Heap.lt_size hTO
        · rw [q]; obtain ⟨_, e1, _⟩ := iter_obj h1; exact Heap.lt_size e1
        · rw [q]; obtain ⟨_, e2, _⟩ := iter_obj h2; exact Heap.lt_size e2
      rw [upd_ne (Nat.ne_of_lt hlt)]
      exact (hf c hcm).1
  done := by
    intro X hP hw hK hc i pins s σ H E I hf st hg
    subst hP hw hK
    obtain ⟨hz, hTI, ⟨x0, y0, hTO⟩, h1, h2⟩ := st
    obtain ⟨xs, ys, hqx, hqy, hi1, hi2, hend⟩ := hg
    obtain ⟨its, rv, p⟩ := sqx I hqx
    obtain ⟨its2, rv2, p2⟩ := sqx I hqy
    have l1 := rv.length
    have l2 := rv2.length
    have hh : (X.A.in1).handled = none := I.ok.hd hc
    exact wpAny_pyNext_zipD2_end D (draws hh t i1 a (iter_ne h1 p) its.toArray) (draws hh u i2 b (iter_ne h2 p2) its2.toArray) hz hTI hTO ⟨h1, p⟩ ⟨h2, p2⟩ (by simp; omega) (by simp; omega) (by simp; omega) fun h' tk hk =>
      ⟨rfl, I.turnedL (t' := tk) (ch := [z, TI, TO, i1, i2]) (fun c o hb q =>
        hk c o (fun q' => hb (by simp [q'])) (fun q' => hb (by simp [q'])) (fun q' => hb (by simp [q'])) (fun q' => hb (by simp [q'])) q) hf⟩
  self := fun A i s Q E st h => wpAny_pyIter_zip st.1 h
def iZ (K : PySem.W.Frag) (te tf : TE) : TI := fun σ H R => te σ H fun x H1 => tf σ H1 fun y H2 => ∃ a xs t b ys u, x = .ref a ∧ y = .ref b ∧ SqX t K H2 a xs ∧ SqX u K H2 b ys ∧ R (ItZ t u K a b) H2
theorem hw_zip {X : Cx} {te tf : TE} {σ : L2.St} {H : Hp} {R : It → Hp → Prop} (h : iZ X.K te tf σ H R) : tCons te (tCons tf tNil) σ H (fun vs H1 => ∃ a xs t b ys u, vs = [V.ref a, V.ref b] ∧ SqX t X.K H1 a xs ∧ SqX u X.K H1 b ys ∧ R (ItZ t u X.K a b) H1) := by
  have e : ∀ (x : V), (fun (y : V) (H1 : Hp) => ∃ a xs t b ys u, [x, y] = [V.ref a, V.ref b] ∧ SqX t X.K H1 a xs ∧ SqX u X.K H1 b ys ∧ R (ItZ t u X.K a b) H1) = fun y H1 => ∃ a xs t b ys u, x = .ref a ∧ y = .ref b ∧ SqX t X.K H1 a xs ∧ SqX u X.K H1 b ys ∧ R (ItZ t u X.K a b) H1 := by
    intro x
    funext y H1
    simp only [List.cons.injEq, and_true, and_assoc]
  show te σ H fun x H1 => tf σ H1 fun y H2 => ∃ a xs t b ys u, [x, y] = [V.ref a, V.ref b] ∧ SqX t X.K H2 a xs ∧ SqX u X.K H2 b ys ∧ R (ItZ t u X.K a b) H2
  have e2 : (fun x H1 => tf σ H1 fun y H2 => ∃ a xs t b ys u, [x, y] = [V.ref a, V.ref b] ∧ SqX t X.K H2 a xs ∧ SqX u X.K H2 b ys ∧ R (ItZ t u X.K a b) H2) = fun x H1 => tf σ H1 fun y H2 => ∃ a xs t b ys u, x = .ref a ∧ y = .ref b ∧ SqX t X.K H2 a xs ∧ SqX u X.K H2 b ys ∧ R (ItZ t u X.K a b) H2 := by
    funext x H1
    rw [e x]
  rw [e2]
  exact h
theorem pi_Z {X : Cx} {e e2 : Expr} {te tf : TE} {p pos tpos : Pos} {elts : List Expr} {kk : Nat} (hg : Gl X "zip") (hm : X.mg "zip" = none) (he : PE X e te) (hf : PE X e2 tf) (hs : starEach [e, e2] X.env = (false, eval e X.env) :: starEach [e2] X.env) (hs2 : starEach [e2] X.env = (false, eval e2 X.env) :: starEach [] X.env) (hpl : (backTo pos (starEach [e2] X.env)).any (·.1) = false) :
    PI X (.Tuple elts kk tpos) (.Call (.Name "zip" p) [e, e2] [] pos) (iZ X.K te tf) := by
  refine ⟨fun pins s σ H R I h => ?_⟩
  refine Call_ (ld_blt I hg hm PyProof.Rows.boot_zip (PyProof.Rows.callWith_type1 (thn ((pa_cons he (pa_cons hf pa_nil hs2) hs).run pos pins s σ H _ I (hw_zip h)) fun us s1 ⟨vs, H1, I1, r1, q1⟩ => ?_) hs hpl))
  obtain ⟨a, xs, t, b, ys, u, ex, hqx, hqy, q⟩ := q1
  subst ex
  cases r1 with
  | cons r rr =>
    cases rr with
    | cons r' rr =>
      cases rr
      cases r
      cases r'
      obtain ⟨its, rv, p1⟩ := sqx I1 hqx
      obtain ⟨its2, rv2, p2⟩ := sqx I1 hqy
      obtain ⟨o1, B1, hB1⟩ := begins t a its.toArray
      obtain ⟨o2, B2, hB2⟩ := begins u b its2.toArray
      refine zip_begins2 B1 B2 p1 p2 fun h' hz hTI hTO h1 h2 hsz hk => wpAny_pyIter_zip hz ?_
      have I2 : Inv X pins σ H1 { s1 with heap := h' } := I1.kept (t' := s1.toks) hk
      refine ⟨s1.heap.objs.size + 4, [s1.heap.objs.size + 4, s1.heap.objs.size + 2, s1.heap.objs.size + 3, s1.heap.objs.size, s1.heap.objs.size + 1], _, _, H1, rfl, I2,
        turn_Z t u (zip_sep2 (fp1 := [a]) (fp2 := [b]) (fun c hc => by rw [List.mem_singleton.mp hc]; exact seq_lt p1) (fun c hc => by rw [List.mem_singleton.mp hc]; exact seq_lt p2)), ⟨hz, hTI, ⟨_, _, hTO⟩, hB1 _ _ h1, hB2 _ _ h2⟩, fun c hcm => ?_, q⟩
      have e' : c = s1.heap.objs.size + 4 ∨ c = s1.heap.objs.size + 2 ∨ c = s1.heap.objs.size + 3 ∨ c = s1.heap.objs.size ∨ c = s1.heap.objs.size + 1 := by simpa using hcm
      have hle : s1.heap.objs.size ≤ c := by
        rcases e' with z | z | z | z | z
        · rw [z]; exact Nat.le_add_right _ _
        · rw [z]; exact Nat.le_add_right _ _
        · rw [z]; exact Nat.le_add_right _ _
        · rw [z]; exact Nat.le_refl _
        · rw [z]; exact Nat.le_add_right _ _
      exact I1.fpOk hle (I1.hok.fresh hle)
/-! ### over the data -/
section
variable {X : Cx} {C : Ctx} {E : XK} {e e2 : Expr}
/-- what a walked value stays, as long as its lock holds -/
def Src (C : Ctx) (H0 : Hp) (fa0 : List Addr) (w : Walk) (t : Bool) (a : Addr) : Prop := ∀ (fa : List Addr) (H : Hp) (S : Sto), Later fa0 H0 fa H → RS C H fa S → Locked S w.lock → ∃ vs, SqX t C.K H a vs ∧ Rels C H fa w.items vs
theorem src_of {H : Hp} {fa : List Addr} {S S' : Sto} {d : D} {v : V} {w : Walk} (r : RS C H fa S) (p : Rel C H fa d v) (h : walkD d S = .ok w S') : S' = S ∧ ∃ a t, v = .ref a ∧ Src C H fa w t a ∧ Locked S w.lock := by
  cases d with
  | tup xs =>
    cases h
    cases p with
    | @tup _ a vs p ps => exact ⟨rfl, a, true, rfl, fun fa' H' S' l r' _ => ⟨vs, SqT.later r l p, Rels.later r l ps⟩, fun q hq => by cases hq⟩
  | lstc xs =>
    cases h
    obtain ⟨a, vs, rfl, h1, h2⟩ := r.lstc p
    refine ⟨rfl, a, false, rfl, fun fa' H' S' l r' _ => ?_, fun q hq => by cases hq⟩
    obtain ⟨a', vs', e, h3, h4⟩ := r'.lstc (Rel.later r l p)
    cases e
    exact ⟨vs', h3, h4⟩
  | ref n =>
    simp only [walkD] at h
    split at h
    · rename_i xs e1
      cases h
      obtain ⟨a, vs, rfl, ha, h1, h2⟩ := r.ref p e1
      refine ⟨rfl, a, false, rfl, fun fa' H' S' l r' k => ?_, fun q hq => by
        rw [List.mem_singleton.mp hq]
        exact e1⟩
      obtain ⟨vs', h3, h4⟩ := r'.at_ n a _ (l.at_ ha) (k (n, xs) (by simp))
      exact ⟨vs', .inl (.inl h3), h4⟩
    · cases h
  | _ => cases h
theorem walkD_noexc {d : D} {S S' : Sto} {x : Str} {p : Option (Str × D)} : walkD d S ≠ .exc x p S' := by
  unfold walkD
  split
  · exact fun z => nomatch z
  · exact fun z => nomatch z
  · split
    · exact fun z => nomatch z
    · exact fun z => nomatch z
  · exact fun z => nomatch z
def enumW (w : Walk) : Walk := ⟨w.items.zipIdx.map fun p => D.tup [.int (p.2 : Nat), p.1], w.lock⟩
theorem jok_E {H : Hp} {fa : List Addr} {w : Walk} {t : Bool} {a : Addr} (h : Src C H fa w t a) : JOk C H fa (enumW w) (ItE t C.K a) := by
  intro fa' H' S' l r k
  obtain ⟨vs, h1, h2⟩ := h fa' H' S' l r k
  refine ⟨⟨vs, h1, by simp [enumW, h2.length]⟩, fun i d hi => ?_⟩
  have hi2 : ∃ x, w.items[i]? = some x ∧ d = D.tup [.int (i : Nat), x] := by
    simp only [enumW, List.getElem?_map, List.getElem?_zipIdx, Option.map_eq_some_iff] at hi
    obtain ⟨q, ⟨x, hx, rfl⟩, rfl⟩ := hi
    exact ⟨x, hx, by simp⟩
  obtain ⟨x, hx, rfl⟩ := hi2
  obtain ⟨v, hv, rv⟩ := h2.get hx
  refine ⟨⟨vs, v, h1, hv⟩, fun y H'' hy => ?_⟩
  obtain ⟨T, v', rfl, hT, rfl, hf⟩ := hy
  have e := hf vs h1
  rw [hv] at e
  cases e
  obtain ⟨l2, r2⟩ := r.newT hT [.int (i : Nat), v]
  exact ⟨l2, r2, .tup (.inl (.inl upd_same)) (.cons (.int _) (.cons (Rel.later r l2 rv) .nil))⟩
def zipW (w v : Walk) : Walk := ⟨(w.items.zip v.items).map fun p => D.tup [p.1, p.2], w.lock ++ v.lock⟩
theorem jok_Z {H : Hp} {fa : List Addr} {w v : Walk} {t u : Bool} {a b : Addr} (h : Src C H fa w t a) (h' : Src C H fa v u b) : JOk C H fa (zipW w v) (ItZ t u C.K a b) := by
  intro fa' H' S' l r k
  obtain ⟨vs, h1, h2⟩ := h fa' H' S' l r fun p hp => k p (List.mem_append_left _ hp)
  obtain ⟨us, h3, h4⟩ := h' fa' H' S' l r fun p hp => k p (List.mem_append_right _ hp)
  refine ⟨⟨vs, us, h1, h3, ?_, ?_, ?_⟩, fun i d hi => ?_⟩
  · simp [zipW, ← h2.length]; omega
  · simp [zipW, ← h4.length]; omega
  · simp [zipW, ← h2.length, ← h4.length]; omega
  have hi2 : ∃ x y, w.items[i]? = some x ∧ v.items[i]? = some y ∧ d = D.tup [x, y] := by
    simp only [zipW, List.getElem?_map, Option.map_eq_some_iff] at hi
    obtain ⟨q, hq, rfl⟩ := hi
    obtain ⟨q1, q2⟩ := q
    rw [List.getElem?_zip_eq_some] at hq
    exact ⟨q1, q2, hq.1, hq.2, rfl⟩
  obtain ⟨x, y, hx, hy, rfl⟩ := hi2
  obtain ⟨v1, hv1, rv1⟩ := h2.get hx
  obtain ⟨v2, hv2, rv2⟩ := h4.get hy
  refine ⟨⟨vs, us, v1, v2, h1, h3, hv1, hv2⟩, fun z H'' hz => ?_⟩
  obtain ⟨T, v1', v2', rfl, hT, rfl, hf, hf2⟩ := hz
  have e := hf vs h1
  rw [hv1] at e
  cases e
  have e := hf2 us h3
  rw [hv2] at e
  cases e
  obtain ⟨l2, r2⟩ := r.newT hT [v1, v2]
  exact ⟨l2, r2, .tup (.inl (.inl upd_same)) (.cons (Rel.later r l2 rv1) (.cons (Rel.later r l2 rv2) .nil))⟩
def enumD (d : D) (S : Sto) : Res Walk := (walkD d S).bind fun w S1 => .ok (enumW w) S1
def zipD (d e : D) (S : Sto) : Res Walk := (walkD d S).bind fun w S1 => (walkD e S1).bind fun v S2 => .ok (zipW w v) S2
theorem li_enum {f : DE} {elts : List Expr} {kk : Nat} {p pos tpos : Pos} (hk : C.K = X.K) (hg : Gl X "enumerate") (hm : X.mg "enumerate" = none) (he : PE X e (LE C E f)) (hs : starEach [e] X.env = [(false, eval e X.env)]) :
    PI X (.Tuple elts kk tpos) (.Call (.Name "enumerate" p) [e] [] pos) (LI C E fun σ S => (f σ S).bind enumD) := by
  refine PIimp (pi_E hg hm he hs) fun σ H R q => ?_
  obtain ⟨σd, S, fa, rs, r, q⟩ := q
  refine ⟨σd, S, fa, rs, r, (LKg.bind (P2 := PD C) q).mono ?_⟩
  rintro x H1 ⟨fa1, S1, d, l1, r1, p1, q1⟩
  unfold enumD at q1
  cases e1 : walkD d S1 with
  | bad => rw [e1] at q1; exact q1.elim
  | exc x p S => exact absurd e1 walkD_noexc
  | ok w S2 =>
    rw [e1] at q1
    obtain ⟨rfl, a, t, rfl, hs, hl⟩ := src_of r1 p1 e1
    obtain ⟨vs, h1, h2⟩ := hs fa1 H1 S2 (.refl _ _) r1 hl
    rw [hk] at h1
    refine ⟨a, vs, t, rfl, h1, ?_⟩
    rw [← hk]
    exact lk_ok (P := JOk C) q1 (.refl _ _) r1 (jok_E hs)
theorem li_zip {f g : DE} {elts : List Expr} {kk : Nat} {p pos tpos : Pos} (hk : C.K = X.K) (hg : Gl X "zip") (hm : X.mg "zip" = none) (he : PE X e (LE C E f)) (hf : PE X e2 (LE C E g)) (hs : starEach [e, e2] X.env = (false, eval e X.env) :: starEach [e2] X.env) (hs2 : starEach [e2] X.env = (false, eval e2 X.env) :: starEach [] X.env) (hpl : (backTo pos (starEach [e2] X.env)).any (·.1) = false) :
    PI X (.Tuple elts kk tpos) (.Call (.Name "zip" p) [e, e2] [] pos) (LI C E fun σ S => (f σ S).bind fun d S1 => (g σ S1).bind fun e S2 => zipD d e S2) := by
  refine PIimp (pi_Z hg hm he hf hs hs2 hpl) fun σ H R q => ?_
  obtain ⟨σd, S, fa, rs, r, q⟩ := q
  refine ⟨σd, S, fa, rs, r, (LKg.bind (P2 := PD C) q).mono ?_⟩
  rintro x H1 ⟨fa1, S1, d, l1, r1, p1, q1⟩
  refine ⟨σd, S1, fa1, rs.later r l1, r1, (LKg.bind (P2 := PD C) q1).mono ?_⟩
  rintro y H2 ⟨fa2, S2, d2, l2, r2, p2, q2⟩
  unfold zipD at q2
  cases e1 : walkD d S2 with
  | bad => rw [e1] at q2; exact q2.elim
  | exc x p S => exact absurd e1 walkD_noexc
  | ok w S3 =>
    rw [e1] at q2
    dsimp only [Res.bind] at q2
    obtain ⟨rfl, a, t, rfl, hs, hl⟩ := src_of r2 (Rel.later r1 l2 p1) e1
    cases e3 : walkD d2 S3 with
    | bad => rw [e3] at q2; exact q2.elim
    | exc x p S => exact absurd e3 walkD_noexc
    | ok v S4 =>
      rw [e3] at q2
      obtain ⟨rfl, b, u, rfl, hs', hl'⟩ := src_of r2 p2 e3
      obtain ⟨vs, h1, h2⟩ := hs fa2 H2 S4 (.refl _ _) r2 hl
      obtain ⟨us, h3, h4⟩ := hs' fa2 H2 S4 (.refl _ _) r2 hl'
      rw [hk] at h1 h3
      refine ⟨a, vs, t, b, us, u, rfl, rfl, h1, h3, ?_⟩
      rw [← hk]
      exact lk_ok (P := JOk C) q2 (.refl _ _) r2 (jok_Z hs hs')
end
end DV

end
section
set_option Elab.async false
set_option linter.all false
set_option maxRecDepth 100000
set_option maxHeartbeats 4000000
set_option autoImplicit false
/-! The deep layer, part J: raise; enumerate and zip over lists and tuples. -/
namespace DV
open PySem PySem.Spec PyProof.Rows L2
section
variable {X : Cx} {C : Ctx} {E : XK} {a b c e o tg : Expr} {pos : Pos}
/-- what the head tells of an own exception class without an own __init__ -/
structure ExcF (X : Cx) (x : Str) : Prop where
  gP : X.mg x = some (.ref (He.ga X.K x))
  xP : PySem.W.excIn X.K (He.ga X.K x) He.veBase "ValueError.__new__" = true
  kP : PySem.W.keepIn X.K (.ref (He.ga X.K x)) = true
  bP : PySem.W.subIn X.K (.ref (He.ga X.K x)) (.type "BaseException") = some true
  tP : PySem.W.typeIn X.K (.ref (He.ga X.K x)) = some (.type "type")
def svRaise (x : Str) : DS := fun _ S => .exc x none S
theorem ls_raise {x m : Str} {j : Nat} {p p2 p3 : Pos} (hk : C.K = X.K) (hc : X.calm = true) (tk : L2N.Takes X fun cls d _ H => E cls d H) (F : ExcF X x) (hg : Gl X x) (hd : (x == ("__debug__" : Str)) = false) :
    PS X (.Raise (some (.Call (.Name x p) [.Constant (.str m) j p2] [] p3)) none pos) (LS C E (svRaise x)) := by
  refine PSimp (L2N.ps_raise hc tk (L2N.pmk_own PySem.F.excBase_ValueError F.xP F.gP F.kP (raises_own F.bP F.tP) hg hd)) fun D σ H q => ?_
  obtain ⟨σd, S, fa, rs, r, q⟩ := q
  exact q fa H _ _ (.refl _ _) r ⟨by rw [hk], rfl⟩
end
end DV

end
section
set_option Elab.async false
set_option linter.all false
set_option maxRecDepth 100000
set_option maxHeartbeats 4000000
set_option autoImplicit false
/-! The deep layer, part U: where an exception is handled: the end of a list's iterator, of a tuple's; zip; a comprehension over zip. -/
namespace DV
open PySem PySem.Spec PyProof.Rows L2 HotX
section
variable {prog : Program} {w : World} {A : Around} {E : Value → Shared → Prop} {s : Shared}
theorem HotAt.ne {x1 b : Addr} {h : Heap} {o : Obj} {vs : Array Value} (hot : HotAt A x1 h) (e : h.get? b = some o) (d : o.data = .fields vs) (n : vs[2]? ≠ some .none) : x1 ≠ b := by
  obtain ⟨_, o1, vs1, h1, d1, c1⟩ := hot
  intro z
  subst z
  rw [h1] at e
  cases e
  rw [d1] at d
  cases d
  exact n c1
theorem HotAt.neS {x1 b : Addr} {h : Heap} {o : Obj} {vs : Array Value} {m : Nat} (hot : HotAt A x1 h) (e : h.get? b = some o) (d : o.data = .seq vs m) : x1 ≠ b := by
  obtain ⟨_, o1, vs1, h1, d1, c1⟩ := hot
  intro z
  subst z
  rw [h1] at e
  cases e
  rw [d1] at d
  cases d
theorem HotAt.at {x1 : Addr} {h h' : Heap} (hot : HotAt A x1 h) (k : ∀ o, h.get? x1 = some o → h'.get? x1 = some o) : HotAt A x1 h' := by
  obtain ⟨hh, o1, vs1, h1, d1, c1⟩ := hot
  exact ⟨hh, o1, vs1, k _ h1, d1, c1⟩
/-- StopIteration is made and raised -/
theorem stop_hot {α : Type} {x1 : Addr} {Q : α → Shared → Prop} (hot : HotAt A x1 s.heap)
    (hE : ∀ h' e, (∀ b o, s.heap.get? b = some o → h'.get? b = some o) → (∃ o, h'.get? e = some o ∧ o.cls = .type "StopIteration") → E (.ref e) { s with heap := h' }) :
    wpAny (model prog w) A (newExc (.type "StopIteration") [] >>= fun e => (raiseNew e : Sem α)) Q E s := by
  obtain ⟨hh, o1, vs1, h1, d1, c1⟩ := hot
  refine wpAny_bind ?_
  simp only [newExc, newTuple]
  refine wpAny_bind (wpAny_newObj_type ?_ (by size_fits))
  refine wpAny_bind (m := firstArgMember _ _) (wpAny_of_eq (a := Value.none) (by first | rfl | (simp only [firstArgMember]; rfl)) ?_)
  refine wpAny_newObj_type ?_ (by size_fits)
  refine raiseNew_hot ⟨hh, o1, vs1, Heap.get?_push_of_some _ (Heap.get?_push_of_some _ h1), d1, c1⟩ (Nat.ne_of_lt (Heap.lt_size (Heap.get?_push_of_some _ h1))) (Heap.get?_push_size _ rfl) rfl (by first | (simp; done) | (simp; omega) | (simp only [Array.size_append]; simp; omega)) ?_
  refine hE _ _ (fun b o e => ?_) ⟨_, Heap.get?_update_self _ (Heap.get?_push_size _ rfl) rfl, rfl⟩
  rw [Heap.get?_update_other _ _ (Nat.ne_of_gt (Heap.lt_size (Heap.get?_push_of_some _ e)))]
  exact Heap.get?_push_of_some _ (Heap.get?_push_of_some _ e)
theorem nextOf_list_end_hot {x1 it l : Addr} {i : Nat} {items : Array Value} {Q : Value → Shared → Prop} (hot : HotAt A x1 s.heap) (hit : s.heap.IsListIter it l i) (hl : s.heap.IsList l items) (hx : items[i]? = none)
    (hE : ∀ h' e, Heap.ExtBut it s.heap h' → (∃ o, h'.get? e = some o ∧ o.cls = .type "StopIteration") → E (.ref e) { s with heap := h' }) :
    wpAny (model prog w) A (Builtin.SmallTypes.nextOf (.ref it)) Q E s := by
  obtain ⟨o, ho, hc, hd⟩ := id hit
  obtain ⟨ol, hol, _, nl, hdl⟩ := hl
  have hne : x1 ≠ it := HotAt.ne hot ho hd (by simp)
  unfold Builtin.SmallTypes.nextOf
  refine wpAny_bind (wpAny_callSpecial?_slot (name := Str.ofString "__next__") hit.typeIs slot_listiter_next
    (wpAny_call_entry slot_listiter_next hit.typeIs entry_listiter_next ?_ (args_listiter_next _)))
  show wpAny _ _ (field (.ref it) 0 >>= _) _ _ s
  refine wpAny_bind (wpAny_field ho hd (x := .ref l) rfl ?_)
  show wpAny _ _ (if (Value.ref l == Value.none) = true then _ else _) _ _ s
  rw [if_neg (show ¬ ((Value.ref l == Value.none) = true) from Bool.false_ne_true)]
  show wpAny _ _ (field (.ref it) 1 >>= _) _ _ s
  refine wpAny_bind (wpAny_field ho hd (x := .int i 0) rfl ?_)
  show wpAny _ _ (seqItems? (.ref l) >>= _) _ _ s
  refine wpAny_bind (wpAny_seqItems hol hdl ?_)
  simp only [Int.toNat_natCast, hx]
  refine wpAny_bind (wpAny_rule (wpAny_bind (wpAny_setField ho hd (by simp) ?_)))
  refine stop_hot (x1 := x1) ⟨hot.1, ?_⟩ fun h' e k x => hE h' e (fun b o hb q => k b o ((Heap.SameBut.update ..).extBut b o hb q)) x
  obtain ⟨_, o1, vs1, h1, d1, c1⟩ := hot
  exact ⟨o1, vs1, ((Heap.SameBut.update ..).2 x1 hne).trans h1, d1, c1⟩
theorem draws_hot {x1 : Addr} (it l : Addr) (hne : l ≠ it) (items : Array Value) :
    Draws prog w A it [it, l, x1] items.size (fun i v => items[i]? = some v) (fun i h => (h.IsListIter it l i ∧ h.IsList l items) ∧ HotAt A x1 h) where
  live := fun _ _ st => let ⟨o, ho, _⟩ := st.1.1; ⟨o, ho⟩
  frame := fun _ _ _ st hk => ⟨⟨st.1.1.at fun o e => hk it (by simp) o e, st.1.2.at fun o e => hk l (by simp) o e⟩, HotAt.at st.2 fun o e => hk x1 (by simp) o e⟩
  item := fun i s Q E hi st hQ => by
    refine wpAny_nextOf_list_item st.1.1 st.1.2 (x := items[i]) (by simp [hi]) fun h' hit' hs' => ?_
    have hx : x1 ≠ it := by
      obtain ⟨o, ho, _, hd⟩ := st.1.1
      exact HotAt.ne st.2 ho hd (by simp)
    exact hQ _ h' s.toks (by simp [hi]) ⟨⟨hit', st.1.2.extBut hs'.extBut hne⟩, HotAt.at st.2 fun o e => (hs'.2 x1 hx).trans e⟩ hs'
  done := fun s Q E st hE => nextOf_list_end_hot st.2 st.1.1 st.1.2 (by simp) hE
/-! ### a tuple unpacked -/
theorem next_tuple_end_hot {x1 it t : Addr} {i : Nat} {items : Array Value} {Q : Option Value → Shared → Prop} (hot : HotAt A x1 s.heap) (hit : IsTupIter s.heap it t i) (ht : IsTup s.heap t items) (hx : items[i]? = none)
    (hQ : ∀ h', Heap.ExtBut it s.heap h' → Q none { s with heap := h' }) : wpAny (model prog w) A (pyNext (.ref it)) Q E s := by
  obtain ⟨o, ho, hc, hd⟩ := id hit
  obtain ⟨ol, hol, _, nl, hdl⟩ := ht
  have hne : x1 ≠ it := HotAt.ne hot ho hd (by simp)
  unfold pyNext
  refine wpAny_bind (wpAny_attempt (wpAny_callSpecial?_slot (name := Str.ofString "__next__") hit.typeIs slot_tupleiter_next
    (wpAny_call_entry slot_tupleiter_next hit.typeIs entry_tupleiter_next ?_ (args_tupleiter_next _))))
  show wpAny _ _ (field (.ref it) 0 >>= _) _ _ s
  refine wpAny_bind (wpAny_field ho hd (x := .ref t) rfl ?_)
  show wpAny _ _ (if (Value.ref t == Value.none) = true then _ else _) _ _ s
  rw [if_neg (show ¬ ((Value.ref t == Value.none) = true) from Bool.false_ne_true)]
  show wpAny _ _ (field (.ref it) 1 >>= _) _ _ s
  refine wpAny_bind (wpAny_field ho hd (x := .int i 0) rfl ?_)
  show wpAny _ _ (seqItems? (.ref t) >>= _) _ _ s
  refine wpAny_bind (wpAny_seqItems hol hdl ?_)
  simp only [Int.toNat_natCast, hx]
  refine wpAny_bind (wpAny_rule (wpAny_bind (wpAny_setField ho hd (by simp) ?_)))
  refine stop_hot (x1 := x1) ⟨hot.1, ?_⟩ fun h' e k x => ?_
  · obtain ⟨_, o1, vs1, h1, d1, c1⟩ := hot
    exact ⟨o1, vs1, ((Heap.SameBut.update ..).2 x1 hne).trans h1, d1, c1⟩
  · obtain ⟨o', ho', hc'⟩ := x
    refine wpAny_bind (wpAny_isInstance (T := "StopIteration") (b := true) ⟨o', ho', hc'⟩ isSubtype_stop ?_)
    exact wpAny_pure (hQ h' fun b o hb q => k b o ((Heap.SameBut.update ..).extBut b o hb q))
theorem unpackItems_hot {x1 t : Addr} {items : Array Value} {Q : List Value → Shared → Prop} (hot : HotAt A x1 s.heap) (ht : IsTup s.heap t items)
    (hQ : ∀ h', Heap.ExtBut s.heap.objs.size s.heap h' → Q items.toList { s with heap := h' }) : wpAny (model prog w) A (unpackItems (.ref t) items.size none) Q E s := by
  have hlt : t ≠ s.heap.objs.size := by obtain ⟨o, ho, _⟩ := ht; exact Nat.ne_of_lt (Heap.lt_size ho)
  unfold unpackItems
  refine wpAny_bind ?_
  unfold notIterableAtAll
  refine wpAny_bind (wpAny_specialOf ht.typeIs slot_tuple_iter.lookup ?_)
  refine wpAny_pure ?_
  simp only [Bool.false_eq_true, if_false]
  refine wpAny_bind (wpAny_holding (iter_tuple ht ?_))
  refine wpAny_bind (wpAny_holding (draw_tuple hlt items.size 0 _ _ ⟨_, Heap.get?_push_size _ rfl, rfl, rfl⟩ (ht.push _) (by omega) fun h₁ hit₁ hs₁ => ?_))
  have hall : List.take items.size (List.drop 0 items.toList) = items.toList := by
    rw [List.drop_zero]
    exact List.take_of_length_le (by simp)
  rw [hall, if_neg (by simp)]
  have ht₁ : IsTup h₁ t items := (ht.push _).extBut hs₁.extBut hlt
  have hot₁ : HotAt A x1 h₁ := HotAt.at hot fun o e => (hs₁.2 x1 (Nat.ne_of_lt (Heap.lt_size e))).trans (Heap.get?_push_of_some _ e)
  refine wpAny_bind (wpAny_holding (next_tuple_end_hot hot₁ hit₁ ht₁ (by simp) fun h₂ he₂ => ?_))
  simp only [Option.isSome_none, Bool.false_eq_true, if_false]
  exact wpAny_pure (hQ h₂ fun b o hb e => he₂ b o hb (hs₁.extBut b o hb (Heap.get?_push_of_some _ e)))
theorem assign_Tuple_hot {env : PySem.Env} {elts : List Expr} {k : Nat} {pos : Pos} {x1 t : Addr} {items : Array Value} {Q : Unit → Shared → Prop} (hot : HotAt A x1 s.heap) (ht : IsTup s.heap t items)
    (hn : (assignEach elts env).length = items.size) (hstar : (assignEach elts env).findIdx? (·.1) = none)
    (h : ∀ h', Heap.ExtBut s.heap.objs.size s.heap h' → wpAny (model prog w) A (assignInOrder ((assignEach elts env).map (·.2)) items.toList) Q E { s with heap := h' }) :
    wpAny (model prog w) A (assign (.Tuple elts k pos) env (.ref t)) Q E s := by
  rw [assign_Tuple]
  refine wpAny_bind (wpAny_standAt ?_)
  unfold unpack
  rw [hn, hstar]
  exact wpAny_bind (wpAny_holding (unpackItems_hot hot ht h))
end
/-- there is an exception that is handled, its context is None -/
def HotK (X : Cx) : Prop := ∀ (pins : List (Addr × Obj)) (σ : L2.St) (H : Hp) (s : Shared), Inv X pins σ H s → ∃ x1, HotAt X.A x1 s.heap
theorem hotK_of {X : Cx} (c : L2H.HotC X) : HotK X := fun _ _ _ _ I => c.at I
section
variable {X : Cx} {pos : Pos}
theorem pg_tupK {es : List Expr} {k : Nat} {t : TGs} {n : Nat} (hc : HotK X) (h : PGs X es t) (hn : (assignEach es X.env).length = n) (hst : (assignEach es X.env).findIdx? (·.1) = none) : PG X (.Tuple es k pos) (gTup X.K n t) := by
  refine ⟨fun pins s σ H v u Q I r hw => ?_⟩
  obtain ⟨a, xs, e1, hq, hl, hw⟩ := hw
  subst e1
  cases r
  obtain ⟨its, rv, ht, hz⟩ := I.tuple hq
  obtain ⟨x1, hot⟩ := hc pins σ H s I
  refine assign_Tuple_hot hot ht (by simp [hn, ← hl, rv.length]) hst fun h' hx => ?_
  have I1 : Inv X pins σ H { s with heap := h' } := I.kept (t' := s.toks) fun b o e => hx b o (Nat.ne_of_lt (Heap.lt_size e)) e
  exact h.run pins _ σ H xs _ Q I1 (by simpa using rv) hw
end
/-! ### iterators there -/
structure TurnK (P : Program) (w : World) (K : PySem.W.Frag) (tg : Expr) (J : It) (fp : List Addr) (it : Addr) (tn : Nat → Heap → Prop) : Prop where
  obj : ∀ i h, tn i h → ∀ b ∈ fp, ∃ o, h.get? b = some o ∧ ∀ v, o.data ≠ .cell v
  keep : ∀ i h h', tn i h → (∀ b ∈ fp, ∀ o, h.get? b = some o → h'.get? b = some o) → tn i h'
  item : ∀ (X : Cx), X.prog = P → X.w = w → X.K = K → HotK X → ∀ (i : Nat) (pins : List (Addr × Obj)) (s : Shared) (σ : L2.St) (H : Hp) (E : Value → Shared → Prop), Inv X pins σ H s → (∀ b ∈ fp, FpOk X pins H b) → tn i s.heap → J.go i H →
    wpAny (model P w) X.A (pyNext (.ref it)) (fun r s1 => ∃ u, r = some u ∧
      wpAny (model P w) X.A (letOwnedTupleGo tg (.ref it) u) (fun _ s2 => ∃ x H', Inv X pins σ H' s2 ∧ RelV x u ∧ J.yld i H x H' ∧ tn (i + 1) s2.heap ∧ ∀ b ∈ fp, H' b = none) E s1) E s
  done : ∀ (X : Cx), X.prog = P → X.w = w → X.K = K → HotK X → ∀ (i : Nat) (pins : List (Addr × Obj)) (s : Shared) (σ : L2.St) (H : Hp) (E : Value → Shared → Prop), Inv X pins σ H s → (∀ b ∈ fp, FpOk X pins H b) → tn i s.heap → J.stop i H →
    wpAny (model P w) X.A (pyNext (.ref it)) (fun r s1 => r = none ∧ Inv X pins σ H s1) E s
  self : ∀ (A : Around) (i : Nat) (s : Shared) (Q : Value → Shared → Prop) (E : Value → Shared → Prop), tn i s.heap → Q (.ref it) s → wpAny (model P w) A (pyIter (.ref it)) Q E s
structure PIK (X : Cx) (tg iter : Expr) (wi : TI) : Prop where
  run : ∀ (pins : List (Addr × Obj)) (s : Shared) (σ : L2.St) (H : Hp) (R : It → Hp → Prop), Inv X pins σ H s → wi σ H R →
    wpAny (model X.prog X.w) X.A (eval iter X.env) (fun v s1 => wpAny (model X.prog X.w) X.A (pyIter v) (fun itv s2 => ∃ (it : Addr) (fp : List Addr) (tn : Nat → Heap → Prop) (J : It) (H' : Hp), itv = .ref it ∧ Inv X pins σ H' s2 ∧ TurnK X.prog X.w X.K tg J fp it tn ∧ tn 0 s2.heap ∧
      (∀ b ∈ fp, FpOk X pins H' b) ∧ R J H') X.xe s1) X.xe s
theorem turn_ZK {P : Program} {w : World} {K : PySem.W.Frag} {elts : List Expr} {kk : Nat} {tpos : Pos} {a b z TI TO i1 i2 : Addr} (D : ZipSep2 z TI TO i1 i2 [i1, a] [i2, b]) :
    TurnK P w K (.Tuple elts kk tpos) (ItZ false false K a b) [z, TI, TO, i1, i2] z (fun i h => IsZip h z TI TO .none ∧ IsTupOf2 h TI (.ref i1) (.ref i2) ∧ (∃ x y, IsTupOf2 h TO x y) ∧ IterAt false h i1 a i ∧ IterAt false h i2 b i) where
  obj := (turn_Z (P := P) (w := w) (K := K) (elts := elts) (kk := kk) (tpos := tpos) false false D).obj
  keep := (turn_Z (P := P) (w := w) (K := K) (elts := elts) (kk := kk) (tpos := tpos) false false D).keep
  item := by
    intro X hP hw hK hc i pins s σ H E I hf st hg
    subst hP hw hK
    obtain ⟨hz, hTI, ⟨x0, y0, hTO⟩, h1, h2⟩ := st
    obtain ⟨xs, ys, x, y, hqx, hqy, hx, hy⟩ := hg
    obtain ⟨its, rv, p⟩ := sqx I hqx
    obtain ⟨its2, rv2, p2⟩ := sqx I hqy
    obtain ⟨u1, hu, ru⟩ := rv.get hx
    obtain ⟨u2, hu2, ru2⟩ := rv2.get hy
    have hzl : z < s.heap.objs.size := Heap.lt_size hz
    obtain ⟨q1, hot0⟩ := hc pins σ H s I
    have hot : HotAt X.A.in1 q1 s.heap := hot0
    have nz : q1 ≠ z := HotAt.ne hot hz rfl (by simp)
    have nTO : q1 ≠ TO := HotAt.neS hot hTO rfl
    have n1 : q1 ≠ i1 := by
      obtain ⟨o, ho, _, hd⟩ := h1
      exact HotAt.ne hot ho hd (by simp)
    have n2 : q1 ≠ i2 := by
      obtain ⟨o, ho, _, hd⟩ := h2
      exact HotAt.ne hot ho hd (by simp)
    have D' : ZipSep2 z TI TO i1 i2 [i1, a, q1] [i2, b, q1] := by
      refine ⟨D.TIz, D.TOz, D.TITO, D.TIi1, by simp, ?_, ?_, D.TIi2, by simp, ?_, ?_, ?_, ?_⟩
      · have := D.zf1; simp only [List.mem_cons, List.not_mem_nil, or_false, not_or] at this ⊢; exact ⟨this.1, this.2, Ne.symm nz⟩
      · have := D.Tf1; simp only [List.mem_cons, List.not_mem_nil, or_false, not_or] at this ⊢; exact ⟨this.1, this.2, Ne.symm nTO⟩
      · have := D.zf2; simp only [List.mem_cons, List.not_mem_nil, or_false, not_or] at this ⊢; exact ⟨this.1, this.2, Ne.symm nz⟩
      · have := D.Tf2; simp only [List.mem_cons, List.not_mem_nil, or_false, not_or] at this ⊢; exact ⟨this.1, this.2, Ne.symm nTO⟩
      · have := D.sep1_2; simp only [List.mem_cons, List.not_mem_nil, or_false, not_or] at this ⊢; exact ⟨this.1, this.2, Ne.symm n1⟩
      · have := D.sep2_1; simp only [List.mem_cons, List.not_mem_nil, or_false, not_or] at this ⊢; exact ⟨this.1, this.2, Ne.symm n2⟩
    have l1 : i < its.toArray.size := by
      have := (List.getElem?_eq_some_iff.mp hu).1
      simpa using this
    have l2 : i < its2.toArray.size := by
      have := (List.getElem?_eq_some_iff.mp hu2).1
      simpa using this
    refine wpAny_pyNext_zipD2_item D' (draws_hot i1 a (iter_ne h1 p) its.toArray) (draws_hot i2 b (iter_ne h2 p2) its2.toArray) hz hTI hTO ⟨⟨h1, p⟩, hot⟩ ⟨⟨h2, p2⟩, hot⟩ l1 l2 fun x1 x2 h' tk e1 e2 z' TO' h1' h2' hT hsz hk => ?_
    have ex1 : x1 = u1 := by
      have : its.toArray[i]? = some u1 := by simpa using hu
      rw [this] at e1
      exact (Option.some.inj e1).symm
    have ex2 : x2 = u2 := by
      have : its2.toArray[i]? = some u2 := by simpa using hu2
      rw [this] at e2
      exact (Option.some.inj e2).symm
    subst ex1 ex2
    refine ⟨_, rfl, wpAny_letOwnedTupleGo_zip (s := { s with heap := h', toks := tk }) z' fun h'' z'' sb => ?_⟩
    have hT2 : h''.get? s.heap.objs.size = some { cls := .type "tuple", data := .seq #[x1, x2] } := (sb.2 _ (Nat.ne_of_gt hzl)).trans hT
    have new : ObjOk X.prog X.w (upd H s.heap.objs.size (.tup [x, y])) h'' s.heap.objs.size (.tup [x, y]) :=
      ⟨by show 2 ≤ sizeLine; decide, [x1, x2], .cons ru (.cons ru2 .nil), ⟨_, hT2, rfl, _, rfl⟩⟩
    have I1 : Inv X pins σ (upd H s.heap.objs.size (.tup [x, y])) { s with heap := h'', toks := tk } :=
      I.turnedNew (t' := tk) (ch := [z, TI, TO, i1, i2]) (fun c o hb q => (sb.2 c (fun q' => hb (by simp [q']))).trans (hk c o (fun q' => hb (by simp [q'])) (fun q' => hb (by simp [q'])) (fun q' => hb (by simp [q'])) (fun q' => hb (by simp [q'])) q)) hf (Nat.le_refl _) new
    refine ⟨.ref s.heap.objs.size, _, I1, rfl, ⟨_, x, y, rfl, I.hok.fresh (Nat.le_refl _), rfl, fun l hl => by rw [sqx_inj I hl hqx]; exact hx, fun l hl => by rw [sqx_inj I hl hqy]; exact hy⟩, ⟨z'', ?_, ⟨x1, x2, ?_⟩, ?_, ?_⟩, fun c hcm => ?_⟩
    · have TIi2 : TI ≠ i2 := D.TIi2
      exact (sb.2 _ D.TIz).trans (hk _ _ D.TIz D.TITO D.TIi1 TIi2 hTI)
    · exact (sb.2 _ D.TOz).trans TO'
    · exact iter_at (t := false) h1'.1.1 fun o q => (sb.2 _ (Ne.symm D.zi1)).trans q
    · exact iter_at (t := false) h2'.1.1 fun o q => (sb.2 _ (Ne.symm D.zi2)).trans q
    · have hlt : c < s.heap.objs.size := by
        have e' : c = z ∨ c = TI ∨ c = TO ∨ c = i1 ∨ c = i2 := by simpa using hcm
        rcases e' with q | q | q | q | q
        · rw [q]; exact hzl
        · rw [q]; exact Heap.lt_size hTI
        · rw [q]; exact Heap.lt_size hTO
        · rw [q]; obtain ⟨_, e1, _⟩ := iter_obj h1; exact Heap.lt_size e1
        · rw [q]; obtain ⟨_, e2, _⟩ := iter_obj h2; exact Heap.lt_size e2
      rw [upd_ne (Nat.ne_of_lt hlt)]
      exact (hf c hcm).1
  done := by
    intro X hP hw hK hc i pins s σ H E I hf st hg
    subst hP hw hK
    obtain ⟨hz, hTI, ⟨x0, y0, hTO⟩, h1, h2⟩ := st
    obtain ⟨xs, ys, hqx, hqy, hi1, hi2, hend⟩ := hg
    obtain ⟨its, rv, p⟩ := sqx I hqx
    obtain ⟨its2, rv2, p2⟩ := sqx I hqy
    have l1 := rv.length
    have l2 := rv2.length
    obtain ⟨q1, hot0⟩ := hc pins σ H s I
    have hot : HotAt X.A.in1 q1 s.heap := hot0
    have nz : q1 ≠ z := HotAt.ne hot hz rfl (by simp)
    have nTO : q1 ≠ TO := HotAt.neS hot hTO rfl
    have n1 : q1 ≠ i1 := by
      obtain ⟨o, ho, _, hd⟩ := h1
      exact HotAt.ne hot ho hd (by simp)
    have n2 : q1 ≠ i2 := by
      obtain ⟨o, ho, _, hd⟩ := h2
      exact HotAt.ne hot ho hd (by simp)
    have D' : ZipSep2 z TI TO i1 i2 [i1, a, q1] [i2, b, q1] := by
      refine ⟨D.TIz, D.TOz, D.TITO, D.TIi1, by simp, ?_, ?_, D.TIi2, by simp, ?_, ?_, ?_, ?_⟩
      · have := D.zf1; simp only [List.mem_cons, List.not_mem_nil, or_false, not_or] at this ⊢; exact ⟨this.1, this.2, Ne.symm nz⟩
      · have := D.Tf1; simp only [List.mem_cons, List.not_mem_nil, or_false, not_or] at this ⊢; exact ⟨this.1, this.2, Ne.symm nTO⟩
      · have := D.zf2; simp only [List.mem_cons, List.not_mem_nil, or_false, not_or] at this ⊢; exact ⟨this.1, this.2, Ne.symm nz⟩
      · have := D.Tf2; simp only [List.mem_cons, List.not_mem_nil, or_false, not_or] at this ⊢; exact ⟨this.1, this.2, Ne.symm nTO⟩
      · have := D.sep1_2; simp only [List.mem_cons, List.not_mem_nil, or_false, not_or] at this ⊢; exact ⟨this.1, this.2, Ne.symm n1⟩
      · have := D.sep2_1; simp only [List.mem_cons, List.not_mem_nil, or_false, not_or] at this ⊢; exact ⟨this.1, this.2, Ne.symm n2⟩
    exact wpAny_pyNext_zipD2_end D' (draws_hot i1 a (iter_ne h1 p) its.toArray) (draws_hot i2 b (iter_ne h2 p2) its2.toArray) hz hTI hTO ⟨⟨h1, p⟩, hot⟩ ⟨⟨h2, p2⟩, hot⟩ (by simp; omega) (by simp; omega) (by simp; omega) fun h' tk hk =>
      ⟨rfl, I.turnedL (t' := tk) (ch := [z, TI, TO, i1, i2]) (fun c o hb q =>
        hk c o (fun q' => hb (by simp [q'])) (fun q' => hb (by simp [q'])) (fun q' => hb (by simp [q'])) (fun q' => hb (by simp [q'])) q) hf⟩
  self := fun A i s Q E st h => wpAny_pyIter_zip st.1 h
/-- zip of two lists -/
def iZL (K : PySem.W.Frag) (te tf : TE) : TI := fun σ H R => te σ H fun x H1 => tf σ H1 fun y H2 => ∃ a xs b ys, x = .ref a ∧ y = .ref b ∧ SqL K H2 a xs ∧ SqL K H2 b ys ∧ R (ItZ false false K a b) H2
theorem hw_zipL {X : Cx} {te tf : TE} {σ : L2.St} {H : Hp} {R : It → Hp → Prop} (h : iZL X.K te tf σ H R) : tCons te (tCons tf tNil) σ H (fun vs H1 => ∃ a xs b ys, vs = [V.ref a, V.ref b] ∧ SqL X.K H1 a xs ∧ SqL X.K H1 b ys ∧ R (ItZ false false X.K a b) H1) := by
  have e : ∀ (x : V), (fun (y : V) (H1 : Hp) => ∃ a xs b ys, [x, y] = [V.ref a, V.ref b] ∧ SqL X.K H1 a xs ∧ SqL X.K H1 b ys ∧ R (ItZ false false X.K a b) H1) = fun y H1 => ∃ a xs b ys, x = .ref a ∧ y = .ref b ∧ SqL X.K H1 a xs ∧ SqL X.K H1 b ys ∧ R (ItZ false false X.K a b) H1 := by
    intro x
    funext y H1
    simp only [List.cons.injEq, and_true, and_assoc]
  show te σ H fun x H1 => tf σ H1 fun y H2 => ∃ a xs b ys, [x, y] = [V.ref a, V.ref b] ∧ SqL X.K H2 a xs ∧ SqL X.K H2 b ys ∧ R (ItZ false false X.K a b) H2
  have e2 : (fun x H1 => tf σ H1 fun y H2 => ∃ a xs b ys, [x, y] = [V.ref a, V.ref b] ∧ SqL X.K H2 a xs ∧ SqL X.K H2 b ys ∧ R (ItZ false false X.K a b) H2) = fun x H1 => tf σ H1 fun y H2 => ∃ a xs b ys, x = .ref a ∧ y = .ref b ∧ SqL X.K H2 a xs ∧ SqL X.K H2 b ys ∧ R (ItZ false false X.K a b) H2 := by
    funext x H1
    rw [e x]
  rw [e2]
  exact h
theorem pi_ZK {X : Cx} {e e2 : Expr} {te tf : TE} {p pos tpos : Pos} {elts : List Expr} {kk : Nat} (hg : Gl X "zip") (hm : X.mg "zip" = none) (he : PE X e te) (hf : PE X e2 tf) (hs : starEach [e, e2] X.env = (false, eval e X.env) :: starEach [e2] X.env) (hs2 : starEach [e2] X.env = (false, eval e2 X.env) :: starEach [] X.env) (hpl : (backTo pos (starEach [e2] X.env)).any (·.1) = false) :
    PIK X (.Tuple elts kk tpos) (.Call (.Name "zip" p) [e, e2] [] pos) (iZL X.K te tf) := by
  refine ⟨fun pins s σ H R I h => ?_⟩
  refine Call_ (ld_blt I hg hm PyProof.Rows.boot_zip (PyProof.Rows.callWith_type1 (thn ((pa_cons he (pa_cons hf pa_nil hs2) hs).run pos pins s σ H _ I (hw_zipL h)) fun us s1 ⟨vs, H1, I1, r1, q1⟩ => ?_) hs hpl))
  obtain ⟨a, xs, b, ys, ex, hqx, hqy, q⟩ := q1
  subst ex
  cases r1 with
  | cons r rr =>
    cases rr with
    | cons r' rr =>
      cases rr
      cases r
      cases r'
      obtain ⟨its, rv, p1⟩ := sqx (t := false) I1 hqx
      obtain ⟨its2, rv2, p2⟩ := sqx (t := false) I1 hqy
      obtain ⟨o1, B1, hB1⟩ := begins false a its.toArray
      obtain ⟨o2, B2, hB2⟩ := begins false b its2.toArray
      refine zip_begins2 B1 B2 p1 p2 fun h' hz hTI hTO h1 h2 hsz hk => wpAny_pyIter_zip hz ?_
      have I2 : Inv X pins σ H1 { s1 with heap := h' } := I1.kept (t' := s1.toks) hk
      refine ⟨s1.heap.objs.size + 4, [s1.heap.objs.size + 4, s1.heap.objs.size + 2, s1.heap.objs.size + 3, s1.heap.objs.size, s1.heap.objs.size + 1], _, _, H1, rfl, I2,
        turn_ZK (zip_sep2 (fp1 := [a]) (fp2 := [b]) (fun c hc => by rw [List.mem_singleton.mp hc]; exact seq_lt p1) (fun c hc => by rw [List.mem_singleton.mp hc]; exact seq_lt p2)), ⟨hz, hTI, ⟨_, _, hTO⟩, hB1 _ _ h1, hB2 _ _ h2⟩, fun c hcm => ?_, q⟩
      have e' : c = s1.heap.objs.size + 4 ∨ c = s1.heap.objs.size + 2 ∨ c = s1.heap.objs.size + 3 ∨ c = s1.heap.objs.size ∨ c = s1.heap.objs.size + 1 := by simpa using hcm
      have hle : s1.heap.objs.size ≤ c := by
        rcases e' with z | z | z | z | z
        · rw [z]; exact Nat.le_add_right _ _
        · rw [z]; exact Nat.le_add_right _ _
        · rw [z]; exact Nat.le_add_right _ _
        · rw [z]; exact Nat.le_refl _
        · rw [z]; exact Nat.le_add_right _ _
      exact I1.fpOk hle (I1.hok.fresh hle)
end DV

end
section
set_option Elab.async false
set_option linter.all false
set_option maxRecDepth 100000
set_option maxHeartbeats 4000000
set_option autoImplicit false
/-! The deep layer, part W: a list comprehension where an exception is handled. -/
namespace DV
open PySem PySem.Spec PyProof.Rows L2 HotX L2H
section
variable {X : Cx}
theorem pe_lcK {elt tg iter : Expr} {ifs : List Expr} {scope : Scope} {own : List (Str × Nat)} {pos : Pos} {wi : TI} {g : TG} {tt : TT} {te : TE} (hc : HotC X) (hN : X.N.Nodup) (hi : PIK X tg iter wi) (ok : BlkOk X.N X.env.scope scope own)
    (hg : ∀ (s : Shared) (H : Hp) (C : Addr) (cl : List (Str × Addr)) (fp : List Addr), HotK (X.blk s H scope (compEnvC scope cl C X.env) fp) → PG (X.blk s H scope (compEnvC scope cl C X.env) fp) tg g)
    (ht : ∀ (s : Shared) (H : Hp) (C : Addr) (cl : List (Str × Addr)) (fp : List Addr), HotK (X.blk s H scope (compEnvC scope cl C X.env) fp) → PTs (X.blk s H scope (compEnvC scope cl C X.env) fp) ifs tt)
    (he : ∀ (s : Shared) (H : Hp) (C : Addr) (cl : List (Str × Addr)) (fp : List Addr), HotK (X.blk s H scope (compEnvC scope cl C X.env) fp) → PE (X.blk s H scope (compEnvC scope cl C X.env) fp) elt te) (hs : ∀ x, foldedSetIterable iter X.env x = pure x) :
    PE X (.ListComp elt [⟨tg, iter, ifs, 0⟩] scope pos) (tLc wi g tt te (own.map (·.2))) := by
  refine ⟨fun pins s σ H Q I h => ?_⟩
  rw [eval_ListComp]
  have hfree : ∀ y ∈ scope.names, y.2 = .free → ∃ c, X.env.cells.lookup y.1 = some c := fun y hy e => by
    rcases ok.free y hy e with k | k
    · exact I.ok.has _ (.inl k)
    · exact I.ok.has _ (.inr k)
  refine wpAny_comprehension_free (use := none) rfl hs (closure_ok hfree) ok.kind (fun y hy e => by rw [ok.uniq y hy, e])
    (thn (hi.run pins s σ H _ I h) fun xv s1 hx => thn hx fun itv s2 h2 => ?_)
  obtain ⟨it, fp, tn, J, H2, e, I2, T, st2, f2, q⟩ := h2
  subst e
  refine wpAny_newObj_type (newEnv_comp ?_) (by show 0 ≤ sizeLine; decide)
  generalize hD : s2.heap.objs.size = D
  have hDn : H2 D = none := I2.hok.fresh (Nat.le_of_eq hD)
  obtain ⟨W, ⟨m0, w0⟩, turn⟩ := q D hDn
  generalize hs3 : ({ s2 with heap := s2.heap.push { cls := .type "list", data := .seq ([] : List Value).toArray } } : Shared) = s3
  have h3 : s3.heap = s2.heap.push { cls := .type "list", data := .seq ([] : List Value).toArray } := by rw [← hs3]
  have I3 : Inv X pins σ (upd H2 D (.lst [])) s3 := by
    rw [← hs3]
    refine I2.laid (t' := s2.toks) (fun b o e => Heap.get?_push_of_some _ e) (Nat.le_of_eq hD) ⟨Nat.zero_le _, [], 0, .nil, ?_⟩
    rw [← hD]
    exact Heap.get?_push_size _ rfl
  have f3 : ∀ b ∈ fp, FpOk X pins (upd H2 D (.lst [])) b ∧ b < s3.heap.objs.size := fun b hb => by
    obtain ⟨o, e, _⟩ := T.obj _ _ st2 b hb
    have hlt := Heap.lt_size e
    refine ⟨⟨?_, (f2 b hb).2⟩, by rw [h3, Heap.size_push]; exact Nat.lt_succ_of_lt hlt⟩
    rw [upd_ne (by rw [← hD]; exact Nat.ne_of_lt hlt)]
    exact (f2 b hb).1
  have st3 : tn 0 s3.heap := T.keep _ _ _ st2 fun b _ o e => by rw [h3]; exact Heap.get?_push_of_some _ e
  have I4 := block_start I3 ok hN f3
  generalize hH3 : upd H2 D (.lst []) = H3 at I3 I4 w0 f3
  -- the exception that is handled stays what it is within the block
  have hotB : ∀ cl C, HotK (X.blk s3 H3 scope (compEnvC scope cl C X.env) fp) := by
    intro cl C pins' σ' H' s' I'
    obtain ⟨p, ⟨hh, v1, e1, c1⟩, hp⟩ := hc
    have P := I3.pin p (List.mem_append_left _ hp)
    refine ⟨p.1, hh, p.2, v1, ?_, e1, c1⟩
    refine I'.base.keep p.1 p.2 P.1 P.2.1 (fun hm => ?_) (fun hm => ?_)
    · exact (List.mem_cons.mp (I3.stkSub p.1 hm)).elim P.2.2.1 P.2.2.2.1
    · exact (f3 p.1 hm).1.2.2.2.2.2 p (List.mem_append_left _ hp) rfl
  have pg := hg s3 H3 s3.heap.objs.size (cellsFrom (s3.heap.objs.size + 1) scope.names (cloFrom X.env.cells scope.names [])) fp (hotB _ _)
  have pt := ht s3 H3 s3.heap.objs.size (cellsFrom (s3.heap.objs.size + 1) scope.names (cloFrom X.env.cells scope.names [])) fp (hotB _ _)
  have pe := he s3 H3 s3.heap.objs.size (cellsFrom (s3.heap.objs.size + 1) scope.names (cloFrom X.env.cells scope.names [])) fp (hotB _ _)
  have hot4 := hotB (cellsFrom (s3.heap.objs.size + 1) scope.names (cloFrom X.env.cells scope.names [])) s3.heap.objs.size
  show codeAny _ _ (.compStart (.ListComp elt [⟨tg, iter, ifs, 0⟩] scope pos) 0 (.ref it) (.ref D) (compEnvC scope (cellsFrom (s3.heap.objs.size + 1) scope.names (cloFrom X.env.cells scope.names [])) s3.heap.objs.size X.env)) (compPost (model X.prog X.w) X.A X.xe none (EP X pins σ Q) (.ref D) s3.heap.objs.size) { s3 with heap := pushCells (s3.heap.push { cls := .type "dict", data := .dict #[] }) scope.names }
  have nfp : ∀ b ∈ fp, H3 b = none := fun b hb => (f3 b hb).1.1
  generalize hce : compEnvC scope (cellsFrom (s3.heap.objs.size + 1) scope.names (cloFrom X.env.cells scope.names [])) s3.heap.objs.size X.env = ce at I4 pg pt pe hot4 ⊢
  have cL : ce.locals = s3.heap.objs.size := by subst hce; rfl
  generalize hs4 : ({ s3 with heap := pushCells (s3.heap.push { cls := .type "dict", data := .dict #[] }) scope.names } : Shared) = s4 at I4 ⊢
  have st4 : tn 0 s4.heap := T.keep _ _ _ st3 fun b _ o e => by rw [← hs4]; exact pushCells_keeps _ _ _ _ (Heap.get?_push_of_some _ e)
  have stat : ∀ {σ' : L2.St} {H' : Hp} {s' : Shared}, Inv (X.blk s3 H3 scope ce fp) [] σ' H' s' → (∀ b ∈ fp, H' b = none) → ∀ b ∈ fp, FpOk (X.blk s3 H3 scope ce fp) [] H' b := fun {σ' H' s'} I' hn b hb =>
    ⟨hn b hb, (I'.ok.exf b hb).1, I'.ok.exfs b hb, .inl hb, fun x c e => (I'.ok.exf b hb).2 x c e, fun p hp => absurd (show p ∈ ([] : List (Addr × Obj)) ++ [] from hp) (by simp)⟩
  have loop : codeAny (model X.prog X.w) X.A (.compLoop (.ListComp elt [⟨tg, iter, ifs, 0⟩] scope pos) 0 (.ref it) (.ref D) ce) (compPost (model X.prog X.w) X.A X.xe none (EP X pins σ Q) (.ref D) s3.heap.objs.size) s4 := by
    refine compLoop_any (fun n s' => ∃ i H', Inv (X.blk s3 H3 scope ce fp) [] (wipe σ (own.map (·.2))) H' s' ∧ tn i s'.heap ∧ (∀ b ∈ fp, H' b = none) ∧ W i n H') ?_ m0 ⟨0, H3, I4, st4, nfp, w0⟩
    rintro n s5 ⟨i, H5, I5, st5, n5, w5⟩
    rcases turn i n H5 w5 with ⟨stop, qq⟩ | ⟨go, Nx, hNx, step⟩
    · refine thnF (T.done (X.blk s3 H3 scope ce fp) rfl rfl rfl hot4 i [] s5 _ H5 (fun _ _ => False) I5 (stat I5 n5) st5 stop) fun r s6 ⟨hr, I6⟩ => ?_
      subst hr
      have I7 : Inv X pins σ H5 s6 := I3.call' (ch := fp) I6.os I6.base I6.hok I6.bare fun b hb => ⟨(f3 b hb).1.2.2.2.1, (f3 b hb).1.2.1, (f3 b hb).1.2.2.2.2.1, (f3 b hb).1.2.2.2.2.2⟩
      have nC : H5 s3.heap.objs.size = none := by
        have z : H5 ce.locals = none := I6.free
        rw [cL] at z
        exact z
      obtain ⟨m, hn, _⟩ := I6.loc
      have hn : s6.heap.Ns ce.locals m := hn
      rw [cL] at hn
      refine ⟨m, hn, fun h'' sb => ?_⟩
      obtain ⟨k0, k1, k2, k3, k4, k5⟩ : FpOk X pins H5 s3.heap.objs.size := I3.fpOk (Nat.le_refl _) nC
      exact ⟨.ref D, H5, I7.turned (t' := s6.toks) (fun b o hb e => (sb.2 b hb).trans e) k0 k1 k3 k4 k5, rfl, qq⟩
    · refine thnF (T.item (X.blk s3 H3 scope ce fp) rfl rfl rfl hot4 i [] s5 _ H5 (fun _ _ => False) I5 (stat I5 n5) st5 go) fun r s6 ⟨u, hr, h6⟩ => ?_
      subst hr
      refine thnF h6 fun _ s7 ⟨x, H7, I7, r7, y7, st7, n7⟩ => ?_
      have I7' := I7.pinned (stat I7 n7) (T.obj _ _ st7)
      refine thnF (pg.run _ s7 _ H7 x u _ I7' r7 (step x H7 y7)) fun _ s8 ⟨σ8, H8, I8, hw8, q8⟩ => ?_
      refine thnF (pt.run _ s8 σ8 H8 _ I8 q8) fun b s9 ⟨H9, I9, q9⟩ => ?_
      have fin : ∀ {s' : Shared} {H' : Hp}, Inv (X.blk s3 H3 scope ce fp) ([] ++ pinsAt fp s7.heap) σ8 H' s' → Nx H' → ∃ m, m < n ∧ ∃ i H', Inv (X.blk s3 H3 scope ce fp) [] (wipe σ (own.map (·.2))) H' s' ∧ tn i s'.heap ∧ (∀ b ∈ fp, H' b = none) ∧ W i m H' := fun {s' H'} I' nx => by
        obtain ⟨m', hm, w'⟩ := hNx H' nx
        have pin' : ∀ b ∈ fp, ∀ o, s7.heap.get? b = some o → s'.heap.get? b = some o ∧ H' b = none := fun b hb o e =>
          let z := I'.pin (b, o) (List.mem_append_right _ (List.mem_append_right _ (mem_pinsAt hb e)))
          ⟨z.1, z.2.1⟩
        have hl : (wipe σ (own.map (·.2))).length = σ8.length := by rw [← hw8, wipe_length]
        refine ⟨m', hm, i + 1, H', (I'.unpinned (pins := [])).weak hl (fun j v e => ?_), T.keep _ _ _ st7 fun b hb o e => (pin' b hb o e).1, fun b hb => ?_, w'⟩
        · rw [← hw8] at e
          exact (wipe_some e).1
        · obtain ⟨o, e, _⟩ := T.obj _ _ st7 b hb
          exact (pin' b hb o e).2
      cases b with
      | false =>
        simp only [Bool.false_eq_true, if_false] at q9 ⊢
        exact fin I9 q9
      | true =>
        simp only [if_true] at q9 ⊢
        refine thnF (pe.run _ s9 σ8 H9 _ I9 q9) fun z s10 ⟨yv, H10, I10, r10, acc, hD10, hz10, nx⟩ => ?_
        exact app_ok (X := X.blk s3 H3 scope ce fp) I10 hD10 hz10 r10 fun s11 I11 => fin I11 nx
  exact codeAny_compStart_list loop (T.self X.A 0 _ _ _ st4 loop)
end
/-! ### over the data -/
section
variable {X : Cx} {C : Ctx} {E : XK} {e e2 : Expr}
/-- zip of two lists of the store -/
def zipLD (d e : D) (S : Sto) : Res Walk := match d, e with
  | .ref n, .ref m => (walkD (.ref n) S).bind fun w S1 => (walkD (.ref m) S1).bind fun v S2 => .ok (zipW w v) S2
  | _, _ => .bad
theorem src_lst {H : Hp} {fa : List Addr} {S S' : Sto} {n : Nat} {v : V} {w : Walk} (r : RS C H fa S) (p : Rel C H fa (.ref n) v) (h : walkD (.ref n) S = .ok w S') : S' = S ∧ ∃ a, v = .ref a ∧ Src C H fa w false a ∧ Locked S w.lock := by
  simp only [walkD] at h
  split at h
  · rename_i xs e1
    cases h
    obtain ⟨a, vs, rfl, ha, h1, h2⟩ := r.ref p e1
    refine ⟨rfl, a, rfl, fun fa' H' S' l r' k => ?_, fun q hq => by
      rw [List.mem_singleton.mp hq]
      exact e1⟩
    obtain ⟨vs', h3, h4⟩ := r'.at_ n a _ (l.at_ ha) (k (n, xs) (by simp))
    exact ⟨vs', .inl (.inl h3), h4⟩
  · cases h
theorem li_zipK {f g : DE} {elts : List Expr} {kk : Nat} {p pos tpos : Pos} (hk : C.K = X.K) (hg : Gl X "zip") (hm : X.mg "zip" = none) (he : PE X e (LE C E f)) (hf : PE X e2 (LE C E g)) (hs : starEach [e, e2] X.env = (false, eval e X.env) :: starEach [e2] X.env) (hs2 : starEach [e2] X.env = (false, eval e2 X.env) :: starEach [] X.env) (hpl : (backTo pos (starEach [e2] X.env)).any (·.1) = false) :
    PIK X (.Tuple elts kk tpos) (.Call (.Name "zip" p) [e, e2] [] pos) (LI C E fun σ S => (f σ S).bind fun d S1 => (g σ S1).bind fun e S2 => zipLD d e S2) := by
  refine ⟨fun pins s σ H R I h => (pi_ZK hg hm he hf hs hs2 hpl).run pins s σ H R I ?_⟩
  obtain ⟨σd, S, fa, rs, r, q⟩ := h
  refine ⟨σd, S, fa, rs, r, (LKg.bind (P2 := PD C) q).mono ?_⟩
  rintro x H1 ⟨fa1, S1, d, l1, r1, p1, q1⟩
  refine ⟨σd, S1, fa1, rs.later r l1, r1, (LKg.bind (P2 := PD C) q1).mono ?_⟩
  rintro y H2 ⟨fa2, S2, d2, l2, r2, p2, q2⟩
  unfold zipLD at q2
  split at q2
  · rename_i n m
    cases e1 : walkD (.ref n) S2 with
    | bad => rw [e1] at q2; exact q2.elim
    | exc x p S => exact absurd e1 walkD_noexc
    | ok w S3 =>
      rw [e1] at q2
      dsimp only [Res.bind] at q2
      obtain ⟨rfl, a, rfl, hs, hl⟩ := src_lst r2 (Rel.later r1 l2 p1) e1
      cases e3 : walkD (.ref m) S3 with
      | bad => rw [e3] at q2; exact q2.elim
      | exc x p S => exact absurd e3 walkD_noexc
      | ok v S4 =>
        rw [e3] at q2
        obtain ⟨rfl, b, rfl, hs', hl'⟩ := src_lst r2 p2 e3
        obtain ⟨vs, h1, h2⟩ := hs fa2 H2 S4 (.refl _ _) r2 hl
        obtain ⟨us, h3, h4⟩ := hs' fa2 H2 S4 (.refl _ _) r2 hl'
        rw [hk] at h1 h3
        refine ⟨a, vs, b, us, rfl, rfl, h1, h3, ?_⟩
        rw [← hk]
        exact lk_ok (P := JOk C) q2 (.refl _ _) r2 (jok_Z hs hs')
  · exact q2.elim
theorem le_compK {elt : Expr} {ifs : List Expr} {scope : Scope} {own : List (Str × Nat)} {w : DI} {t : Tg} {cond : DB} {f : DE} {tg : Expr} {pos : Pos} (hc : HotC X) (hN : X.N.Nodup) (hi : PIK X tg e (LI C E w)) (ok : BlkOk X.N X.env.scope scope own) (ht : ∀ i ∈ t.slots, i ∈ own.map (·.2))
    (hg : ∀ (s : Shared) (H : Hp) (c : Addr) (cl : List (Str × Addr)) (fp : List Addr), HotK (X.blk s H scope (compEnvC scope cl c X.env) fp) → PG (X.blk s H scope (compEnvC scope cl c X.env) fp) tg (LG C t.slots (setTg t)))
    (hq : ∀ (s : Shared) (H : Hp) (c : Addr) (cl : List (Str × Addr)) (fp : List Addr), HotK (X.blk s H scope (compEnvC scope cl c X.env) fp) → PTs (X.blk s H scope (compEnvC scope cl c X.env) fp) ifs (LT C E0 cond))
    (he : ∀ (s : Shared) (H : Hp) (c : Addr) (cl : List (Str × Addr)) (fp : List Addr), HotK (X.blk s H scope (compEnvC scope cl c X.env) fp) → PE (X.blk s H scope (compEnvC scope cl c X.env) fp) elt (LE C E0 f)) (hs : ∀ x, foldedSetIterable e X.env x = pure x) :
    PE X (.ListComp elt [⟨tg, e, ifs, 0⟩] scope pos) (LE C E (evComp w t (own.map (·.2)) cond f)) := PEimp (pe_lcK hc hN hi ok hg hq he hs) fun _ _ _ q => comp_m ht q
theorem lg_tupK {ts : List Tg} {es : List Expr} {k : Nat} {pos : Pos} (hk : C.K = X.K) (hc : HotK X) (h : PGs X es (LGs C (Tg.slots.Tgs.slots ts) (setTg.setTgs ts))) (hn : (assignEach es X.env).length = ts.length) (hst : (assignEach es X.env).findIdx? (·.1) = none) :
    PG X (.Tuple es k pos) (LG C (Tg.slots (.tp ts)) (setTg (.tp ts))) := by
  refine PGimp (pg_tupK hc h hn hst) fun v σ H Q q => ?_
  obtain ⟨d, σd, S, fa, σd', p, rs, r, e, q⟩ := q
  cases d with
  | tup ds =>
    cases p with
    | @tup _ a vs p ps =>
      rw [hk] at p
      exact ⟨a, vs, rfl, p, by rw [← ps.length]; exact setTgs_len e, ds, σd, S, fa, σd', ps, rs, r, e, q⟩
  | _ => cases e
end
end DV

end
section
set_option Elab.async false
set_option linter.all false
set_option maxRecDepth 100000
set_option maxHeartbeats 4000000
set_option autoImplicit false
/-! The deep layer, part V: x(lambda: e), what the lambda's body raises having no context. -/
namespace DV
open PySem PySem.Spec PyProof.Rows L2 LamX
theorem Inv.rewish {X : Cx} {pins : List (Addr × Obj)} {σ : L2.St} {H : Hp} {s : Shared} {xe : Value → Shared → Prop} (I : Inv X pins σ H s) : Inv { X with xe := xe } pins σ H s := Inv.unwish (X := { X with xe := xe }) (E := X.xe) I
theorem takes0N {X : Cx} : L2N.Takes X (fun _ _ _ _ => False) := fun _ _ x => by
  obtain ⟨_, _, _, _, _, _, _, _, _, _, _, _, _, _, _, _, z⟩ := x
  exact z.elim
def lamCxN (X : Cx) (A : Around) (outer : List PySem.Env) (s : Shared) (H : Hp) (E : XK) (scope : Scope) (f c' : Addr) : Cx :=
  { lamCx X A outer s H E scope f c' with
    xe := fun e s' => wpAny (model X.prog X.w) (A.deeper (lamEnv X scope s.heap.objs.size f c')) (leaving (lamEnv X scope s.heap.objs.size f c') e) (fun _ s'' => L2N.CX X.prog X.w outer H s E e s'') (fun e' s'' => L2N.CX X.prog X.w outer H s E e' s'') s' }
abbrev CtxG (X : Cx) (Ng : List Str) (x : Str) (sg : Scope) (g : Addr) (cdg : Value) (s : Shared) (H : Hp) : Cx := cxOf C8.CX0 X.prog X.w X.K X.mg X.base Ng x sg g cdg X.A X.stack s H C8.E0
section
variable {X : Cx} {pins : List (Addr × Obj)} {σ : L2.St} {H HZ : Hp} {s s1 : Shared}
/-- x(), in the def that got the lambda -/
theorem pe_actN {Ng : List Str} {qg : Str} {sg : Scope} {g f c' : Addr} {cdg pm ctv : Value} {params : Arguments} {body : Expr} {scope : Scope} {k i : Nat} {a : Str} {pn : List (Addr × Obj)} {xe : Value → Shared → Prop} {W : WX} {E : XK} {tb : TE} {p1 p2 : Pos}
    (I : Inv X pins σ H s) (L : LamS X.env.scope scope) (hf : s.heap.get? f = some (PySem.W.kla_obj "<lambda>" (X.env.qual ++ "<lambda>") params body scope (cloFrom X.env.cells scope.names []) pm c' ctv)) (hfn : H f = none) (hfr : f ∉ frs X.stack)
    (hbind : bindArgs (PySem.W.kla_fn "<lambda>" (X.env.qual ++ "<lambda>") params body scope (cloFrom X.env.cells scope.names []) pm (.ref c') ctv) ⟨[], []⟩ = pure [])
    (tk : L2N.Takes ((CtxG X Ng qg sg g cdg s H).tr pn xe) W) (hr : Room (k + 1) (X.A.deeper (envOfC qg sg s.heap.objs.size g cdg)))
    (hbody : ∀ (A : Around) (outer : List PySem.Env) (s : Shared) (H : Hp), Room k (A.deeper (lamEnv X scope s.heap.objs.size f c')) → PE (lamCxN X A outer s H E scope f c') body tb)
    (hN : Ng[i]? = some a) (hv : Vis sg a) (hd : (a == ("__debug__" : Str)) = false) (hcd : (a == ("__classdict__" : Str)) = false) :
    PE ((CtxG X Ng qg sg g cdg s H).tr pn xe) (.Call (.Name a p1) [] [] p2)
      (fun σZ HZ Q => (∀ cls d H', E cls d H' → W cls d σZ H') ∧ σZ[i]? = some (some (.ref f)) ∧ HZ c' = some (CodeO c' (X.env.qual ++ "<lambda>")) ∧ tb σ HZ Q) := by
  refine ⟨fun pinsZ sZ σZ HZ Q IZ h => ?_⟩
  obtain ⟨hW, hs, hc, ht⟩ := h
  refine wpAny_Call_Name_kw (thn ((pe_var (pos := p1) (i := i) hN hv hd hcd).run pinsZ sZ σZ HZ (fun v H1 => v = .ref f ∧ H1 = HZ) IZ ⟨.ref f, hs, rfl, rfl⟩) fun u s1 ⟨v, H1, I1, r1, q1⟩ => ?_)
  obtain ⟨ev, eH⟩ := q1
  subst ev
  rw [eH] at I1
  obtain rfl : u = Value.ref f := r1
  have of1 : s1.heap.get? f = some (PySem.W.kla_obj "<lambda>" (X.env.qual ++ "<lambda>") params body scope (cloFrom X.env.cells scope.names []) pm c' ctv) := I1.base.keep f _ hf hfn hfr (fun z => nomatch (show f ∈ ([] : List Addr) from z))
  refine PySem.W.callWith_F0 ⟨_, _, _, _, of1⟩ ?_
  have un : Un (frs X.stack) [] H HZ s.heap s1.heap := I1.base
  obtain ⟨⟨oc, vs, t, hoc, hdc, hvc⟩, _, _⟩ := I1.hok c' _ hc
  have rc : codeAny (model X.prog X.w) (X.A.deeper (envOfC qg sg s.heap.objs.size g cdg)) (.call (.ref f) ⟨[], []⟩) (CR (L2N.CX X.prog X.w) (envOfC qg sg s.heap.objs.size g cdg :: X.stack) X.prog X.w HZ s1 Q E) s1 := by
    refine PySem.W.kla_callFunE hr.depth of1 rfl L.co L.gen rfl ⟨c', oc, vs, t, rfl, hoc, hdc, hvc⟩ ?_
    rw [hbind]
    refine wpAny_pure (wpAny_newFunctionEnv (fun y hy => (L.own y hy).2) (fun y hy => absurd hy (by simp)) (fun h₁ hns hsb => ⟨I1.nolimit.fresh _ hsb, ?_⟩) L.kind)
    show codeAny _ _ (.expr body (lamEnv X scope s1.heap.objs.size f c')) _ _
    have kp : ∀ b o, s1.heap.get? b = some o → h₁.get? b = some o := fun b o e => hsb.extBut b o (Nat.ne_of_lt (Heap.lt_size e)) (Heap.get?_push_of_some _ e)
    have J : Inv (lamCxN X (X.A.deeper (envOfC qg sg s.heap.objs.size g cdg)) (envOfC qg sg s.heap.objs.size g cdg :: X.stack) s1 HZ E scope f c') [] σ HZ { s1 with heap := h₁, toks := s1.toks + ([] : List (Str × Value)).length } :=
by
      have J0 := lam_start2 (E := E) (f := f) (c' := c') (A := X.A.deeper (envOfC qg sg s.heap.objs.size g cdg)) (outer := envOfC qg sg s.heap.objs.size g cdg :: X.stack) (tk := s1.toks + ([] : List (Str × Value)).length) I L I1.env0 hr.hd un hns kp
      exact Inv.rewish J0
    refine PySem.W.kla_codeExpr (wpAny_mono ((hbody _ _ s1 HZ (hr.deeper _)).run [] _ _ HZ Q J ht) (fun v s' hq => ?_) fun e s' hq => hq)
    obtain ⟨w', H', J', rv, q⟩ := hq
    exact ⟨w', H', J'.os, J'.bare, J'.base, J'.hok, rv, q⟩
  refine wpAny_call (codeAny_mono rc fun r s' hq => ?_)
  cases r with
  | error e => exact tk _ _ (L2N.XE.of_call I1 (fun cls d H' h => hW cls d H' h) hq)
  | ok fl =>
    cases fl with
    | ret u => exact I1.after hq
    | next => exact False.elim hq
    | brk => exact False.elim hq
    | cont => exact False.elim hq
end
/-- the def that calls what it got -/
def GivesToN (X : Cx) (Ng : List Str) (x : Str) (sg : Scope) (g : Addr) (cdg : Value) (bg : List Stmt) (a : Str) (q : Str) (k : Nat) (TT : (XK → Hp → VK → Prop) → Hp → VK → Prop) : Prop :=
  ∀ (f c' : Addr) (s : Shared) (H : Hp) (Q : VK) (tl : XK → Hp → VK → Prop), Room (k + 1) (CtxG X Ng x sg g cdg s H).A →
    (∀ (W : WX) (pn : List (Addr × Obj)) (xe : Value → Shared → Prop) (E : XK) (p1 p2 : Pos), L2N.Takes ((CtxG X Ng x sg g cdg s H).tr pn xe) W →
      PE ((CtxG X Ng x sg g cdg s H).tr pn xe) (.Call (.Name a p1) [] [] p2) (fun σZ HZ Q => (∀ cls d H', E cls d H' → W cls d σZ H') ∧ σZ[0]? = some (some (.ref f)) ∧ HZ c' = some (CodeO c' q) ∧ tl E HZ Q)) →
    H c' = some (CodeO c' q) → TT tl H Q →
    ∃ t, PSs (CtxG X Ng x sg g cdg s H).nox bg t ∧ t { nx := fun _ H' => Q .non H', rt := Q } (L2.start Ng [.ref f]) H
section
variable {X : Cx}
/-- x(lambda: body) -/
theorem pe_lamcallN {T : List (Addr × Str)} {TT : (XK → Hp → VK → Prop) → Hp → VK → Prop} {x a : Str} {g c P : Addr} {k : Nat} {pg : Arguments} {bg : List Stmt} {sg : Scope} {dV kV doc pm cdv ct oc : Value} {an od : Option Addr} {osl : Array (Option Value)} {Ng : List Str}
    {params : Arguments} {body : Expr} {scope : Scope} {t : XK → TE} {p lpos pos : Pos} (hg : Gl X x) (hm : X.mg x = some (.ref g)) (hk : PySem.W.keepIn X.K (.ref g) = true)
    (lk : X.K.lookup g = some ⟨oc, od, .func (PySem.W.fnOf x x pg bg sg dV kV doc pm an cdv ct), osl⟩) (hcg : PySem.W.codeIn X.K cdv x = true) (hb : L2.Binds X.K (PySem.W.fnOf x x pg bg sg dV kV doc pm an cdv ct) [a] []) (Sg : FnScope Ng [a] sg) (hNg : Ng[0]? = some a) (hva : Vis sg a)
    (hG : GivesToN X Ng x sg g cdv bg a (X.env.qual ++ "<lambda>") k TT)
    (TB : TabB X.base X.mg c P) (hcode : X.env.code = .ref c) (hmT : (P, X.env.qual ++ "<lambda>") ∈ T) (hu : ∀ p ∈ T, p.1 = P → p.2 = X.env.qual ++ "<lambda>") (hr : Room (k + 2) X.A) (L : LamS X.env.scope scope) (hdef : defaultsOf params X.env = ([], []))
    (hbind : ∀ (q : Str) (cl : List (Str × Addr)) (pm cv ctv : Value), bindArgs (PySem.W.kla_fn "<lambda>" q params body scope cl pm cv ctv) ⟨[], []⟩ = pure [])
    (hbody : ∀ (A : Around) (outer : List PySem.Env) (s : Shared) (H : Hp) (E : XK) (f c' : Addr), Room k (A.deeper (lamEnv X scope s.heap.objs.size f c')) → PE (lamCxN X A outer s H E scope f c') body (t E))
    (hdb : (x == ("__debug__" : Str)) = false) (hd : (a == ("__debug__" : Str)) = false) (hcd : (a == ("__classdict__" : Str)) = false) :
    PE X (.Call (.Name x p) [.Lambda params body scope lpos] [] pos) (tLam T TT t) := by
  refine ⟨fun pins s σ H Q I h => ?_⟩
  obtain ⟨hT, h⟩ := h
  refine wpAny_Call_Name_kw (ld_glob I hg hm ?_ hdb)
  refine PySem.W.callWith_K (h₀ := X.base) I.ok.mod.kin hk ?_ (by rfl) (by rfl)
  show wpAny _ _ (spliced ((false, eval (.Lambda params body scope lpos) X.env) :: backTo pos (starEach [] X.env))) _ _ s
  refine Calls.spliced_cons (lam_make2 I TB hcode hmT hu hT hdef (L.has I.ok) fun f c' pm' ctv H1 s' I1 eN T1 hf hfn hfr hco => ?_)
  refine Calls.spliced_nil ⟨I1.kIn, ?_⟩
  have rc : codeAny (model X.prog X.w) X.A (.call (.ref g) ⟨[.ref f], []⟩) (CR C8.CX0 X.stack X.prog X.w H1 s' Q C8.E0) s' := by
    refine run_ofS (N := Ng) (ps := [a]) (us := [.ref f]) (vs := [.ref f]) lk hcg Sg hr I1.env0 (hb s' [.ref f] I1.kIn rfl) (.cons rfl .nil) rfl fun hr' => ?_
    obtain ⟨t', ht', hq'⟩ := hG f c' s' H1 Q (fun E H' Q' => t E σ H' Q') hr' (fun W pn xe E p1 p2 tk => pe_actN (i := 0) I1 L hf hfn hfr (hbind _ _ _ _ _) tk hr' (fun A outer s H hr2 => hbody A outer s H E f c' hr2) hNg hva hd hcd) hco (h H1 eN T1)
    exact ⟨t', ht'.nox, hq'⟩
  refine wpAny_call (codeAny_mono rc fun r s2 hq => ?_)
  cases r with
  | error e => exact (show False from hq).elim
  | ok fl =>
    cases fl with
    | ret u => exact I1.after hq
    | next => exact False.elim hq
    | brk => exact False.elim hq
    | cont => exact False.elim hq
end
end DV

end
section
set_option Elab.async false
set_option linter.all false
set_option maxRecDepth 100000
set_option maxHeartbeats 4000000
set_option autoImplicit false
/-! The deep layer, part K: a small language of its own, what it means, and how a def's text is turned into it. -/
namespace DV
open PySem PySem.Spec PyProof.Rows L2
inductive BK where
  | add | sub | mul | fdiv | mod | pow
inductive CK where
  | eq | ne | lt | le | gt | ge | isin | notin
inductive FK where
  | len | abs | max | min | sum | all | any | int | str | bool | list | tuple
inductive MK where
  | join | split
mutual
inductive ME where
  | var (i : Nat)
  | con (d : D)
  | bin (k : BK) (a b : ME)
  | neg (a : ME)
  | not (a : ME)
  | and (a b : ME)
  | or (a b : ME)
  | ite (t a b : ME)
  | cmp (k : CK) (a b : ME)
  | chain (k l : CK) (a b c : ME)
  | isN (neg : Bool) (a : ME)
  | tup (es : MEs)
  | lst (es : MEs)
  | idx (a b : ME)
  | slc (a : ME) (lo hi : MO)
  | blt (k : FK) (es : MEs)
  | isi (T : Ty) (a : ME)
  | isi2 (T U : Ty) (a : ME)
  | app (o e : ME)
  | mt1 (k : MK) (o e : ME)
  | call (x : Str) (es : MEs)
  | callL (i : Nat) (es : MEs)
  | comp (w : MW) (t : Tg) (vs : List Nat) (cond : MO) (elt : ME)
  | told (e : ME)
  | isX (tab : List (Str × Bool)) (a : ME)
inductive MEs where
  | nil
  | cons (e : ME) (es : MEs)
inductive MO where
  | none
  | some (e : ME)
inductive MW where
  | val (e : ME)
  | range1 (a : ME)
  | range2 (a b : ME)
  | enum (a : ME)
  | zip (a b : ME)
  | zipL (a b : ME)
end
def MEs.len : MEs → Nat
  | .nil => 0
  | .cons _ es => es.len + 1
def BK.f : BK → D → D → Sto → Res D
  | .add => addD
  | .sub => subD
  | .mul => mulD
  | .fdiv => fdivD
  | .mod => modD
  | .pow => powD
def CK.f : CK → D → D → Sto → Res D
  | .eq => eqD
  | .ne => neD
  | .lt => ltD
  | .le => leD
  | .gt => gtD
  | .ge => geD
  | .isin => inB false
  | .notin => inB true
def FK.f : FK → List D → Sto → Res D
  | .len => lenD
  | .abs => absD
  | .max => maxD
  | .min => minD
  | .sum => sumD
  | .all => allD
  | .any => anyD
  | .int => intD
  | .str => strD
  | .bool => boolD
  | .list => listD
  | .tuple => tupleD
def MK.f : MK → Str → D → Sto → Res D
  | .join => joinD
  | .split => splitD
/-- the defs: how many arguments, what they do -/
abbrev Tab := Str → Option (Nat × Den)
def Tab.of (Φ : Tab) (n : Nat) (x : Str) : Option Den := match Φ x with
  | some (m, den) => if m = n then some den else none
  | none => none
/-- the errors that bear nothing -/
def plainK : List Str := ["InvalidPlan", "InvalidBalls", "InvalidRounds", "InvalidJuggler", "InvalidSlip", "InvalidNumber", "InvalidRound", "InvalidIndex", "NotLasting", "Unlike", "NothingToUndo"]
def plus : Str := Str.ofString " +"
/-- _law_call(lambda: e): the words of an error's classes -/
def toldD (r : Res D) : Res D := match r with
  | .ok d S => .ok (.tup [.str "told", d]) S
  | .exc x none S => if x ∈ plainK then .ok (.tup [.str (x ++ plus)]) S else .bad
  | _ => .bad
mutual
noncomputable def evE (Φ : Tab) : ME → DE
  | .var i => evVar i
  | .con d => evCon d
  | .bin k a b => fun σ S => (evE Φ a σ S).bind fun d S1 => (evE Φ b σ S1).bind fun e S2 => k.f d e S2
  | .neg a => fun σ S => (evE Φ a σ S).bind fun d S1 => negD d S1
  | .not a => evNot (evE Φ a)
  | .and a b => evAnd (evE Φ a) (evE Φ b)
  | .or a b => evOr (evE Φ a) (evE Φ b)
  | .ite t a b => evIf (evE Φ t) (evE Φ a) (evE Φ b)
  | .cmp k a b => fun σ S => (evE Φ a σ S).bind fun d S1 => (evE Φ b σ S1).bind fun e S2 => k.f d e S2
  | .chain k l a b c => evChain k.f l.f (evE Φ a) (evE Φ b) (evE Φ c)
  | .isN n a => evIs n (evE Φ a)
  | .tup es => evTup (evEs Φ es)
  | .lst es => evLst (evEs Φ es)
  | .idx a b => fun σ S => (evE Φ a σ S).bind fun d S1 => (evE Φ b σ S1).bind fun e S2 => idxD d e S2
  | .slc a lo hi => fun σ S => (evE Φ a σ S).bind fun d S1 => (evO Φ lo σ S1).bind fun l S2 => (evO Φ hi σ S2).bind fun u S3 => slD d l u S3
  | .blt k es => fun σ S => (evEs Φ es σ S).bind k.f
  | .isi T a => evIsi T (evE Φ a)
  | .isi2 T U a => evIsi2 T U (evE Φ a)
  | .app o e => evApp (evE Φ o) (evE Φ e)
  | .mt1 k o e => evMt1 k.f (evE Φ o) (evE Φ e)
  | .call x es => match Φ.of es.len x with
    | some den => fun σ S => (evEs Φ es σ S).bind den
    | none => fun _ _ => .bad
  | .callL i es => evCallL (Φ.of es.len) i (evEs Φ es)
  | .comp w t vs cond elt => evComp (evW Φ w) t vs (evC Φ cond) (evE Φ elt)
  | .told e => fun σ S => toldD (evE Φ e σ S)
  | .isX tab a => evIsX tab (evE Φ a)
noncomputable def evEs (Φ : Tab) : MEs → DEs
  | .nil => evNil
  | .cons e es => evCons (evE Φ e) (evEs Φ es)
noncomputable def evO (Φ : Tab) : MO → DO
  | .none => poNone
  | .some e => poSome (evE Φ e)
noncomputable def evC (Φ : Tab) : MO → DB
  | .none => fun _ S => .ok true S
  | .some e => evT (evE Φ e)
noncomputable def evW (Φ : Tab) : MW → DI
  | .val e => evWalk (evE Φ e)
  | .range1 a => fun σ S => (evCons (evE Φ a) evNil σ S).bind range1D
  | .range2 a b => fun σ S => (evCons (evE Φ a) (evCons (evE Φ b) evNil) σ S).bind range2D
  | .enum a => fun σ S => (evE Φ a σ S).bind enumD
  | .zip a b => fun σ S => (evE Φ a σ S).bind fun d S1 => (evE Φ b σ S1).bind fun e S2 => zipD d e S2
  | .zipL a b => fun σ S => (evE Φ a σ S).bind fun d S1 => (evE Φ b σ S1).bind fun e S2 => zipLD d e S2
end
inductive MS where
  | asg (t : Tg) (e : ME)
  | sub (o i e : ME)
  | sub2 (o i p j e : ME)
  | par (i j : Nat) (a b : ME)
  | expr (e : ME)
  | ret (e : ME)
  | retN
  | pass
  | brk
  | cont
  | ifS (t : ME) (a b : List MS)
  | whS (t : ME) (a : List MS)
  | forS (t : Tg) (w : MW) (a : List MS)
  | raise (x : Str)
  | never
mutual
noncomputable def evS (Φ : Tab) : MS → DS
  | .asg t e => svAsg (evE Φ e) t
  | .sub o i e => svSub (evE Φ e) (evE Φ o) (evE Φ i)
  | .sub2 o i p j e => svSub2 (evE Φ e) (evE Φ o) (evE Φ i) (evE Φ p) (evE Φ j)
  | .par i j a b => svPar i j (evE Φ a) (evE Φ b)
  | .expr e => svExpr (evE Φ e)
  | .ret e => svRet (evE Φ e)
  | .retN => svRetN
  | .pass => svNil
  | .brk => svBrk
  | .cont => svCont
  | .ifS t a b => svIf (evE Φ t) (evSs Φ a) (evSs Φ b)
  | .whS t a => svWh (evE Φ t) (evSs Φ a)
  | .forS t w a => svFor (evW Φ w) t (evSs Φ a)
  | .raise x => svRaise x
  | .never => fun _ _ => .bad
noncomputable def evSs (Φ : Tab) : List MS → DS
  | [] => svNil
  | s :: ss => svSeq (evS Φ s) (evSs Φ ss)
end
/-- a def: its arguments in the first slots -/
noncomputable def denOf (Φ : Tab) (np ns : Nat) (body : List MS) : Den := fun ds S => if ds.length = np then (evSs Φ body (ds.map some ++ List.replicate (ns - np) none) S).bind fun fl S1 => match fl with
    | .rt d => .ok d S1
    | .nx _ => .ok .non S1
    | _ => .bad
  else .bad
end DV

end
section
set_option Elab.async false
set_option linter.all false
set_option maxRecDepth 100000
set_option maxHeartbeats 4000000
set_option autoImplicit false
/-! The deep layer, part L: the text turned into the small language. -/
namespace DV
open PySem PySem.Spec PyProof.Rows L2
structure GE where
  N : List Str
  consts : List (Str × D)
  fns : List Str
  excs : List Str
  told : Bool
  isx : List (Str × List (Str × Bool)) := []
  hot : Bool := false
  hcomp : Bool := false
def slotOf : List Str → Str → Option Nat
  | [], _ => none
  | y :: ys, x => if y = x then some 0 else match slotOf ys x with
    | some i => some (i + 1)
    | none => none
theorem slotOf_ok : ∀ {N : List Str} {x : Str} {i : Nat}, slotOf N x = some i → N[i]? = some x
  | [], _, _, e => by cases e
  | y :: ys, x, i, e => by
    simp only [slotOf] at e
    split at e
    · rename_i h
      cases e
      rw [h]
      rfl
    · split at e
      · rename_i j hj
        cases e
        have z := slotOf_ok hj
        show (y :: ys)[j + 1]? = some x
        rw [List.getElem?_cons_succ]
        exact z
      · cases e
def visB (sc : Scope) (x : Str) : Bool := match sc.names.lookup x with
  | some .local => true
  | some .cell => true
  | some .free => true
  | _ => false
def glB (sc : Scope) (x : Str) : Bool := match sc.names.lookup x with
  | some .globalImplicit => true
  | _ => false
def okNm (x : Str) : Bool := !(x == ("__debug__" : Str)) && (!(x == ("__classdict__" : Str)) && !decide (x = ("__name__" : Str)))
theorem visB_ok {sc : Scope} {x : Str} (h : visB sc x = true) : Vis sc x := by
  unfold visB at h
  split at h
  · exact .inl (by assumption)
  · exact .inr (.inl (by assumption))
  · exact .inr (.inr (by assumption))
  · cases h
theorem glB_ok {sc : Scope} {x : Str} (h : glB sc x = true) : sc.names.lookup x = some .globalImplicit := by
  unfold glB at h
  split at h
  · assumption
  · cases h
theorem okNm_ok {x : Str} (h : okNm x = true) : (x == ("__debug__" : Str)) = false ∧ (x == ("__classdict__" : Str)) = false ∧ x ≠ ("__name__" : Str) := by
  unfold okNm at h
  simp only [Bool.and_eq_true, Bool.not_eq_true', decide_eq_false_iff_not] at h
  exact h
def notStar : Expr → Bool
  | .Starred _ _ => false
  | _ => true
theorem star_cons {e : Expr} {es : List Expr} {env : PySem.Env} (h : notStar e = true) : starEach (e :: es) env = (false, eval e env) :: starEach es env := by
  cases e <;> first | rfl | cases h
theorem star_all {es : List Expr} {env : PySem.Env} {pos : Pos} (h : es.all notStar = true) : (backTo pos (starEach es env)).any (·.1) = false := by
  induction es with
  | nil => rfl
  | cons e es ih =>
    rw [List.all_cons, Bool.and_eq_true] at h
    rw [star_cons h.1]
    show (false || (backTo pos (starEach es env)).any (·.1)) = false
    rw [ih h.2]
    rfl
def plainT : Expr → Bool
  | .UnaryOp .Not _ _ => false
  | .BoolOp _ _ _ => false
  | .IfExp _ _ _ _ => false
  | .Compare _ _ _ _ => false
  | _ => true
theorem plainT_ok {e : Expr} {env : PySem.Env} (h : plainT e = true) : ∀ whole, isTrue e env whole = (do let v ← whole; standAt e.pos; holding [v] (truthy v)) := by
  intro whole
  cases e with
  | UnaryOp op a p => cases op <;> first | rfl | cases h
  | _ => first | rfl | cases h
def testable : Expr → Bool
  | .IfExp _ _ _ _ => false
  | _ => true
def plainIxB : Expr → Bool
  | .Slice _ _ _ _ => false
  | _ => true
theorem plainIxB_ok {e : Expr} (h : plainIxB e = true) : PlainIx e := by
  intro o i
  cases e <;> first | rfl | cases h
def baseB : Expr → Bool
  | .Call (.Name _ _) [] [] _ => false
  | _ => true
theorem baseB_ok {o : Expr} {x : Str} {env : PySem.Env} (h : baseB o = true) : attributeBase o x env (eval o env) = eval o env := by
  cases o with
  | Call f as ks p =>
    cases f with
    | Name y q =>
      cases as with
      | nil =>
        cases ks with
        | nil => cases h
        | cons _ _ => rfl
      | cons _ _ => rfl
    | _ => rfl
  | _ => rfl
def notSet : Expr → Bool
  | .Set _ _ _ => false
  | _ => true
theorem notSet_ok {e : Expr} {env : PySem.Env} (h : notSet e = true) : ∀ x, foldedSetIterable e env x = pure x := by
  intro x
  cases e <;> first | rfl | cases h
def notComp : Expr → Bool
  | .ListComp _ _ _ _ => false
  | .SetComp _ _ _ _ => false
  | .DictComp _ _ _ _ _ => false
  | _ => true
theorem notComp_ok {e : Expr} {t : Option Expr} {l : Nat} {env : PySem.Env} (h : notComp e = true) : swapsWith e t l env = pure false := by
  cases e <;> first | rfl | cases h
/-- how stores are exchanged -/
def lineOf (ts : List Expr) : Nat := (ts.head?.map (·.pos.line)).getD 0
def namesOn (sc : Scope) (line : Nat) (ts : List Expr) : List Str := ts.filterMap fun
  | .Name id pos => if sc.names.lookup id == some .local && pos.line == line then some id else none
  | _ => none
def swP (sc : Scope) (ts vs : List Expr) : Option (Option (List Str)) :=
  if (!(ts.length == 2 || ts.length == 3) || vs.length != ts.length) = true then some none
  else if (vs.any fun | .Starred .. => true | _ => false) = true then some none
  else if ((namesOn sc (lineOf ts) ts).length != ts.length || (namesOn sc (lineOf ts) ts).eraseDups.length != (namesOn sc (lineOf ts) ts).length) = true then some none
  else if vs.all (foldedForSure 8) = true then some none
  else if vs.all (constantsAlone 8) = true then none
  else some (some (namesOn sc (lineOf ts) ts))
theorem swP_ok {ts vs : List Expr} {k k2 : Nat} {p p2 : Pos} {env : PySem.Env} {r : Option (List Str)} (hb : env.blockKind = .function) (h : swP env.scope ts vs = some r) : swappedStores [.Tuple ts k p] (.Tuple vs k2 p2) env = pure r := by
  unfold swP at h
  unfold swappedStores
  simp only [hb]
  split at h
  · rename_i h1
    cases h
    refine if_pos ?_
    rw [h1]
    rfl
  · rename_i h1
    refine (if_neg ?_).trans ?_
    · intro z
      rw [Bool.or_eq_true] at z
      rcases z with z | z
      · exact h1 z
      · cases z
    split at h
    · rename_i h2
      cases h
      exact if_pos h2
    · rename_i h2
      refine (if_neg h2).trans ?_
      split at h
      · rename_i h3
        cases h
        exact if_pos h3
      · rename_i h3
        refine (if_neg h3).trans ?_
        split at h
        · rename_i h4
          cases h
          exact if_pos h4
        · rename_i h4
          refine (if_neg h4).trans ?_
          split at h
          · cases h
          · rename_i h5
            cases h
            exact if_neg h5
/-- no stores are exchanged -/
def swS (sc : Scope) (ts : List Expr) (e : Expr) : Bool := match e with
  | .Tuple vs _ _ => match swP sc ts vs with
    | some none => true
    | _ => false
  | _ => true
theorem swS_ok {ts : List Expr} {e : Expr} {k : Nat} {p : Pos} {env : PySem.Env} (hb : env.blockKind = .function) (h : swS env.scope ts e = true) : swappedStores [.Tuple ts k p] e env = pure none := by
  unfold swS at h
  split at h
  · split at h
    · rename_i hh
      exact swP_ok hb hh
    · cases h
  · unfold swappedStores
    rename_i hne
    cases e with
    | Tuple vs k2 p2 => exact absurd rfl (hne vs k2 p2)
    | _ => rfl
def BK.of : Operator → Option BK
  | .Add => some .add
  | .Sub => some .sub
  | .Mult => some .mul
  | .FloorDiv => some .fdiv
  | .Mod => some .mod
  | .Pow => some .pow
  | _ => none
def CK.of : CmpOp → Option CK
  | .Eq => some .eq
  | .NotEq => some .ne
  | .Lt => some .lt
  | .LtE => some .le
  | .Gt => some .gt
  | .GtE => some .ge
  | .In => some .isin
  | .NotIn => some .notin
  | _ => none
def FK.nm : FK → String
  | .len => "len"
  | .abs => "abs"
  | .max => "max"
  | .min => "min"
  | .sum => "sum"
  | .all => "all"
  | .any => "any"
  | .int => "int"
  | .str => "str"
  | .bool => "bool"
  | .list => "list"
  | .tuple => "tuple"
def FK.allK : List FK := [.len, .abs, .max, .min, .sum, .all, .any, .int, .str, .bool, .list, .tuple]
def FK.of (x : Str) : Option FK := FK.allK.find? fun k => decide (Str.ofString k.nm = x)
theorem FK.of_ok {x : Str} {k : FK} (h : FK.of x = some k) : x = Str.ofString k.nm := by
  have z := List.find?_some h
  exact (of_decide_eq_true z).symm
def Ty.allT : List Ty := [.int, .bool, .str, .tup, .lst]
def Ty.of (x : Str) : Option Ty := Ty.allT.find? fun k => decide (Str.ofString k.nm = x)
theorem Ty.of_ok {x : Str} {k : Ty} (h : Ty.of x = some k) : x = Str.ofString k.nm := by
  have z := List.find?_some h
  exact (of_decide_eq_true z).symm
/-- a name that is read -/
def cName (G : GE) (sc : Scope) (x : Str) : Option ME := if okNm x = true then
    if visB sc x = true then match slotOf G.N x with
      | some i => some (.var i)
      | none => none
    else if glB sc x = true then match G.consts.lookup x with
      | some d => some (.con d)
      | none => if G.fns.contains x = true then some (.con (.fn x)) else none
    else none
  else none
def cBool (f : Expr → Option ME) (op : BoolOp) : List Expr → Option ME
  | [] => none
  | [a] => if testable a = true then f a else none
  | a :: b :: r => if testable a = true then match f a, cBool f op (b :: r) with
      | some x, some y => match op with
        | .And => some (.and x y)
        | .Or => some (.or x y)
      | _, _ => none
    else none
def cCmp (f : Expr → Option ME) (a : Expr) : List CmpOp → List Expr → Option ME
  | [.Is], [.Constant .none _ _] => match f a with
    | some x => some (.isN false x)
    | none => none
  | [.IsNot], [.Constant .none _ _] => match f a with
    | some x => some (.isN true x)
    | none => none
  | [op], [b] => if behindInMarks op b = true then none else match CK.of op, f a, f b with
    | some k, some x, some y => some (.cmp k x y)
    | _, _, _ => none
  | [o1, o2], [b, c] => if lastMarks [o1, o2] [b, c] = true then none else match CK.of o1, CK.of o2, f a, f b, f c with
    | some k, some l, some x, some y, some z => some (.chain k l x y z)
    | _, _, _, _, _ => none
  | _, _ => none
def cArgs (f : Expr → Option ME) : List Expr → Option MEs
  | [] => some .nil
  | e :: es => if notStar e = true then match f e, cArgs f es with
      | some x, some xs => some (.cons x xs)
      | _, _ => none
    else none
def cOpt (f : Expr → Option ME) : Option Expr → Option MO
  | none => some .none
  | some e => match f e with
    | some x => some (.some x)
    | none => none
/-- a target: names that may be stored (wsc: the scope that says so) -/
def wrB (wsc : Scope) (x : Str) : Bool := match wsc.names.lookup x with
  | some .local => true
  | some .cell => true
  | _ => false
def cTgs (f : Expr → Option Tg) : List Expr → Option (List Tg)
  | [] => some []
  | e :: es => if notStar e = true then match f e, cTgs f es with
      | some t, some ts => some (t :: ts)
      | _, _ => none
    else none
def cTg (G : GE) (wsc : Scope) : Nat → Expr → Option Tg
  | 0, _ => none
  | n + 1, e => match e with
    | .Name x _ => if (okNm x && wrB wsc x) = true then match slotOf G.N x with
        | some i => some (.nm i)
        | none => none
      else none
    | .Tuple es _ _ => match cTgs (cTg G wsc n) es with
      | some ts => some (.tp ts)
      | none => none
    | _ => none
/-- what is walked -/
def isTup : Expr → Bool
  | .Tuple _ _ _ => true
  | _ => false
def cWalk (f : Expr → Option ME) (sc : Scope) (tg : Expr) (e : Expr) : Option MW := match e with
  | .Call (.Name x _) [a] [] _ => if (glB sc x && decide (x = Str.ofString "range") && notStar a) = true then match f a with
        | some m => some (.range1 m)
        | none => none
      else if (glB sc x && decide (x = Str.ofString "enumerate") && notStar a && isTup tg) = true then match f a with
        | some m => some (.enum m)
        | none => none
      else match f e with
        | some m => some (.val m)
        | none => none
  | .Call (.Name x _) [a, b] [] _ => if (glB sc x && decide (x = Str.ofString "range") && notStar a && notStar b) = true then match f a, f b with
        | some m, some k => some (.range2 m k)
        | _, _ => none
      else if (glB sc x && decide (x = Str.ofString "zip") && notStar a && notStar b && isTup tg) = true then match f a, f b with
        | some m, some k => some (.zip m k)
        | _, _ => none
      else match f e with
        | some m => some (.val m)
        | none => none
  | e => match f e with
    | some m => some (.val m)
    | none => none
def ownOf (G : GE) : List (Str × NameKind) → List (Str × Nat)
  | [] => []
  | (x, k) :: r => match k, slotOf G.N x with
    | .local, some i => (x, i) :: ownOf G r
    | .cell, some i => (x, i) :: ownOf G r
    | _, _ => ownOf G r
def cComp (G : GE) (f fi : Expr → Option ME) (sc : Scope) (elt tg it : Expr) (ifs : List Expr) (scope : Scope) : Option ME :=
  if (blkC G.N sc scope (ownOf G scope.names) && notSet it) = true then match cWalk f sc tg it, cTg G scope 5 tg, fi elt with
    | some w, some t, some m => if (t.slots.all fun i => decide (i ∈ (ownOf G scope.names).map (·.2))) = true then match ifs with
        | [] => some (.comp w t ((ownOf G scope.names).map (·.2)) .none m)
        | [c] => if testable c = true then match fi c with
            | some k => some (.comp w t ((ownOf G scope.names).map (·.2)) (.some k) m)
            | none => none
          else none
        | _ => none
      else none
    | _, _, _ => none
  else none
/-- zip of two lists, where an exception is handled -/
def cCompK (G : GE) (f fi : Expr → Option ME) (sc : Scope) (elt tg it : Expr) (ifs : List Expr) (scope : Scope) : Option ME := match it with
  | .Call (.Name x _) [a, b] [] _ => if (blkC G.N sc scope (ownOf G scope.names) && glB sc x && decide (x = Str.ofString "zip") && notStar a && notStar b && isTup tg) = true then match f a, f b, cTg G scope 5 tg, fi elt, ifs with
      | some m, some k, some t, some me, [c] => if ((t.slots.all fun i => decide (i ∈ (ownOf G scope.names).map (·.2))) && testable c) = true then match fi c with
          | some kk => some (.comp (.zipL m k) t ((ownOf G scope.names).map (·.2)) (.some kk) me)
          | none => none
        else none
      | _, _, _, _, _ => none
    else none
  | _ => none
def cCall (G : GE) (f : Expr → Option ME) (fl : Scope → Expr → Option ME) (sc : Scope) (fn : Expr) (args : List Expr) (pos : Pos) : Option ME := match fn with
  | .Name x _ => if okNm x = true then
      if visB sc x = true then if G.hot = true then none else match args with
        | [] => none
        | a :: r => match slotOf G.N x, cArgs f (a :: r) with
          | some i, some es => some (.callL i es)
          | _, _ => none
      else if glB sc x = true then if G.hot = true then match args with
        | [e, .Name t _] => if x = Str.ofString "isinstance" then match G.isx.lookup t with
            | some tab => match f e with
              | some m => if (notStar e && glB sc t) = true then some (.isX tab m) else none
              | none => none
            | none => none
          else none
        | _ => none
      else match args with
        | [.Lambda ps body scope _] => if (G.told && decide (x = Str.ofString "_law_call") && LamX.lamSB sc scope && ps.args.isEmpty && ps.posonlyargs.isEmpty && ps.kwonlyargs.isEmpty && ps.vararg.isNone && ps.kwarg.isNone && ps.defaults.isEmpty && ps.kw_defaults.isEmpty) = true then match fl scope body with
            | some m => some (.told m)
            | none => none
          else none
        | [e, .Name t _] => if x = Str.ofString "isinstance" then match G.isx.lookup t with
            | some tab => match f e with
              | some m => if (notStar e && glB sc t) = true then some (.isX tab m) else none
              | none => none
            | none => match Ty.of t, f e with
              | some T, some m => if (notStar e && glB sc t) = true then some (.isi T m) else none
              | _, _ => none
          else match FK.of x, cArgs f args with
            | some k, some es => some (.blt k es)
            | none, some es => if G.fns.contains x = true then some (.call x es) else none
            | _, none => none
        | [e, .Tuple [.Name t _, .Name u _] _ _] => if x = Str.ofString "isinstance" then match Ty.of t, Ty.of u, f e with
            | some T, some U, some m => if (notStar e && glB sc t && glB sc u) = true then some (.isi2 T U m) else none
            | _, _, _ => none
          else match FK.of x, cArgs f args with
            | some k, some es => some (.blt k es)
            | none, some es => if G.fns.contains x = true then some (.call x es) else none
            | _, none => none
        | [] => none
        | args => match FK.of x, cArgs f args with
          | some k, some es => some (.blt k es)
          | none, some es => if G.fns.contains x = true then some (.call x es) else none
          | _, none => none
      else none
    else none
  | .Attribute o name apos => if (baseB o && (apos.endLine == pos.line)) = true then match args with
      | [e] => if notStar e = true then match f o, f e with
          | some x, some y => if name = Str.ofString "append" then some (.app x y) else if name = Str.ofString "join" then some (.mt1 .join x y) else if name = Str.ofString "split" then some (.mt1 .split x y) else none
          | _, _ => none
        else none
      | _ => none
    else none
  | _ => none
def cE : Nat → GE → Scope → Expr → Option ME
  | 0, _, _, _ => none
  | n + 1, G, sc, e => match e with
    | .Name x _ => cName G sc x
    | .Constant c _ _ => match c with
      | .int i => some (.con (.int i))
      | .bool i => some (.con (.bl i))
      | .none => some (.con .non)
      | .str i => some (.con (.str i))
      | _ => none
    | .BinOp a op b _ => match BK.of op, cE n G sc a, cE n G sc b with
      | some k, some x, some y => some (.bin k x y)
      | _, _, _ => none
    | .UnaryOp .USub a _ => match cE n G sc a with
      | some x => some (.neg x)
      | none => none
    | .UnaryOp .Not a _ => if testable a = true then match cE n G sc a with
        | some x => some (.not x)
        | none => none
      else none
    | .BoolOp op vs _ => cBool (cE n G sc) op vs
    | .IfExp t a b _ => if testable t = true then match cE n G sc t, cE n G sc a, cE n G sc b with
        | some x, some y, some z => some (.ite x y z)
        | _, _, _ => none
      else none
    | .Compare a ops cs _ => cCmp (cE n G sc) a ops cs
    | .Tuple es _ _ => match cArgs (cE n G sc) es with
      | some xs => some (.tup xs)
      | none => none
    | .List es _ => match cArgs (cE n G sc) es with
      | some xs => some (.lst xs)
      | none => none
    | .Subscript a i _ => match i with
      | .Slice lo hi none _ => match cE n G sc a, cOpt (cE n G sc) lo, cOpt (cE n G sc) hi with
        | some x, some l, some h => some (.slc x l h)
        | _, _, _ => none
      | i => if plainIxB i = true then match cE n G sc a, cE n G sc i with
          | some x, some y => some (.idx x y)
          | _, _ => none
        else none
    | .ListComp elt gens scope _ => match gens with
      | [⟨tg, it, ifs, 0⟩] => if G.hot = true then (if G.hcomp = true then cCompK G (cE n G sc) (cE n { G with told := false, isx := [], hcomp := false } (relS scope sc)) sc elt tg it ifs scope else none) else cComp G (cE n G sc) (cE n { G with told := false, isx := [], hcomp := false } (relS scope sc)) sc elt tg it ifs scope
      | _ => none
    | .Call fn args kws pos => match kws with
      | [] => cCall G (cE n G sc) (cE n { G with told := false, isx := [], hot := false, hcomp := false }) sc fn args pos
      | _ => none
    | _ => none
def cSs (f : Stmt → Option MS) : List Stmt → Option (List MS)
  | [] => some []
  | s :: ss => match f s, cSs f ss with
    | some x, some xs => some (x :: xs)
    | _, _ => none
def cS (G : GE) (sc : Scope) : Nat → Stmt → Option MS
  | 0, _ => none
  | n + 1, s => match s with
    | .Assign [tg] e pos => if G.hot = true then match tg with
      | .Name y py => if notComp e = true then match cE n G sc e, cTg G sc 5 (.Name y py) with
          | some m, some t => some (.asg t m)
          | _, _ => none
        else none
      | _ => none
     else match tg with
      | .Subscript o i p => if (plainIxB i && notComp e) = true then match cE n G sc o, cE n G sc i, cE n G sc e with
          | some x, some y, some z => some (.sub x y z)
          | _, _, _ => none
        else none
      | .Name y py => match cE n G sc e, cTg G sc 5 (.Name y py) with
        | some m, some t => some (.asg t m)
        | _, _ => none
      | .Tuple [.Subscript o i p1, .Subscript o2 i2 p2] k p => if (plainIxB i && plainIxB i2 && notComp e) = true then match swS sc [.Subscript o i p1, .Subscript o2 i2 p2] e, cE n G sc o, cE n G sc i, cE n G sc o2, cE n G sc i2, cE n G sc e with
          | true, some x, some y, some x2, some y2, some z => some (.sub2 x y x2 y2 z)
          | _, _, _, _, _, _ => none
        else none
      | .Tuple ts k p => match e with
        | .Tuple vs k2 p2 => match swP sc ts vs with
          | some none => match cE n G sc (.Tuple vs k2 p2), cTg G sc 5 (.Tuple ts k p) with
            | some m, some t => some (.asg t m)
            | _, _ => none
          | some (some [x, y]) => match ts, vs with
            | [.Name x' _, .Name y' _], [a, b] => if (decide (x' = x) && decide (y' = y) && notStar a && notStar b && decide (sc.names.lookup x = some .local) && decide (sc.names.lookup y = some .local)) = true then match slotOf G.N x, slotOf G.N y, cE n G sc a, cE n G sc b with
                | some i, some j, some u, some v => if i = j then none else some (.par i j u v)
                | _, _, _, _ => none
              else none
            | _, _ => none
          | _ => none
        | e => if notComp e = true then match cE n G sc e, cTg G sc 5 (.Tuple ts k p) with
            | some m, some t => some (.asg t m)
            | _, _ => none
          else none
      | _ => none
    | .Expr e pos => if notComp e = true then match cE n G sc e with
        | some m => some (.expr m)
        | none => none
      else none
    | .Return (some e) _ => match cE n G sc e with
      | some m => some (.ret m)
      | none => none
    | .Return none _ => some .retN
    | .Pass _ => some .pass
    | .Break _ => some .brk
    | .Continue _ => some .cont
    | .If t a b _ => if testable t = true then match cE n G sc t, cSs (cS G sc n) a, cSs (cS G sc n) b with
        | some m, some x, some y => some (.ifS m x y)
        | _, _, _ => none
      else none
    | .While t a [] _ => if testable t = true then match cE n G sc t, cSs (cS G sc n) a with
        | some m, some x => some (.whS m x)
        | _, _ => none
      else none
    | .For tg it body [] _ => if G.hot = true then none else if notSet it = true then match cWalk (cE n G sc) sc tg it, cTg G sc 5 tg, cSs (cS G sc n) body with
        | some w, some t, some x => some (.forS t w x)
        | _, _, _ => none
      else none
    | .Raise (some (.Call (.Name x _) [.Constant (.str _) _ _] [] _)) none _ => if (!G.hot && glB sc x && okNm x && G.excs.contains x) = true then some (.raise x) else none
    | .Raise _ _ _ => some .never
    | _ => none
end DV

end
section
set_option Elab.async false
set_option linter.all false
set_option maxRecDepth 100000
set_option maxHeartbeats 8000000
set_option autoImplicit false
/-! The deep layer, part M: what is turned so keeps its meaning. -/
namespace DV
open PySem PySem.Spec PyProof.Rows L2
def bltNames : List Str := [Str.ofString "len", Str.ofString "abs", Str.ofString "max", Str.ofString "min", Str.ofString "sum", Str.ofString "all", Str.ofString "any", Str.ofString "int", Str.ofString "str", Str.ofString "bool", Str.ofString "list", Str.ofString "tuple", Str.ofString "isinstance", Str.ofString "range", Str.ofString "enumerate", Str.ofString "zip"]
/-- what a def needs that is called -/
structure FnK (X : Cx) (C : Ctx) (k : Nat) (x : Str) (n : Nat) (den : Den) : Prop where
  ex : ∃ (fd : FuncData) (ps : List Str), X.mg x = some (.ref (He.ga X.K x)) ∧ PySem.W.keepIn X.K (.ref (He.ga X.K x)) = true ∧ Binds X.K fd ps [] ∧ ps.length = n ∧ FnOk X.prog X.w X.K X.mg X.base (L2N.CX X.prog X.w) k (He.ga X.K x) fd ps (LSp C n den)
theorem FnK.ok {X : Cx} {C : Ctx} {k : Nat} {x : Str} {n : Nat} {den : Den} (h : FnK X C k x n den) (hr : Room k X.A) : FOk X C x n den := by
  obtain ⟨fd, ps, h1, h2, h3, h4, h5⟩ := h.ex
  exact ⟨_, fd, ps, k, h1, h2, h3, h4, h5, hr⟩
structure GX (G : GE) (C : Ctx) (E : XK) (Φ : Tab) (k : Nat) (X : Cx) (sc wsc : Scope) : Prop where
  scq : X.env.scope = sc
  kind : sc.kind = .function
  N : X.N = G.N
  nd : X.N.Nodup
  calm : G.hot = false → X.calm = true
  ck : X.calm = true ∨ HotK X
  hc : G.hcomp = true → L2H.HotC X
  hk : C.K = X.K
  tk : L2N.Takes X fun cls d _ H => E cls d H
  room : G.hot = false → Room k X.A
  hu : X.A.units + 65 < cLine
  own : PassesOwn (model X.prog X.w) X.A X.env X.xe
  wr : ∀ x, wrB wsc x = true → Loc X.env.scope x ∧ (X.fn x = true ∨ X.env.scope.names.lookup x = some .local)
  consts : ∀ x d, G.consts.lookup x = some d → ∃ u v, X.mg x = some u ∧ RelV v u ∧ ∀ H fa, Rel C H fa d v
  fns : ∀ x, G.fns.contains x = true → X.mg x = some (.ref (He.ga X.K x))
  tab : ∀ x n den, Φ x = some (n, den) → FnK X C k x n den
  blt : ∀ x ∈ bltNames, X.mg x = none
  exc : ∀ x, G.excs.contains x = true → ExcF X x
  isx : ∀ (c : Str) (tab : List (Str × Bool)), G.isx.lookup c = some tab → ∀ (e : Expr) (f : DE) (p p2 pos : Pos), glB sc c = true → glB sc (Str.ofString "isinstance") = true → notStar e = true → PE X e (LE C E f) → PE X (.Call (.Name (Str.ofString "isinstance") p) [e, .Name c p2] [] pos) (LE C E (evIsX tab f))
  told : G.told = true → ∀ (ps : Arguments) (body : Expr) (scope : Scope) (lpos p pos : Pos) (fb : DE), glB sc (Str.ofString "_law_call") = true → LamX.lamSB sc scope = true → ps.args = [] → ps.posonlyargs = [] → ps.kwonlyargs = [] → ps.vararg = none → ps.kwarg = none → ps.defaults = [] → ps.kw_defaults = [] →
    (∀ (A : Around) (outer : List PySem.Env) (s : Shared) (H : Hp) (E' : XK) (f c' : Addr), Room k (A.deeper (LamX.lamEnv X scope s.heap.objs.size f c')) → PE (lamCxN X A outer s H E' scope f c') body (LE C E' fb)) →
    PE X (.Call (.Name (Str.ofString "_law_call") p) [.Lambda ps body scope lpos] [] pos) (LE C E fun σ S => toldD (fb σ S))
section
variable {G : GE} {C : Ctx} {E : XK} {Φ : Tab} {k : Nat} {X : Cx} {sc wsc : Scope}
theorem FnK.of {Y : Cx} {x : Str} {n : Nat} {den : Den} (h : FnK X C k x n den) (h1 : Y.prog = X.prog) (h2 : Y.w = X.w) (h3 : Y.K = X.K) (h4 : Y.mg = X.mg) (h5 : Y.base = X.base) : FnK Y C k x n den := by
  obtain ⟨fd, ps, a, b, c, d, e⟩ := h.ex
  refine ⟨fd, ps, ?_⟩
  rw [h1, h2, h3, h4, h5]
  exact ⟨a, b, c, d, e⟩
/-- within a comprehension -/
theorem GX.blk (g : GX G C E Φ k X sc wsc) {scope : Scope} (hb : BlkOk X.N X.env.scope scope (ownOf G scope.names)) (s : Shared) (H : Hp) (c : Addr) (cl : List (Str × Addr)) (fp : List Addr)
    (hck : (X.blk s H scope (compEnvC scope cl c X.env) fp).calm = true ∨ HotK (X.blk s H scope (compEnvC scope cl c X.env) fp)) : GX { G with told := false, isx := [], hcomp := false } C E0 Φ k (X.blk s H scope (compEnvC scope cl c X.env) fp) (relS scope sc) scope := by
  have e1 : (X.blk s H scope (compEnvC scope cl c X.env) fp).env.scope = relS scope sc := by
    rw [← g.scq]
    rfl
  refine ⟨e1, hb.kind, g.N, g.nd, g.calm, hck, fun h => (by cases h), g.hk, takes0N, g.room, g.hu, PassesOwn.never, fun x hx => ?_, g.consts, g.fns, fun x n den h => (g.tab x n den h).of rfl rfl rfl rfl rfl, g.blt, fun x h => let z := g.exc x h; ⟨z.gP, z.xP, z.kP, z.bP, z.tP⟩, fun c tab h => (by cases h), fun h => by cases h⟩
  rw [e1]
  unfold wrB at hx
  split at hx
  · rename_i h
    have z := lookup_relS_keep (sc := sc) (by decide) h
    exact ⟨.inl z, .inr z⟩
  · rename_i h
    have z := lookup_relS_keep (sc := sc) (by decide) h
    refine ⟨.inr z, .inl ?_⟩
    show (scope.names.lookup x == some .cell) = true
    rw [h]
    rfl
  · cases hx
theorem cName_ok (g : GX G C E Φ k X sc wsc) {x : Str} {m : ME} (h : cName G sc x = some m) (pos : Pos) : PE X (.Name x pos) (LE C E (evE Φ m)) := by
  unfold cName at h
  split at h
  · rename_i hn
    obtain ⟨n1, n2, n3⟩ := okNm_ok hn
    split at h
    · rename_i hv
      split at h
      · rename_i i hi
        cases h
        exact le_var (by rw [g.N]; exact slotOf_ok hi) (by rw [g.scq]; exact visB_ok hv) n1 n2
      · cases h
    · split at h
      · rename_i hg
        have hgl : Gl X x := by
          show X.env.scope.names.lookup x = _
          rw [g.scq]
          exact glB_ok hg
        split at h
        · rename_i d hd
          cases h
          obtain ⟨u, v, h1, h2, h3⟩ := g.consts x d hd
          exact le_tC (pe_glob hgl h1 h2 n1) h3
        · split at h
          · rename_i hf
            cases h
            have z := g.fns x hf
            exact le_tC (v := .ref (He.ga X.K x)) (pe_glob hgl z rfl n1) (fun H fa => by rw [← g.hk]; exact .fn x)
          · cases h
      · cases h
  · cases h
theorem BK.ok {b : BK} {op : Operator} (hk : C.K = X.K) (h : BK.of op = some b) : OpR X (binaryOp op) (LR2 C E b.f) := by
  cases op <;> cases h
  · exact op_addD hk
  · exact op_subD
  · exact op_mulD hk
  · exact op_modD
  · exact op_powD
  · exact op_fdivD
theorem CK.ok {b : CK} {op : CmpOp} (hk : C.K = X.K) (hu : X.A.units + 65 < cLine) (h : CK.of op = some b) : OpR X (compareOp op) (LR2 C E b.f) := by
  cases op <;> cases h
  · exact op_eqDD (by omega) hk
  · exact op_neDD (by omega) hk
  · exact op_cmpI op_lt
  · exact op_cmpI op_le
  · exact op_cmpI op_gt
  · exact op_cmpI op_ge
  · exact op_inDD hu hk
  · exact op_notInDD hu hk
/-- both: as a value and as a test -/
structure Both (C : Ctx) (E : XK) (Φ : Tab) (X : Cx) (e : Expr) (m : ME) : Prop where
  pe : PE X e (LE C E (evE Φ m))
  pt : testable e = true → PT X e (LT C E (evT (evE Φ m)))
theorem Both.plain {e : Expr} {m : ME} (h : PE X e (LE C E (evE Φ m))) (hp : plainT e = true) : Both C E Φ X e m := ⟨h, fun _ => lt_val h (plainT_ok hp)⟩
theorem cBool_ok {f : Expr → Option ME} (hf : ∀ e m, f e = some m → Both C E Φ X e m) {op : BoolOp} : ∀ (vs : List Expr) (m : ME) (pos : Pos), cBool f op vs = some m → PE X (.BoolOp op vs pos) (LE C E (evE Φ m)) ∧ PW X (.BoolOp op vs pos) (LT C E (evT (evE Φ m)))
  | [], _, _, h => by cases h
  | [a], m, pos, h => by
    simp only [cBool] at h
    split at h
    · rename_i ht
      refine ⟨le_one (hf a m h).pe, ?_⟩
      cases op with
      | And => exact pw_and1 ((hf a m h).pt ht)
      | Or => exact pw_or1 ((hf a m h).pt ht)
    · cases h
  | a :: b :: r, m, pos, h => by
    simp only [cBool] at h
    split at h
    · rename_i ht
      split at h
      · rename_i x y e1 e2
        obtain ⟨i1, i2⟩ := cBool_ok hf (b :: r) y pos e2
        cases op with
        | And =>
          cases h
          exact ⟨le_and (hf a x e1).pe i1, lw_and ((hf a x e1).pt ht) i2⟩
        | Or =>
          cases h
          exact ⟨le_or (hf a x e1).pe i1, lw_or ((hf a x e1).pt ht) i2⟩
      · cases h
    · cases h
theorem cArgs_ok {f : Expr → Option ME} (hf : ∀ e m, f e = some m → Both C E Φ X e m) : ∀ (es : List Expr) (ms : MEs), cArgs f es = some ms → PA X es (LA C E (evEs Φ ms)) ∧ es.all notStar = true ∧ es.length = ms.len
  | [], ms, h => by
    cases h
    exact ⟨la_nil, rfl, rfl⟩
  | e :: es, ms, h => by
    simp only [cArgs] at h
    split at h
    · rename_i hs
      split at h
      · rename_i x xs e1 e2
        cases h
        obtain ⟨i1, i2, i3⟩ := cArgs_ok hf es xs e2
        exact ⟨la_cons (hf e x e1).pe i1 (star_cons hs), by rw [List.all_cons, hs, i2]; rfl, by simp [MEs.len, i3]⟩
      · cases h
    · cases h
theorem Res.bind_ok {α β : Type} {r : Res α} {k : α → Sto → Res β} {b : β} {S' : Sto} (h : r.bind k = .ok b S') : ∃ a S, r = .ok a S ∧ k a S = .ok b S' := by
  cases r with
  | ok a S => exact ⟨a, S, rfl, h⟩
  | exc x p S => cases h
  | bad => cases h
theorem evEs_len : ∀ (ms : MEs) (σ : Env) (S : Sto) (ds : List D) (S' : Sto), evEs Φ ms σ S = .ok ds S' → ds.length = ms.len
  | .nil, σ, S, ds, S', h => by
    simp only [evEs, evNil] at h
    cases h
    rfl
  | .cons e es, σ, S, ds, S', h => by
    simp only [evEs, evCons] at h
    obtain ⟨d, S1, h1, h2⟩ := Res.bind_ok h
    obtain ⟨ds', S2, h3, h4⟩ := Res.bind_ok h2
    cases h4
    simp [MEs.len, evEs_len es σ S1 ds' _ h3]
theorem cOpt_ok {f : Expr → Option ME} (hf : ∀ e m, f e = some m → Both C E Φ X e m) (o : Option Expr) (m : MO) (h : cOpt f o = some m) : PO X o (LO' C E (evO Φ m)) := by
  cases o with
  | none =>
    cases h
    exact lo_none
  | some e =>
    simp only [cOpt] at h
    split at h
    · rename_i x e1
      cases h
      exact lo_some (hf e x e1).pe
    · cases h
theorem cCmp_ok {f : Expr → Option ME} (g : GX G C E Φ k X sc wsc) (hf : ∀ e m, f e = some m → Both C E Φ X e m) {a : Expr} {ops : List CmpOp} {cs : List Expr} {m : ME} (h : cCmp f a ops cs = some m) (pos : Pos) : Both C E Φ X (.Compare a ops cs pos) m := by
  unfold cCmp at h
  split at h
  · split at h
    · rename_i x e1
      cases h
      exact ⟨le_isN (hf a x e1).pe, fun _ => lt_isN (hf a x e1).pe⟩
    · cases h
  · split at h
    · rename_i x e1
      cases h
      exact ⟨le_notN (hf a x e1).pe, fun _ => lt_notN (hf a x e1).pe⟩
    · cases h
  · split at h
    · cases h
    · rename_i hb
      split at h
      · rename_i kk x y e1 e2 e3
        cases h
        have hb' := Bool.eq_false_iff.mpr hb
        exact ⟨le_cmp (CK.ok g.hk g.hu e1) hb' (hf _ x e2).pe (hf _ y e3).pe, fun _ => lt_cmp (CK.ok g.hk g.hu e1) hb' (hf _ x e2).pe (hf _ y e3).pe⟩
      · cases h
  · split at h
    · cases h
    · rename_i hb
      split at h
      · rename_i kk ll x y z e1 e2 e3 e4 e5
        cases h
        have hb' := Bool.eq_false_iff.mpr hb
        exact ⟨le_chain (CK.ok g.hk g.hu e1) (CK.ok g.hk g.hu e2) (hf _ x e3).pe (hf _ y e4).pe (hf _ z e5).pe hb', fun _ => lt_chain (CK.ok g.hk g.hu e1) (CK.ok g.hk g.hu e2) (hf _ x e3).pe (hf _ y e4).pe (hf _ z e5).pe hb'⟩
      · cases h
  · cases h
/-! targets -/
theorem assignEach_cons {e : Expr} {es : List Expr} {env : PySem.Env} (h : notStar e = true) : assignEach (e :: es) env = (false, assign e env) :: assignEach es env := by
  cases e <;> first | rfl | cases h
theorem assignEach_len {es : List Expr} {env : PySem.Env} : (assignEach es env).length = es.length := by
  induction es with
  | nil => rfl
  | cons e es ih =>
    cases e <;> (show (assignEach es env).length + 1 = es.length + 1) <;> rw [ih]
theorem assignEach_star {es : List Expr} {env : PySem.Env} (h : es.all notStar = true) : (assignEach es env).findIdx? (·.1) = none := by
  induction es with
  | nil => rfl
  | cons e es ih =>
    rw [List.all_cons, Bool.and_eq_true] at h
    rw [assignEach_cons h.1, List.findIdx?_cons]
    simp [ih h.2]
theorem cTgs_ok {f : Expr → Option Tg} (hf : ∀ e t, f e = some t → PG X e (LG C t.slots (setTg t))) : ∀ (es : List Expr) (ts : List Tg), cTgs f es = some ts → PGs X es (LGs C (Tg.slots.Tgs.slots ts) (setTg.setTgs ts)) ∧ es.all notStar = true ∧ es.length = ts.length
  | [], ts, h => by
    cases h
    exact ⟨lgs_nil, rfl, rfl⟩
  | e :: es, ts, h => by
    simp only [cTgs] at h
    split at h
    · rename_i hs
      split at h
      · rename_i t ts' e1 e2
        cases h
        obtain ⟨i1, i2, i3⟩ := cTgs_ok hf es ts' e2
        exact ⟨lgs_cons (hf e t e1) i1 (by rw [assignEach_cons hs]; rfl), by rw [List.all_cons, hs, i2]; rfl, by simp [i3]⟩
      · cases h
    · cases h
theorem cTg_ok (g : GX G C E Φ k X sc wsc) : ∀ (n : Nat) (e : Expr) (t : Tg), cTg G wsc n e = some t → PG X e (LG C t.slots (setTg t))
  | 0, e, t, h => by cases h
  | n + 1, e, t, h => by
    simp only [cTg] at h
    split at h
    · rename_i x p
      split at h
      · rename_i hw
        rw [Bool.and_eq_true] at hw
        split at h
        · rename_i i hi
          cases h
          obtain ⟨h1, h2⟩ := g.wr x hw.2
          exact lg_name g.nd (by rw [g.N]; exact slotOf_ok hi) h1 h2
        · cases h
      · cases h
    · rename_i es kk p
      split at h
      · rename_i ts e1
        cases h
        obtain ⟨i1, i2, i3⟩ := cTgs_ok (cTg_ok g n) es ts e1
        rcases g.ck with hc | hc
        · exact lg_tup g.hk hc i1 (by rw [assignEach_len, i3]) (assignEach_star i2)
        · exact lg_tupK g.hk hc i1 (by rw [assignEach_len, i3]) (assignEach_star i2)
      · cases h
    · cases h
end
end DV

end
section
set_option Elab.async false
set_option linter.all false
set_option maxRecDepth 100000
set_option maxHeartbeats 8000000
set_option autoImplicit false
/-! The deep layer, part N: calls, comprehensions, expressions as a whole. -/
namespace DV
open PySem PySem.Spec PyProof.Rows L2
section
variable {G : GE} {C : Ctx} {E : XK} {Φ : Tab} {k : Nat} {X : Cx} {sc wsc : Scope}
theorem GX.gl (g : GX G C E Φ k X sc wsc) {x : Str} (h : glB sc x = true) : Gl X x := by
  show X.env.scope.names.lookup x = _
  rw [g.scq]
  exact glB_ok h
theorem cWalk_ok {f : Expr → Option ME} (g : GX G C E Φ k X sc wsc) (hf : ∀ e m, f e = some m → Both C E Φ X e m) {tg e : Expr} {w : MW} (h : cWalk f sc tg e = some w) : PI X tg e (LI C E (evW Φ w)) := by
  unfold cWalk at h
  split at h
  · rename_i x p a pos
    split at h
    · rename_i hc
      simp only [Bool.and_eq_true, decide_eq_true_eq] at hc
      obtain ⟨⟨h1, h2⟩, h3⟩ := hc
      split at h
      · rename_i m e1
        cases h
        subst h2
        refine li_range1 (g.gl h1) (g.blt _ (by simp [bltNames])) (la_cons (hf a m e1).pe la_nil (star_cons h3)) ?_
        rw [star_cons h3]
        rfl
      · cases h
    split at h
    · rename_i hc
      simp only [Bool.and_eq_true, decide_eq_true_eq] at hc
      obtain ⟨⟨⟨h1, h2⟩, h3⟩, h4⟩ := hc
      split at h
      · rename_i m e1
        cases h
        subst h2
        cases tg with
        | Tuple elts kk tpos =>
          refine li_enum g.hk (g.gl h1) (g.blt _ (by simp [bltNames])) (hf a m e1).pe ?_
          rw [star_cons h3]
          rfl
        | _ => cases h4
      · cases h
    · split at h
      · rename_i m e1
        cases h
        exact li_walk g.hk (hf _ m e1).pe
      · cases h
  · rename_i x p a b pos
    split at h
    · rename_i hc
      simp only [Bool.and_eq_true, decide_eq_true_eq] at hc
      obtain ⟨⟨⟨h1, h2⟩, h3⟩, h4⟩ := hc
      split at h
      · rename_i m kk e1 e2
        cases h
        subst h2
        refine li_range2 (g.gl h1) (g.blt _ (by simp [bltNames])) (la_cons (hf a m e1).pe (la_cons (hf b kk e2).pe la_nil (star_cons h4)) (star_cons h3)) ?_ ?_
        · rw [star_cons h3, star_cons h4]
          rfl
        · rw [star_cons h4]
          rfl
      · cases h
    split at h
    · rename_i hc
      simp only [Bool.and_eq_true, decide_eq_true_eq] at hc
      obtain ⟨⟨⟨⟨h1, h2⟩, h3⟩, h4⟩, h5⟩ := hc
      split at h
      · rename_i m kk e1 e2
        cases h
        subst h2
        cases tg with
        | Tuple elts kk tpos =>
          refine li_zip g.hk (g.gl h1) (g.blt _ (by simp [bltNames])) (hf a m e1).pe (hf b _ e2).pe ?_ ?_ ?_
          · rw [star_cons h3]
          · rw [star_cons h4]
          · rw [star_cons h4]
            rfl
        | _ => cases h5
      · cases h
    · split at h
      · rename_i m e1
        cases h
        exact li_walk g.hk (hf _ m e1).pe
      · cases h
  · split at h
    · rename_i m e1
      cases h
      exact li_walk g.hk (hf _ m e1).pe
    · cases h
theorem FK.ok {kf : FK} (g : GX G C E Φ k X sc wsc) (nh : G.hot = false) {p pos : Pos} {e : Expr} {es : List Expr} {f : DEs} (hg : Gl X (Str.ofString kf.nm)) (ha : PA X (e :: es) (LA C E f)) (he : starEach (e :: es) X.env = (false, eval e X.env) :: starEach es X.env) (hpl : (backTo pos (starEach es X.env)).any (·.1) = false) :
    PE X (.Call (.Name (Str.ofString kf.nm) p) (e :: es) [] pos) (LE C E fun σ S => (f σ S).bind kf.f) := by
  have hm : X.mg (Str.ofString kf.nm) = none := g.blt _ (by cases kf <;> simp [bltNames, FK.nm])
  have hn : (Str.ofString kf.nm) ≠ "__name__" := by cases kf <;> decide
  have hd : ((Str.ofString kf.nm) == ("__debug__" : Str)) = false := by cases kf <;> decide
  cases kf
  · exact le_callB (id := "len") (call_lenD g.hk) hg hm (by decide +kernel) ha hn hd he hpl
  · exact le_callB (id := "abs") call_absD hg hm (by decide +kernel) ha hn hd he hpl
  · exact le_callB (id := "max") (call_maxD (g.calm nh) g.hk) hg hm (by decide +kernel) ha hn hd he hpl
  · exact le_callB (id := "min") (call_minD (g.calm nh) g.hk) hg hm (by decide +kernel) ha hn hd he hpl
  · exact le_callB (id := "sum") (call_sumD (g.calm nh) g.hk) hg hm (by decide +kernel) ha hn hd he hpl
  · exact le_callB (id := "all") (call_allD (g.calm nh) g.hk) hg hm (by decide +kernel) ha hn hd he hpl
  · exact le_callB (id := "any") (call_anyD (g.calm nh) g.hk) hg hm (by decide +kernel) ha hn hd he hpl
  · exact le_callTy (T := "int") call_intD hg hm (by decide +kernel) ha hn hd he hpl
  · exact le_callTy (T := "str") call_strD hg hm (by decide +kernel) ha hn hd he hpl
  · exact le_callTy (T := "bool") call_boolD hg hm (by decide +kernel) ha hn hd he hpl
  · exact le_callTy (T := "list") (call_listDD g.hk) hg hm (by decide +kernel) ha hn hd he hpl
  · exact le_callTy (T := "tuple") (call_tupleD g.hk) hg hm (by decide +kernel) ha hn hd he hpl
theorem Tab.of_some {n : Nat} {x : Str} {den : Den} (h : Φ.of n x = some den) : Φ x = some (n, den) := by
  unfold Tab.of at h
  split at h
  · rename_i m d e
    split at h
    · rename_i hm
      cases h
      rw [e, hm]
    · cases h
  · cases h
theorem le_bad {e : Expr} : PE X e (LE C E fun _ _ => .bad) := ⟨fun pins s σ H Q I h => by
  obtain ⟨σd, S, fa, rs, r, q⟩ := h
  exact q.elim⟩
theorem call_ok (g : GX G C E Φ k X sc wsc) (nh : G.hot = false) {x : Str} {p pos : Pos} {e : Expr} {es : List Expr} {ms : MEs} (hn : okNm x = true) (hg : glB sc x = true) (ha : PA X (e :: es) (LA C E (evEs Φ ms))) (hs : (e :: es).all notStar = true) :
    PE X (.Call (.Name x p) (e :: es) [] pos) (LE C E (evE Φ (.call x ms))) := by
  rw [List.all_cons, Bool.and_eq_true] at hs
  simp only [evE]
  split
  · rename_i den e1
    exact le_call (((g.tab _ _ _ (Tab.of_some e1))).ok (g.room nh)) g.tk (g.gl hg) (fun σ S ds S' h => evEs_len ms σ S ds S' h) ha (okNm_ok hn).1 (star_cons hs.1) (star_all hs.2)
  · exact le_bad
/-- a call by a global's name, neither isinstance nor a lambda handed over -/
theorem gcall_ok {f : Expr → Option ME} (g : GX G C E Φ k X sc wsc) (nh : G.hot = false) (hf : ∀ e m, f e = some m → Both C E Φ X e m) {x : Str} {args : List Expr} {m : ME} (hx : okNm x = true) (hg : glB sc x = true) (hne : args ≠ []) (p pos : Pos)
    (h : (match FK.of x, cArgs f args with
          | some k, some es => some (ME.blt k es)
          | none, some es => if G.fns.contains x = true then some (ME.call x es) else none
          | _, none => none) = some m) : PE X (.Call (.Name x p) args [] pos) (LE C E (evE Φ m)) := by
  cases args with
  | nil => exact absurd rfl hne
  | cons e es =>
    split at h
    · rename_i kk ms e1 e2
      cases h
      obtain ⟨i1, i2, i3⟩ := cArgs_ok hf _ _ e2
      have hx2 := FK.of_ok e1
      subst hx2
      rw [List.all_cons, Bool.and_eq_true] at i2
      exact FK.ok g nh (g.gl hg) i1 (star_cons i2.1) (star_all i2.2)
    · rename_i ms e1 e2
      split at h
      · cases h
        obtain ⟨i1, i2, i3⟩ := cArgs_ok hf _ _ e2
        exact call_ok g nh hx hg i1 i2
      · cases h
    · cases h
theorem cCall_ok {f : Expr → Option ME} {fl : Scope → Expr → Option ME} (g : GX G C E Φ k X sc wsc) (hf : ∀ e m, f e = some m → Both C E Φ X e m)
    (hfl : ∀ (scope : Scope) (e : Expr) (m : ME), fl scope e = some m → ∀ (A : Around) (outer : List PySem.Env) (s : Shared) (H : Hp) (E' : XK) (a c' : Addr), Room k (A.deeper (LamX.lamEnv X scope s.heap.objs.size a c')) → LamX.LamS X.env.scope scope → PE (lamCxN X A outer s H E' scope a c') e (LE C E' (evE Φ m)))
    {fn : Expr} {args : List Expr} {m : ME} {pos : Pos} (h : cCall G f fl sc fn args pos = some m) : PE X (.Call fn args [] pos) (LE C E (evE Φ m)) := by
  unfold cCall at h
  split at h
  · rename_i x p
    split at h
    · rename_i hx
      split at h
      · rename_i hv
        split at h
        · cases h
        rename_i hnh
        have nh : G.hot = false := Bool.eq_false_iff.mpr hnh
        split at h
        · cases h
        · rename_i a r
          split at h
          · rename_i i es e1 e2
            cases h
            obtain ⟨i1, i2, i3⟩ := cArgs_ok hf _ _ e2
            obtain ⟨n1, n2, n3⟩ := okNm_ok hx
            rw [List.all_cons, Bool.and_eq_true] at i2
            exact le_callL (n := es.len) (fun y den hy => let z := g.tab _ _ _ (Tab.of_some hy); ⟨z.ok (g.room nh), let ⟨_, _, q, _⟩ := z.ex; q⟩) g.hk g.tk (by rw [g.N]; exact slotOf_ok e1) (by rw [g.scq]; exact visB_ok hv) (fun σ S ds S' h => evEs_len es σ S ds S' h) i1 n1 n2 (star_cons i2.1) (star_all i2.2)
          · cases h
      · split at h
        · rename_i hg
          split at h
          · split at h
            · rename_i e t tp
              split at h
              · rename_i hi
                subst hi
                split at h
                · rename_i tab et
                  split at h
                  · rename_i mm e2
                    split at h
                    · rename_i hc
                      cases h
                      rw [Bool.and_eq_true] at hc
                      exact g.isx t tab et e _ p tp pos hc.2 hg hc.1 (hf _ _ e2).pe
                    · cases h
                  · cases h
                · cases h
              · cases h
            · cases h
          rename_i hnh
          have nh : G.hot = false := Bool.eq_false_iff.mpr hnh
          split at h
          · rename_i ps body scope lpos
            split at h
            · rename_i hc
              simp only [Bool.and_eq_true, decide_eq_true_eq, List.isEmpty_iff, Option.isNone_iff_eq_none] at hc
              obtain ⟨⟨⟨⟨⟨⟨⟨⟨⟨h0, h1⟩, h2⟩, h3⟩, h4⟩, h5⟩, h6⟩, h7⟩, h8⟩, h9⟩ := hc
              split at h
              · rename_i mb e1
                cases h
                subst h1
                exact g.told h0 ps body scope lpos p pos (evE Φ mb) hg h2 h3 h4 h5 h6 h7 h8 h9 (fun A outer s H E' a c' hr => hfl scope body mb e1 A outer s H E' a c' hr (by rw [g.scq]; exact LamX.lamS_by h2))
              · cases h
            · cases h
          · rename_i e t tp
            split at h
            · rename_i hi
              subst hi
              split at h
              · rename_i tab et
                split at h
                · rename_i mm e2
                  split at h
                  · rename_i hc
                    cases h
                    rw [Bool.and_eq_true] at hc
                    exact g.isx t tab et e _ p tp pos hc.2 hg hc.1 (hf _ _ e2).pe
                  · cases h
                · cases h
              split at h
              · rename_i T mm e1 e2
                split at h
                · rename_i hc
                  cases h
                  rw [Bool.and_eq_true] at hc
                  have ht := Ty.of_ok e1
                  subst ht
                  refine le_isi g.hk (hf _ _ e2).pe (g.gl hg) (g.blt _ (by simp [bltNames])) (g.gl hc.2) (g.blt _ (by cases T <;> simp [bltNames, Ty.nm])) (star_cons hc.1)
                · cases h
              · cases h
            · exact gcall_ok g nh hf hx hg (by simp) p pos h
          · rename_i e t tp u up kk tp2
            split at h
            · rename_i hi
              subst hi
              split at h
              · rename_i T U mm e1 e2 e3
                split at h
                · rename_i hc
                  cases h
                  simp only [Bool.and_eq_true] at hc
                  have ht := Ty.of_ok e1
                  subst ht
                  have hu := Ty.of_ok e2
                  subst hu
                  refine le_isi2 g.hk (hf _ _ e3).pe (g.gl hg) (g.blt _ (by simp [bltNames])) (g.gl hc.1.2) (g.blt _ (by cases T <;> simp [bltNames, Ty.nm])) (g.gl hc.2) (g.blt _ (by cases U <;> simp [bltNames, Ty.nm])) (star_cons hc.1.1)
                · cases h
              · cases h
            · exact gcall_ok g nh hf hx hg (by simp) p pos h
          · cases h
          · rename_i hne
            exact gcall_ok g nh hf hx hg (by assumption) p pos h
        · cases h
    · cases h
  · rename_i o name apos
    split at h
    · rename_i hb
      rw [Bool.and_eq_true] at hb
      split at h
      · rename_i e
        split at h
        · rename_i hs
          split at h
          · rename_i x y e1 e2
            split at h
            · rename_i hn
              cases h
              subst hn
              exact le_app g.hk (hf _ _ e1).pe (hf _ _ e2).pe (baseB_ok hb.1) hb.2 (star_cons hs)
            · split at h
              · rename_i hn
                cases h
                subst hn
                exact le_join g.hk (hf _ _ e1).pe (hf _ _ e2).pe (baseB_ok hb.1) hb.2 (star_cons hs)
              · split at h
                · rename_i hn
                  cases h
                  subst hn
                  exact le_split (hf _ _ e1).pe (hf _ _ e2).pe (baseB_ok hb.1) hb.2 (star_cons hs)
                · cases h
          · cases h
        · cases h
      · cases h
    · cases h
  · cases h
end
end DV

end
section
set_option Elab.async false
set_option linter.all false
set_option maxRecDepth 100000
set_option maxHeartbeats 8000000
set_option autoImplicit false
/-! The deep layer, part O: the whole of expressions, statements, defs. -/
namespace DV
open PySem PySem.Spec PyProof.Rows L2
section
variable {G : GE} {C : Ctx} {E : XK} {Φ : Tab} {k : Nat} {X : Cx} {sc wsc : Scope}
/-- within a lambda's body -/
theorem GX.lam (g : GX G C E Φ k X sc wsc) {scope : Scope} (L : LamX.LamS X.env.scope scope) (A : Around) (outer : List PySem.Env) (s : Shared) (H : Hp) (E' : XK) (a c' : Addr) (hr : Room k (A.deeper (LamX.lamEnv X scope s.heap.objs.size a c')))
    (hu : (A.deeper (LamX.lamEnv X scope s.heap.objs.size a c')).units + 65 < cLine) :
    GX { G with told := false, isx := [], hot := false, hcomp := false } C E' Φ k (lamCxN X A outer s H E' scope a c') scope { scope with names := [] } := by
  refine ⟨rfl, L.kind, g.N, g.nd, fun _ => rfl, .inl rfl, fun h => (by cases h), g.hk, ?_, fun _ => hr, hu, ?_, fun x hx => (by cases hx), g.consts, g.fns, fun x n den h => (g.tab x n den h).of rfl rfl rfl rfl rfl, g.blt, fun x h => let z := g.exc x h; ⟨z.gP, z.xP, z.kP, z.bP, z.tP⟩, fun c tab h => (by cases h), fun h => by cases h⟩
  · exact L2N.takes_of rfl rfl rfl rfl
  · exact PassesOwn.leaving
theorem GX.notold (g : GX G C E Φ k X sc wsc) : GX { G with told := false } C E Φ k X sc wsc :=
  ⟨g.scq, g.kind, g.N, g.nd, g.calm, g.ck, g.hc, g.hk, g.tk, g.room, g.hu, g.own, g.wr, g.consts, g.fns, g.tab, g.blt, g.exc, g.isx, fun h => by cases h⟩
theorem cComp_parts {f fi : Expr → Option ME} (g : GX G C E Φ k X sc wsc) (nh : G.hot = false) (hf : ∀ e m, f e = some m → Both C E Φ X e m) {elt tg it : Expr} {ifs : List Expr} {scope : Scope} {m : ME}
    (hfi : ∀ (s : Shared) (H : Hp) (c : Addr) (cl : List (Str × Addr)) (fp : List Addr), BlkOk X.N X.env.scope scope (ownOf G scope.names) → ∀ e m, fi e = some m → Both C E0 Φ (X.blk s H scope (compEnvC scope cl c X.env) fp) e m)
    (h : cComp G f fi sc elt tg it ifs scope = some m) :
    ∃ w t cond me, m = .comp w t ((ownOf G scope.names).map (·.2)) cond me ∧ BlkOk X.N X.env.scope scope (ownOf G scope.names) ∧ notSet it = true ∧ PI X tg it (LI C E (evW Φ w)) ∧ (∀ i ∈ t.slots, i ∈ (ownOf G scope.names).map (·.2)) ∧
      (∀ (s : Shared) (H : Hp) (c : Addr) (cl : List (Str × Addr)) (fp : List Addr), PG (X.blk s H scope (compEnvC scope cl c X.env) fp) tg (LG C t.slots (setTg t))) ∧
      (∀ (s : Shared) (H : Hp) (c : Addr) (cl : List (Str × Addr)) (fp : List Addr), PTs (X.blk s H scope (compEnvC scope cl c X.env) fp) ifs (LT C E0 (evC Φ cond))) ∧
      (∀ (s : Shared) (H : Hp) (c : Addr) (cl : List (Str × Addr)) (fp : List Addr), PE (X.blk s H scope (compEnvC scope cl c X.env) fp) elt (LE C E0 (evE Φ me))) := by
  unfold cComp at h
  split at h
  · rename_i hb
    rw [Bool.and_eq_true] at hb
    have hB : BlkOk X.N X.env.scope scope (ownOf G scope.names) := by
      rw [g.N, g.scq]
      exact blkOk_by hb.1
    split at h
    · rename_i w t me e1 e2 e3
      split at h
      · rename_i hs
        have hs' : ∀ i ∈ t.slots, i ∈ (ownOf G scope.names).map (·.2) := by
          intro i hi
          exact of_decide_eq_true (List.all_eq_true.mp hs i hi)
        have tgk : ∀ (s : Shared) (H : Hp) (c : Addr) (cl : List (Str × Addr)) (fp : List Addr), PG (X.blk s H scope (compEnvC scope cl c X.env) fp) tg (LG C t.slots (setTg t)) := fun s H c cl fp =>
          cTg_ok (g.blk hB s H c cl fp (.inl (g.calm nh))) 5 tg t e2
        split at h
        · cases h
          exact ⟨w, t, .none, me, rfl, hB, hb.2, cWalk_ok g hf e1, hs', tgk, fun s H c cl fp => lts_nil, fun s H c cl fp => (hfi s H c cl fp hB elt me e3).pe⟩
        · rename_i cnd
          split at h
          · rename_i ht
            split at h
            · rename_i kk e4
              cases h
              exact ⟨w, t, .some kk, me, rfl, hB, hb.2, cWalk_ok g hf e1, hs', tgk, fun s H c cl fp => lts_one ((hfi s H c cl fp hB cnd kk e4).pt ht), fun s H c cl fp => (hfi s H c cl fp hB elt me e3).pe⟩
            · cases h
          · cases h
        · cases h
      · cases h
    · cases h
  · cases h
theorem cCompK_ok {f fi : Expr → Option ME} (g : GX G C E Φ k X sc wsc) (hc : G.hcomp = true) (hf : ∀ e m, f e = some m → Both C E Φ X e m) {elt tg it : Expr} {ifs : List Expr} {scope : Scope} {m : ME} {pos : Pos}
    (hfi : ∀ (s : Shared) (H : Hp) (c : Addr) (cl : List (Str × Addr)) (fp : List Addr), BlkOk X.N X.env.scope scope (ownOf G scope.names) → HotK (X.blk s H scope (compEnvC scope cl c X.env) fp) → ∀ e m, fi e = some m → Both C E0 Φ (X.blk s H scope (compEnvC scope cl c X.env) fp) e m)
    (h : cCompK G f fi sc elt tg it ifs scope = some m) : PE X (.ListComp elt [⟨tg, it, ifs, 0⟩] scope pos) (LE C E (evE Φ m)) := by
  unfold cCompK at h
  split at h
  · rename_i x p a b cpos
    split at h
    · rename_i hb
      simp only [Bool.and_eq_true, decide_eq_true_eq] at hb
      obtain ⟨⟨⟨⟨⟨b1, b2⟩, b3⟩, b4⟩, b5⟩, b6⟩ := hb
      have hB : BlkOk X.N X.env.scope scope (ownOf G scope.names) := by
        rw [g.N, g.scq]
        exact blkOk_by b1
      split at h
      · rename_i m1 k1 t me cnd e1 e2 e3 e4
        split at h
        · rename_i hs
          rw [Bool.and_eq_true] at hs
          have hs' : ∀ i ∈ t.slots, i ∈ (ownOf G scope.names).map (·.2) := by
            intro i hi
            exact of_decide_eq_true (List.all_eq_true.mp hs.1 i hi)
          split at h
          · rename_i kk e5
            cases h
            subst b3
            cases tg with
            | Tuple elts tk tpos =>
              simp only [evE, evW]
              refine le_compK (g.hc hc) g.nd (li_zipK g.hk (g.gl b2) (g.blt _ (by simp [bltNames])) (hf a m1 e1).pe (hf b k1 e2).pe ?_ ?_ ?_) hB hs' (fun s H c cl fp hk => cTg_ok (g.blk hB s H c cl fp (.inr hk)) 5 _ t e3) (fun s H c cl fp hk => lts_one ((hfi s H c cl fp hB hk cnd kk e5).pt hs.2)) (fun s H c cl fp hk => (hfi s H c cl fp hB hk elt me e4).pe) (fun x => rfl)
              · rw [star_cons b4]
              · rw [star_cons b5]
              · rw [star_cons b5]
                rfl
            | _ => cases b6
          · cases h
        · cases h
      · cases h
    · cases h
  · cases h
end
theorem cE_ok {Φ : Tab} {C : Ctx} {k : Nat} (hkb : ∀ A : Around, Room k A → A.units + 65 < cLine) : ∀ (n : Nat) (G : GE) (E : XK) (X : Cx) (sc wsc : Scope) (e : Expr) (m : ME), GX G C E Φ k X sc wsc → cE n G sc e = some m → Both C E Φ X e m
  | 0, _, _, _, _, _, _, _, _, h => by cases h
  | n + 1, G, E, X, sc, wsc, e, m, g, h => by
    have hf : ∀ e m, cE n G sc e = some m → Both C E Φ X e m := fun e m => cE_ok hkb n G E X sc wsc e m g
    simp only [cE] at h
    split at h
    · exact .plain (cName_ok g h _) rfl
    · split at h
      · cases h; exact .plain le_int rfl
      · cases h; exact .plain le_bl rfl
      · cases h; exact .plain le_non rfl
      · cases h; exact .plain le_str rfl
      · cases h
    · split at h
      · rename_i kk x y e1 e2 e3
        cases h
        exact .plain (le_bin (BK.ok g.hk e1) (hf _ _ e2).pe (hf _ _ e3).pe) rfl
      · cases h
    · split at h
      · rename_i x e1
        cases h
        exact .plain (le_un un_negD (hf _ _ e1).pe) rfl
      · cases h
    · split at h
      · rename_i ht
        split at h
        · rename_i x e1
          cases h
          exact ⟨le_not (hf _ _ e1).pe, fun _ => lt_not ((hf _ _ e1).pt ht)⟩
        · cases h
      · cases h
    · obtain ⟨i1, i2⟩ := cBool_ok hf _ _ _ h
      exact ⟨i1, fun _ => i2.pt⟩
    · split at h
      · rename_i ht
        split at h
        · rename_i x y z e1 e2 e3
          cases h
          exact ⟨le_if ((hf _ _ e1).pt ht) (hf _ _ e2).pe (hf _ _ e3).pe, fun z => by cases z⟩
        · cases h
      · cases h
    · exact cCmp_ok g hf h _
    · split at h
      · rename_i xs e1
        cases h
        exact .plain (le_tup (cArgs_ok hf _ _ e1).1) rfl
      · cases h
    · split at h
      · rename_i xs e1
        cases h
        exact .plain (le_lst (cArgs_ok hf _ _ e1).1) rfl
      · cases h
    · split at h
      · split at h
        · rename_i x l u e1 e2 e3
          cases h
          exact .plain (le_slice g.hk (hf _ _ e1).pe (cOpt_ok hf _ _ e2) (cOpt_ok hf _ _ e3)) rfl
        · cases h
      · split at h
        · rename_i hp
          split at h
          · rename_i x y e1 e2
            cases h
            exact .plain (le_ix g.hk (hf _ _ e1).pe (hf _ _ e2).pe (plainIxB_ok hp)) rfl
          · cases h
        · cases h
    · split at h
      · rename_i tg it ifs
        split at h
        · rename_i hot
          split at h
          · rename_i hc
            exact .plain (cCompK_ok g hc hf (fun s H c cl fp hB hk e m h => cE_ok hkb n _ E0 _ _ _ e m (g.blk hB s H c cl fp (.inr hk)) h) h) rfl
          · cases h
        rename_i hnh
        have nh : G.hot = false := Bool.eq_false_iff.mpr hnh
        obtain ⟨w, t, cond, me, rfl, hB, hs, h1, h2, h3, h4, h5⟩ := cComp_parts g nh hf (fun s H c cl fp hB e m h => cE_ok hkb n _ E0 _ _ _ e m (g.blk hB s H c cl fp (.inl (g.calm nh))) h) h
        exact .plain (le_comp (g.calm nh) g.nd h1 hB h2 h3 h4 h5 (notSet_ok hs)) rfl
      · cases h
    · split at h
      · refine .plain (cCall_ok g hf (fun scope e m hm A outer s H E' a c' hr L => ?_) h) rfl
        exact (cE_ok hkb n _ E' _ scope _ e m (g.lam L A outer s H E' a c' hr (hkb _ hr)) hm).pe
      · cases h
    · cases h
end DV

end
section
set_option Elab.async false
set_option linter.all false
set_option maxRecDepth 100000
set_option maxHeartbeats 8000000
set_option autoImplicit false
/-! The deep layer, part P: statements and defs. -/
namespace DV
open PySem PySem.Spec PyProof.Rows L2
section
variable {G : GE} {C : Ctx} {E : XK} {Φ : Tab} {k : Nat} {X : Cx} {sc wsc : Scope}
theorem cSs_ok {f : Stmt → Option MS} (hf : ∀ s m, f s = some m → PS X s (LS C E (evS Φ m))) : ∀ (ss : List Stmt) (ms : List MS), cSs f ss = some ms → PSs X ss (LS C E (evSs Φ ms))
  | [], ms, h => by
    cases h
    simp only [evSs]
    exact ls_nil
  | s :: ss, ms, h => by
    simp only [cSs] at h
    split at h
    · rename_i x xs e1 e2
      cases h
      simp only [evSs]
      exact ls_cons (hf s x e1) (cSs_ok hf ss xs e2)
    · cases h
theorem GX.block (g : GX G C E Φ k X sc wsc) : X.env.blockKind = .function := by
  unfold PySem.Env.blockKind
  rw [g.scq, g.kind]
  rfl
theorem sole_ok {t : Expr} {e : Expr} {l : Nat} {env : PySem.Env} (h : notComp e = true) : swapsWithSole [t] e l env = pure false := by
  show swapsWith e (some t) l env = pure false
  exact notComp_ok h
/-- name = e -/
theorem asgName_ok (hkb : ∀ A : Around, Room k A → A.units + 65 < cLine) (g : GX G C E Φ k X sc sc) {n : Nat} {y : Str} {py pos : Pos} {e : Expr} {m : ME} {t : Tg} (nh : G.hot = false ∨ notComp e = true) (h1 : cE n G sc e = some m) (h2 : cTg G sc 5 (.Name y py) = some t) : PS X (.Assign [.Name y py] e pos) (LS C E (evS Φ (.asg t m))) := by
  have hg := cTg_ok g 5 _ _ h2
  simp only [evS]
  have usual : swapsWithSole [.Name y py] e pos.line X.env = pure false → PS X (.Assign [.Name y py] e pos) (LS C E (svAsg (evE Φ m) t)) := fun hs =>
    ls_asg ((cE_ok hkb n G E X sc sc e m g h1).pe) hg hs (by unfold swappedStores; cases e <;> rfl) rfl
  cases hn : notComp e with
  | true => exact usual (sole_ok hn)
  | false =>
    have nh2 : G.hot = false := nh.elim id fun z => by rw [hn] at z; cases z
    clear nh
    have nh : G.hot = false := nh2
    clear nh2
    cases n with
    | zero => cases h1
    | succ n =>
      cases e with
      | ListComp elt gens scope cpos =>
        simp only [cE] at h1
        split at h1
        · rename_i tg it ifs
          rw [if_neg (by rw [nh]; decide)] at h1
          have hf : ∀ e m, cE n G sc e = some m → Both C E Φ X e m := fun e m => cE_ok hkb n G E X sc sc e m g
          -- the target's place
          simp only [cTg] at h2
          split at h2
          · rename_i hw
            rw [Bool.and_eq_true] at hw
            split at h2
            · rename_i i hi
              cases h2
              obtain ⟨w, t', cond, me, rfl, hB, hs, p1, p2, p3, p4, p5⟩ := cComp_parts g nh hf (fun s H c cl fp hB e m h => cE_ok hkb n _ E0 _ _ _ e m (g.blk hB s H c cl fp (.inl (g.calm nh))) h) h1
              simp only [evE]
              by_cases hl : (py.line == cpos.line) = true ∧ sc.names.lookup y = some .local ∧ (scope.names.any fun (n, k) => n == y && (k == .local || k == .cell)) = false
              · refine ls_setComp (g.calm nh) g.nd (by rw [g.N]; exact slotOf_ok hi) (by rw [g.scq]; exact hl.2.1) (sw_true (by rw [g.scq]; exact g.kind) (by rw [g.scq]; exact hl.2.1) hl.1 hl.2.2) p1 hB p2 p3 p4 p5 (notSet_ok hs)
              · refine ls_asg (le_comp (g.calm nh) g.nd p1 hB p2 p3 p4 p5 (notSet_ok hs)) hg ?_ (by unfold swappedStores; rfl) rfl
                show swapsWith (.ListComp elt [⟨tg, it, ifs, 0⟩] scope cpos) (some (.Name y py)) pos.line X.env = pure false
                unfold swapsWith
                have hb : (X.env.blockKind == ScopeKind.function && X.env.kindOf y == some NameKind.local && py.line == cpos.line && !(scope.names.any fun (n, k) => n == y && (k == .local || k == .cell))) = false := by
                  cases q : (X.env.blockKind == ScopeKind.function && X.env.kindOf y == some NameKind.local && py.line == cpos.line && !(scope.names.any fun (n, k) => n == y && (k == .local || k == .cell))) with
                  | false => rfl
                  | true =>
                    exfalso
                    simp only [Bool.and_eq_true, beq_iff_eq, Bool.not_eq_true'] at q
                    obtain ⟨⟨⟨q1, q2⟩, q3⟩, q4⟩ := q
                    refine hl ⟨by rw [q3]; exact beq_self_eq_true _, ?_, q4⟩
                    rw [← g.scq]
                    exact q2
                show pure _ = pure false
                exact congrArg pure hb
            · cases h2
          · cases h2
        · cases h1
      | SetComp a b c d => simp only [cE] at h1; cases h1
      | DictComp a b c d e' => simp only [cE] at h1; cases h1
      | _ => cases hn
theorem cS_ok (hkb : ∀ A : Around, Room k A → A.units + 65 < cLine) (g : GX G C E Φ k X sc sc) : ∀ (n : Nat) (s : Stmt) (m : MS), cS G sc n s = some m → PS X s (LS C E (evS Φ m))
  | 0, _, _, h => by cases h
  | n + 1, s, m, h => by
    have hf : ∀ e m, cE n G sc e = some m → Both C E Φ X e m := fun e m => cE_ok hkb n G E X sc sc e m g
    have hS : ∀ s m, cS G sc n s = some m → PS X s (LS C E (evS Φ m)) := fun s m => cS_ok hkb g n s m
    simp only [cS] at h
    split at h
    · rename_i tg e pos
      split at h
      · split at h
        · rename_i y py
          split at h
          · rename_i hnc
            split at h
            · rename_i m' t e1 e2
              cases h
              exact asgName_ok hkb g (.inr hnc) e1 e2
            · cases h
          · cases h
        · cases h
      rename_i hnh
      have nh : G.hot = false := Bool.eq_false_iff.mpr hnh
      split at h
      · rename_i o i p
        split at h
        · rename_i hc
          rw [Bool.and_eq_true] at hc
          split at h
          · rename_i x y z e1 e2 e3
            cases h
            simp only [evS]
            refine ls_sub (hf _ _ e3).pe (hf _ _ e1).pe (hf _ _ e2).pe (sole_ok hc.2) (by unfold swappedStores; cases e <;> rfl) rfl ?_
            intro v
            obtain ⟨h1, _⟩ := hc
            cases i <;> first | rfl | cases h1
          · cases h
        · cases h
      · rename_i y py
        split at h
        · rename_i m' t e1 e2
          cases h
          exact asgName_ok hkb g (.inl nh) e1 e2
        · cases h
      · rename_i o i p1 o2 i2 p2 kk p
        split at h
        · rename_i hc
          simp only [Bool.and_eq_true] at hc
          split at h
          · rename_i x y x2 y2 z e0 e1 e2 e3 e4 e5
            cases h
            simp only [evS]
            refine ls_sub2 g.hk (g.calm nh) (hf _ _ e5).pe (hf _ _ e1).pe (hf _ _ e2).pe (hf _ _ e3).pe (hf _ _ e4).pe (sole_ok hc.2) (swS_ok g.block (by rw [g.scq]; exact e0)) ?_ ?_
            · intro v
              obtain ⟨⟨h1, _⟩, _⟩ := hc
              cases i <;> first | rfl | cases h1
            · intro v
              obtain ⟨⟨_, h1⟩, _⟩ := hc
              cases i2 <;> first | rfl | cases h1
          · cases h
        · cases h
      · rename_i ts kk p _
        split at h
        · rename_i vs k2 p2
          split at h
          · rename_i hsw
            split at h
            · rename_i m' t e1 e2
              cases h
              simp only [evS]
              exact ls_asg (hf _ _ e1).pe (cTg_ok g 5 _ _ e2) (sole_ok rfl) (swP_ok g.block (by rw [g.scq]; exact hsw)) rfl
            · cases h
          · rename_i x y hsw
            split at h
            · rename_i x' xp y' yp a b
              split at h
              · rename_i hc
                simp only [Bool.and_eq_true, decide_eq_true_eq] at hc
                obtain ⟨⟨⟨⟨⟨c1, c2⟩, c3⟩, c4⟩, c5⟩, c6⟩ := hc
                subst c1 c2
                split at h
                · rename_i i j u v e1 e2 e3 e4
                  split at h
                  · cases h
                  · rename_i hij
                    cases h
                    simp only [evS]
                    refine PSimp (ps_par (g.calm nh) g.nd (by rw [g.N]; exact slotOf_ok e1) (by rw [g.N]; exact slotOf_ok e2) hij (by rw [g.scq]; exact c5) (by rw [g.scq]; exact c6) (la_cons (hf _ _ e3).pe (la_cons (hf _ _ e4).pe la_nil (star_cons c4)) (star_cons c3)) (swP_ok g.block (by rw [g.scq]; exact hsw)) (sole_ok rfl)) fun D σ H q => par_m q
                · cases h
              · cases h
            · cases h
          · cases h
        · rename_i hne
          split at h
          · rename_i hc
            split at h
            · rename_i m' t e1 e2
              cases h
              simp only [evS]
              refine ls_asg (hf _ _ e1).pe (cTg_ok g 5 _ _ e2) (sole_ok hc) ?_ rfl
              unfold swappedStores
              cases e with
              | Tuple vs k2 p2 => exact absurd rfl (hne vs k2 p2)
              | _ => rfl
            · cases h
          · cases h
      · cases h
    · split at h
      · rename_i hc
        split at h
        · rename_i m' e1
          cases h
          simp only [evS]
          exact ls_expr (hf _ _ e1).pe (notComp_ok hc)
        · cases h
      · cases h
    · split at h
      · rename_i m' e1
        cases h
        simp only [evS]
        exact ls_ret (hf _ _ e1).pe
      · cases h
    · cases h
      simp only [evS]
      exact ls_retN
    · cases h
      simp only [evS]
      exact ls_pass
    · cases h
      simp only [evS]
      exact ls_brk
    · cases h
      simp only [evS]
      exact ls_cont
    · split at h
      · rename_i ht
        split at h
        · rename_i m' x y e1 e2 e3
          cases h
          simp only [evS]
          exact ls_if ((hf _ _ e1).pt ht) (cSs_ok hS _ _ e2) (cSs_ok hS _ _ e3)
        · cases h
      · cases h
    · split at h
      · rename_i ht
        split at h
        · rename_i m' x e1 e2
          cases h
          simp only [evS]
          exact ls_while g.own ((hf _ _ e1).pt ht) (cSs_ok hS _ _ e2)
        · cases h
      · cases h
    · split at h
      · cases h
      rename_i hnh
      have nh : G.hot = false := Bool.eq_false_iff.mpr hnh
      split at h
      · rename_i hs
        split at h
        · rename_i w t x e1 e2 e3
          cases h
          simp only [evS]
          exact ls_for g.own (g.calm nh) (cWalk_ok g hf e1) (cTg_ok g 5 _ _ e2) (cSs_ok hS _ _ e3) (notSet_ok hs)
        · cases h
      · cases h
    · split at h
      · rename_i hc
        simp only [Bool.and_eq_true, Bool.not_eq_true'] at hc
        cases h
        simp only [evS]
        exact ls_raise g.hk (g.calm hc.1.1.1) g.tk (g.exc _ hc.2) (g.gl hc.1.1.2) (okNm_ok hc.1.2).1
      · cases h
    · cases h
      simp only [evS]
      refine PSimp ps_never fun D σ H q => ?_
      obtain ⟨σd, S, fa, rs, r, q⟩ := q
      exact q.elim
    · cases h
end
end DV

end
section
set_option Elab.async false
set_option linter.all false
set_option maxRecDepth 100000
set_option maxHeartbeats 8000000
set_option autoImplicit false
/-! The deep layer, part Q: defs keep their promises. -/
namespace DV
open PySem PySem.Spec PyProof.Rows L2
def fnScopeB (N ps : List Str) (sc : Scope) : Bool :=
  decide (sc.kind = .function) && (!sc.isCoroutine && (!sc.isGenerator && (decide N.Nodup && (decide (N.take ps.length = ps) && ((ps.all fun x => decide (sc.names.lookup x = some .local) || decide (sc.names.lookup x = some .cell)) && sc.names.all fun y => !decide (y.2 = .free))))))
theorem fnScope_by {N ps : List Str} {sc : Scope} (h : fnScopeB N ps sc = true) : FnScope N ps sc := by
  unfold fnScopeB at h
  simp only [Bool.and_eq_true, decide_eq_true_eq, Bool.not_eq_true', List.all_eq_true, Bool.or_eq_true, decide_eq_false_iff_not] at h
  obtain ⟨h1, h2, h3, h4, h5, h6, h7⟩ := h
  exact ⟨h1, h2, h3, h4, h5, h6, h7⟩
/-- what is true of the module for all defs -/
structure MOD (P : Program) (w : World) (K : PySem.W.Frag) (mg : Str → Option Value) (base : Heap) (C : Ctx) (consts : List (Str × D)) (fns excs : List Str) : Prop where
  hk : C.K = K
  consts : ∀ x d, consts.lookup x = some d → ∃ u v, mg x = some u ∧ RelV v u ∧ ∀ H fa, Rel C H fa d v
  fns : ∀ x, fns.contains x = true → mg x = some (.ref (He.ga K x))
  blt : ∀ x ∈ bltNames, mg x = none
  exc : ∀ x, excs.contains x = true → mg x = some (.ref (He.ga K x)) ∧ PySem.W.excIn K (He.ga K x) He.veBase "ValueError.__new__" = true ∧ PySem.W.keepIn K (.ref (He.ga K x)) = true ∧ PySem.W.subIn K (.ref (He.ga K x)) (.type "BaseException") = some true ∧ PySem.W.typeIn K (.ref (He.ga K x)) = some (.type "type")
/-- a def that may be called -/
structure FnM (P : Program) (w : World) (K : PySem.W.Frag) (mg : Str → Option Value) (base : Heap) (C : Ctx) (k : Nat) (x : Str) (n : Nat) (den : Den) : Prop where
  ex : ∃ (fd : FuncData) (ps : List Str), mg x = some (.ref (He.ga K x)) ∧ PySem.W.keepIn K (.ref (He.ga K x)) = true ∧ Binds K fd ps [] ∧ ps.length = n ∧ FnOk P w K mg base (L2N.CX P w) k (He.ga K x) fd ps (LSp C n den)
theorem FnM.mono {P : Program} {w : World} {K : PySem.W.Frag} {mg : Str → Option Value} {base : Heap} {C : Ctx} {j k : Nat} {x : Str} {n : Nat} {den : Den} (h : FnM P w K mg base C j x n den) (hjk : j ≤ k) : FnM P w K mg base C k x n den := by
  obtain ⟨fd, ps, a, b, c, d, e⟩ := h.ex
  exact ⟨fd, ps, a, b, c, d, e.mono hjk⟩
theorem hkb {k : Nat} (hk : 1 ≤ k) (A : Around) (r : Room k A) : A.units + 65 < cLine := by
  have := r.un
  omega
theorem start_rel {C : Ctx} {H : Hp} {fa : List Addr} {N : List Str} {ds : List D} {vs : List V} (h : Rels C H fa ds vs) : RelSt C H fa (ds.map some ++ List.replicate (N.length - ds.length) none) (L2.start N vs) := by
  refine ⟨by simp [L2.start, h.length], fun i d e => ?_⟩
  rcases Nat.lt_or_ge i ds.length with q | q
  · rw [List.getElem?_append_left (by simpa using q), List.getElem?_map] at e
    cases e1 : ds[i]? with
    | none => rw [e1] at e; cases e
    | some d' =>
      rw [e1] at e
      cases e
      obtain ⟨v, h1, h2⟩ := h.get e1
      refine ⟨v, ?_, h2⟩
      unfold L2.start
      rw [List.getElem?_append_left (by simpa [← h.length] using q), List.getElem?_map, h1]
      rfl
  · rw [List.getElem?_append_right (by simpa using q)] at e
    rw [List.getElem?_replicate] at e
    split at e
    · cases e
    · cases e
section
variable {P : Program} {w : World} {K : PySem.W.Frag} {mg : Str → Option Value} {base : Heap} {C : Ctx} {consts : List (Str × D)} {fns excs : List Str} {Φ : Tab} {k : Nat}
theorem gx_of (M : MOD P w K mg base C consts fns excs) (hk1 : 1 ≤ k) (tab : ∀ x n den, Φ x = some (n, den) → FnM P w K mg base C k x n den) {N ps : List Str} {sc : Scope} (S : FnScope N ps sc) {qual : Str} {f : Addr} {cdv : Value} {A : Around} {outer : List PySem.Env} {s : Shared} {H : Hp} {E : XK}
    (hr : Room k (A.deeper (envOfC qual sc s.heap.objs.size f cdv))) : GX ⟨N, consts, fns, excs, false, [], false, false⟩ C E Φ k (cxOf (L2N.CX P w) P w K mg base N qual sc f cdv A outer s H E) sc sc := by
  refine ⟨rfl, S.kind, rfl, S.nd, fun _ => rfl, .inl rfl, fun h => (by cases h), M.hk, L2N.takes_of rfl rfl rfl rfl, fun _ => hr, hkb hk1 _ hr, PassesOwn.leaving, fun x hx => ?_, M.consts, M.fns, fun x n den h => ⟨(tab x n den h).ex⟩, M.blt, fun x hx => ?_, fun c tab h => (by cases h), fun h => by cases h⟩
  · refine ⟨?_, .inl rfl⟩
    unfold wrB at hx
    split at hx
    · exact .inl (by assumption)
    · exact .inr (by assumption)
    · cases hx
  · obtain ⟨h1, h2, h3, h4, h5⟩ := M.exc x hx
    exact ⟨h1, h2, h3, h4, h5⟩
/-- THE RULE: a def whose text is turned into ms does what ms means -/
theorem def_ok (M : MOD P w K mg base C consts fns excs) (hk1 : 1 ≤ k) (tab : ∀ x n den, Φ x = some (n, den) → FnM P w K mg base C k x n den) {x : Str} {params : Arguments} {body : List Stmt} {scope : Scope} {fd : FuncData} {N ps : List Str} {ms : List MS} {n np ns : Nat}
    {y : Str} (F : FunD K y y params body scope [] [] (He.ga K x) fd) (hS : fnScopeB N ps scope = true) (hb : cSs (cS ⟨N, consts, fns, excs, false, [], false, false⟩ scope n) body = some ms) (hbd : Binds K fd ps []) (hp : ps.length = np) (hn : N.length = ns) (hg : mg x = some (.ref (He.ga K x))) :
    FnM P w K mg base C (k + 1) x np (denOf Φ np ns ms) := by
  have S := fnScope_by hS
  refine ⟨fd, ps, hg, F.kp, hbd, hp, ?_⟩
  refine F.ok S (fun vs H Q E h => by rw [h.1, hp]) (fun cdv A outer s H vs Q E hr h => ?_)
  have g := gx_of (Φ := Φ) (E := E) M hk1 tab S (qual := y) (f := He.ga K x) (cdv := cdv) (A := A) (outer := outer) (s := s) (H := H) hr
  refine ⟨_, cSs_ok (fun s m hm => cS_ok (hkb hk1) g n s m hm) body ms hb, ?_⟩
  obtain ⟨hl, ds, S0, fa, p, r, q⟩ := h
  unfold denOf at q
  split at q
  · rename_i hlen
    subst hn
    subst hlen
    refine ⟨_, S0, fa, start_rel p, r, ?_⟩
    generalize hfl : evSs Φ ms (ds.map some ++ List.replicate (N.length - ds.length) none) S0 = rr at q
    cases rr with
    | bad => exact q
    | exc x p S1 => exact q
    | ok fl S1 =>
      dsimp only [Res.bind] at q
      intro fa' H' b l r' pf
      cases fl with
      | nx σ1 =>
        cases b with
        | nx σ' => exact lk_ok (P := PD C) q l r' .non
        | _ => exact pf.elim
      | rt d =>
        cases b with
        | rt v => exact lk_ok (P := PD C) q l r' pf
        | _ => exact pf.elim
      | bk σ1 => exact q.elim
      | ct σ1 => exact q.elim
  · exact q.elim
end
end DV

end
section
set_option Elab.async false
set_option linter.all false
set_option maxRecDepth 100000
set_option maxHeartbeats 4000000
set_option autoImplicit false
/-! The deep layer, part S: several except clauses, each with a name. -/
namespace DV
open PySem PySem.Spec PyProof.Rows L2
def wManyAs (K : PySem.W.Frag) (Wout : WX) (D : Ends) (i : Nat) : List (Value × (Addr → Value → Option Addr → TS)) → WX
  | [] => Wout
  | (c, ts) :: r => fun cls d σ H => ∃ b, PySem.W.exmOne K cls c = some b ∧
      (b = true → ∀ a, H a = none → ts a cls d { nx := fun σ' H' => D.nx (σ'.set i none) H', rt := D.rt, bk := fun σ' H' => D.bk (σ'.set i none) H', ct := fun σ' H' => D.ct (σ'.set i none) H' } (σ.set i (some (.ref a))) H) ∧
      (b = false → wManyAs K Wout D i r cls d σ H)
inductive HdsAs (X : Cx) (n : Str) : List ExceptHandler → List (Value × (Addr → Value → Option Addr → TS)) → Prop
  | nil : HdsAs X n [] []
  | cons {x : Str} {c : Value} {ts : Addr → Value → Option Addr → TS} {b₀ : Stmt} {suite : List Stmt} {np pos' : Pos} {hds : List ExceptHandler} {l : List (Value × (Addr → Value → Option Addr → TS))} (hc : Names X x c)
      (hsu : ∀ (a : Addr) (oe : Obj) (cls : Value) (d : Option Addr) (pn : List (Addr × Obj)), L2N.Zn cls d oe → (∃ vs, oe.data = .fields vs) → PSs (X.suite a ((a, oe) :: pn)) (b₀ :: suite) (ts a cls d)) (r : HdsAs X n hds l) :
      HdsAs X n (.ExceptHandler (some (.Name x np)) (some n) (b₀ :: suite) pos' :: hds) ((c, ts) :: l)
section
variable {X : Cx} {body : List Stmt} {h₀ : ExceptHandler} {hds : List ExceptHandler} {l : List (Value × (Addr → Value → Option Addr → TS))} {pos : Pos} {tb : WX → TS} {Wout : WX} {i : Nat} {n : Str}
theorem ps_try_manyAs (hs : X.stack = X.env :: X.outer) (hf : X.env.frame = some X.env.locals) (hN : X.N.Nodup) (hi : X.N[i]? = some n) (hln : X.env.kindOf n = some .local) (tk : L2N.Takes X Wout)
    (hb : ∀ (W : WX) (pn : List (Addr × Obj)) (xe : Value → Shared → Prop), L2N.Takes (X.tr pn xe) W → PassesOwn (model X.prog X.w) X.A X.env xe → PSs (X.tr pn xe) body (tb W))
    (hh : HdsAs X n (h₀ :: hds) l) : PS X (.Try body (h₀ :: hds) [] [] pos) (fun D σ H => tb (wManyAs X.K Wout D i l) D σ H) := by
  refine ⟨fun pins s σ H D I h => ?_⟩
  have ok := I.ok
  have hloc : Loc X.env.scope n := .inl hln
  have hfr : X.A.frames = some (X.env :: X.outer) := by rw [ok.frames, hs]
  refine wpAny_Try_except ?_
  have behind : ∀ (f : Flow) (s1 : Shared), SP (X.tr (X.pn ++ pins) (fun e s₁ => wpAny (model X.prog X.w) X.A (noteFrame e X.env) (fun _ s₂ => wpAny (model X.prog X.w) X.A (setFlight e none) (fun _ s₃ =>
    wpAny (model X.prog X.w) X.A (handleBy e X.env (h₀ :: hds)) (SP X pins D) X.xe s₃) X.xe s₂) X.xe s₁)) [] D f s1 → SP X pins D f s1 := by
    intro f s1 hsp
    cases f with
    | next =>
      obtain ⟨σ', H', J', q⟩ := hsp
      exact ⟨σ', H', J'.ofTry ok, q⟩
    | brk =>
      obtain ⟨σ', H', J', q⟩ := hsp
      exact ⟨σ', H', J'.ofTry ok, q⟩
    | cont =>
      obtain ⟨σ', H', J', q⟩ := hsp
      exact ⟨σ', H', J'.ofTry ok, q⟩
    | ret u =>
      obtain ⟨v, σ', H', J', r, q⟩ := hsp
      exact ⟨v, σ', H', J'.ofTry ok, r, q⟩
  refine wpAny_mono ((hb (wManyAs X.K Wout D i l) (X.pn ++ pins) (fun e s₁ => wpAny (model X.prog X.w) X.A (noteFrame e X.env) (fun _ s₂ => wpAny (model X.prog X.w) X.A (setFlight e none) (fun _ s₃ =>
    wpAny (model X.prog X.w) X.A (handleBy e X.env (h₀ :: hds)) (SP X pins D) X.xe s₃) X.xe s₂) X.xe s₁) (fun u s' xx => ?_) PassesOwn.looking).run [] s σ H D (I.toTry _) h) (fun f s1 hsp => ?_) (fun e s1 he => he)
  · obtain ⟨a, B, sI, pins', σ', H', cls, d, rfl, J', nb, up, sky, na, os, ag, w⟩ := xx
    have J : Inv X pins σ' H' sI := J'.ofTry ok
    have sky' : Sky B (X.env :: X.outer) a (L2N.Zn cls d) X.env.locals s'.heap := by rw [← hs]; exact sky
    show wpAny (model X.prog X.w) X.A (noteFrame (.ref a) X.env) _ _ _
    refine L2N.Sky.land L2N.Zn.steady hfr hf sky' fun h3 fl3 up3 => ?_
    have J3 : Inv X pins σ' H' { s' with heap := h3 } := J.landed nb fl3.1 (up.trans up3) os ag
    obtain ⟨oe3, vs3, he3, hz3, hd3⟩ := fl3.there
    have nfr : a ∉ frs (X.env :: X.outer) := fun hm => by
      obtain ⟨_, o', e', hnf⟩ := fl3.2.2.1.mem hm
      rw [he3] at e'
      cases e'
      exact hnf _ hd3
    have nL : a ≠ X.env.locals := fun z => nfr (List.mem_filterMap.mpr ⟨X.env, List.mem_cons_self, by rw [hf, z]⟩)
    have nF : a ∉ X.fs := fun hm => by
      obtain ⟨e, he, q⟩ := List.mem_filterMap.mp hm
      exact nfr (List.mem_filterMap.mpr ⟨e, List.mem_cons_of_mem _ he, q⟩)
    have S3 := J3.suite he3 hd3 na nL nF
    have LT : PySem.W.Looks (model X.prog X.w) h3 (typeOf (.ref a)) cls := fun A Q E s k q => wpAny_typeOf_ref (k _ _ he3) (by rw [hz3.1]; exact q)
    have go : ∀ {hds' : List ExceptHandler} {l' : List (Value × (Addr → Value → Option Addr → TS))}, HdsAs X n hds' l' → wManyAs X.K Wout D i l' cls d σ' H' →
        wpAny (model X.prog X.w) X.A (handleBy (.ref a) X.env hds') (SP X pins D) X.xe { s' with heap := h3 } := by
      intro hds' l' hk
      induction hk with
      | nil =>
        intro w
        refine wpAny_handleBy_nil ?_
        obtain ⟨k1, k2, k3, oe, vs, T, oT, ts', he, hz, hd, h1, hr⟩ := id fl3
        unfold PySem.passOn
        refine wpAny_bind (wpAny_field he hd h1 ?_)
        rw [if_neg (show ¬ ((Value.ref T == Value.none) = true) from by simp)]
        have fin : wpAny (model X.prog X.w) X.A (setFlight (.ref a) X.env.frame) (fun _ s4 => wpAny (model X.prog X.w) X.A (throw (.ref a) : Sem Flow) (SP X pins D) X.xe s4) X.xe { s' with heap := h3 } := by
          rw [hf]
          refine HandSPX.setFlight_upZ fl3 fun h4 hh4 up4 => wpAny_throw (tk _ _ ?_)
          exact ⟨a, B, sI, pins, σ', H', cls, d, rfl, J, nb, (up.trans up3).trans up4, .inr (.inr (by rw [hs]; exact hh4)), na, os, ag, w⟩
        first
          | exact wpAny_bind (wpAny_pure (wpAny_bind fin))
          | exact wpAny_bind fin
      | @cons x c ts b₀ suite np pos' hds2 l2 hc hsu r ih =>
        intro w
        obtain ⟨b, hb1, hyes, hno⟩ := w
        refine wpAny_handleBy_cons (codeAny_handlers_test ?_) (by intro q; cases q)
        have LM := PySem.W.exm_one (M := model X.prog X.w) (J3.kIn) LT hb1
        have test : ∀ {Q : Value → Shared → Prop} {E : Value → Shared → Prop}, Q c { s' with heap := h3 } → wpAny (model X.prog X.w) (X.A.mark (some (.ref a))) (eval (.Name x np) X.env) Q E { s' with heap := h3 } := fun {Q E} q => by
          obtain ⟨hg, hdbg, hm | ⟨hm, hv, hnn⟩⟩ := hc
          · exact ld_glob (X := X.suite a ((a, oe3) :: (X.pn ++ pins))) S3 hg hm q hdbg
          · exact ld_blt (X := X.suite a ((a, oe3) :: (X.pn ++ pins))) S3 hg hm hv q hnn hdbg
        refine test (LM.here ?_)
        cases b with
        | true =>
          refine codeAny_handlers_suite_as ?_
          refine HandSPX.lands_againZ fl3 fun h4 fl4 up4 => ?_
          have J4 : Inv X pins σ' H' { s' with heap := h4 } := J.landed nb fl4.1 ((up.trans up3).trans up4) os ag
          obtain ⟨oe4, vs4, he4, hz4, hd4⟩ := fl4.there
          have S4 := J4.suite he4 hd4 na nL nF
          refine store_ok (X := X.suite a ((a, oe4) :: (X.pn ++ pins))) (v := .ref a) S4 hN hi hloc rfl (fun s5 S5 => ?_) (.inr hln)
          refine wpAny_mono ((hsu a oe4 cls d (X.pn ++ pins) hz4 ⟨_, hd4⟩).run [] s5 _ H' _ S5 (hyes rfl a na)) (fun f s6 hsp => ?_) (fun _ _ z => False.elim z)
          have end_ : ∀ {σ6 : L2.St} {H6 : Hp} {Q : Shared → Prop}, Inv (X.suite a ((a, oe4) :: (X.pn ++ pins))) [] σ6 H6 s6 → (∀ s7, Inv X pins (σ6.set i none) H6 s7 → Q s7) →
              wpAny (model X.prog X.w) X.A (do bindName X.env n .none; unbindBehindTheSuite X.env n pos') (fun _ s7 => Q s7) X.xe s6 := fun {σ6 H6 Q} S6 hq => gone_ok (S6.unsuite ok) hN hi hln hq
          cases f with
          | next =>
            obtain ⟨σ6, H6, S6, q6⟩ := hsp
            exact end_ S6 fun s7 J7 => ⟨_, _, J7, q6⟩
          | brk =>
            obtain ⟨σ6, H6, S6, q6⟩ := hsp
            exact end_ S6 fun s7 J7 => ⟨_, _, J7, q6⟩
          | cont =>
            obtain ⟨σ6, H6, S6, q6⟩ := hsp
            exact end_ S6 fun s7 J7 => ⟨_, _, J7, q6⟩
          | ret u =>
            obtain ⟨v6, σ6, H6, S6, r6, q6⟩ := hsp
            exact end_ S6 fun s7 J7 => ⟨_, _, _, J7, r6, q6⟩
        | false =>
          show wpAny _ X.A (handleBy (.ref a) X.env hds2) _ _ _
          exact ih (hno rfl)
    exact go hh w
  · have z := behind f s1 hsp
    cases f with
    | next => exact wpAny_execs_nil z
    | brk => exact z
    | cont => exact z
    | ret u => exact z
end
/-! ### isinstance of a caught exception, within a def that got it -/
section
theorem call_isE2 {X : Cx} {a D : Addr} {oe : Obj} (C : ExcC X.K D) (hz : Zc (.ref D) none oe) (hf : ∃ vs, oe.data = .fields vs) (hh : X.s_0.heap.get? a = some oe) (hn : X.H_0 a = none) (hfr : a ∉ X.fs) (hx : a ∉ X.ex) : CallR X (.builtin "isinstance") (rIsE X.K D a) := by
  intro pins s σ H xs us Q I r h
  obtain ⟨c, cv, b, rfl, hcv, e, q⟩ := h
  cases r with
  | cons rx rr =>
    cases rr with
    | cons rt rr =>
      cases rr
      cases rx
      have ec := hcv _ rt
      subst ec
      have hget : s.heap.get? a = some oe := I.base.keep a oe hh hn hfr hx
      obtain ⟨vs, hv⟩ := hf
      have J : PySem.W.InstAt s.heap a oe D none := by
        obtain ⟨oc, od, oda, osl⟩ := oe
        obtain ⟨h1, h2⟩ := hz
        dsimp only at h1 h2 hv
        subst h1 h2 hv
        exact ⟨hget, rfl, rfl, trivial⟩
      exact PySem.W.kia_one (PySem.W.handS_kitx_exc C.hg C.hk C.hs C.hd C.ha C.hn C.ht C.hm) I.kIn J e (fun z => nomatch z) fun tk => ⟨.bl b, H, I.kept (t' := tk) fun _ _ z => z, rfl, q⟩
end
end DV

end
section
set_option Elab.async false
set_option linter.all false
set_option maxRecDepth 100000
set_option maxHeartbeats 4000000
set_option autoImplicit false
/-! The deep layer, part T: the words of a caught error's classes. -/
namespace DV
open PySem PySem.Spec PyProof.Rows L2 HotX L2H
/-! ### what is computed -/
def kindN : List Str := ["Fault", "InvalidBalls", "InvalidIndex", "InvalidJuggler", "InvalidNumber", "InvalidPlan", "InvalidRound", "InvalidRounds", "InvalidSlip", "InvalidText", "NotLasting", "NothingToUndo", "TooMany", "Unlike"]
def tabK (c : Str) : List (Str × Bool) := plainK.map fun x => (x, decide (c = x))
def tabV : List (Str × Bool) := plainK.map fun x => (x, true)
def isxAll : List (Str × List (Str × Bool)) := (kindN.map fun c => (c, tabK c)) ++ [(Str.ofString "ValueError", tabV)]
def isK (c : Str) : ME := .isX (tabK c) (.var 0)
def conS (c : Str) : ME := .con (.str c)
def m_kindsA : List MS := [.asg (.nm 1) (.lst (.cons (isK "Fault") (.cons (isK "InvalidBalls") (.cons (isK "InvalidIndex") .nil)))),
  .asg (.nm 1) (.bin .add (.var 1) (.lst (.cons (isK "InvalidJuggler") (.cons (isK "InvalidNumber") (.cons (isK "InvalidPlan") .nil))))),
  .asg (.nm 1) (.bin .add (.var 1) (.lst (.cons (isK "InvalidRound") (.cons (isK "InvalidRounds") (.cons (isK "InvalidSlip") .nil))))),
  .asg (.nm 1) (.bin .add (.var 1) (.lst (.cons (isK "InvalidText") (.cons (isK "NotLasting") (.cons (isK "NothingToUndo") .nil))))),
  .asg (.nm 1) (.bin .add (.var 1) (.lst (.cons (isK "TooMany") (.cons (isK "Unlike") (.cons (.isX tabV (.var 0)) .nil))))),
  .asg (.nm 2) (.lst (.cons (conS "Fault") (.cons (conS "InvalidBalls") (.cons (conS "InvalidIndex") (.cons (conS "InvalidJuggler") (.cons (conS "InvalidNumber") (.cons (conS "InvalidPlan") .nil))))))),
  .asg (.nm 2) (.bin .add (.var 2) (.lst (.cons (conS "InvalidRound") (.cons (conS "InvalidRounds") (.cons (conS "InvalidSlip") (.cons (conS "InvalidText") (.cons (conS "NotLasting") .nil))))))),
  .asg (.nm 2) (.bin .add (.var 2) (.lst (.cons (conS "NothingToUndo") (.cons (conS "TooMany") (.cons (conS "Unlike") (.cons (conS "+") .nil))))))]
def m_kindsR : ME := .mt1 .join (.con (.str " ")) (.comp (.zipL (.var 2) (.var 1)) (.tp [(.nm 3), (.nm 4)]) [3, 4] (.some (.var 4)) (.var 3))
def m_kinds : List MS := m_kindsA ++ [.ret m_kindsR]
def kN : List Str := ["_law_e", "_law_some", "_law_labels", "_law_label", "_law_good"]
def Φ0 : Tab := fun _ => none
def lblK : List Str := kindN ++ [Str.ofString "+"]
def boolK (x : Str) : List Bool := (kindN.map fun c => decide (c = x)) ++ [true]
theorem evSs_append {Φ : Tab} : ∀ (a b : List MS) (σ σ' : Env) (S S' : Sto), evSs Φ a σ S = .ok (.nx σ') S' → evSs Φ (a ++ b) σ S = evSs Φ b σ' S'
  | [], b, σ, σ', S, S', h => by
    simp only [evSs, svNil] at h
    cases h
    rfl
  | s :: a, b, σ, σ', S, S', h => by
    simp only [List.cons_append, evSs, svSeq] at h ⊢
    cases e : evS Φ s σ S with
    | bad => rw [e] at h; cases h
    | exc _ _ _ => rw [e] at h; cases h
    | ok fl S1 =>
      rw [e] at h
      dsimp only [Res.bind] at h ⊢
      cases fl with
      | nx σ1 => exact evSs_append a b σ1 σ' S1 S' h
      | _ => cases h
theorem wipeD_len {σ : Env} : ∀ vs : List Nat, (wipeD σ vs).length = σ.length
  | [] => rfl
  | v :: vs => by
    show ((wipeD σ vs).set v none).length = σ.length
    rw [List.length_set, wipeD_len vs]
theorem comp2 {lk : List (Nat × List D)} {i j n : Nat} {vs : List Nat} {σ : Env} (hi : i < σ.length) (hj : j < σ.length) (hij : i ≠ j) (hl : ∀ p ∈ lk, p.1 ≠ n) : ∀ (its : List (Str × Bool)) (acc : List D) (S : Sto), Locked S lk → S[n]? = some (.lst acc) → acc.length + its.length < 1000 →
    ∃ S', compD lk (.tp [.nm i, .nm j]) vs (evT (evE Φ0 (.var j))) (evE Φ0 (.var i)) n σ (its.map fun p => D.tup [.str p.1, .bl p.2]) S = .ok (.ref n) S' ∧ S'[n]? = some (.lst (acc ++ (its.filter fun p => p.2).map fun p => .str p.1))
  | [], acc, S, hk, hn, _ => by
    refine ⟨S, ?_, by simpa using hn⟩
    simp only [List.map_nil, compD]
    rw [if_pos hk]
  | (l, b) :: its, acc, S, hk, hn, hz => by
    simp only [List.map_cons, compD]
    rw [if_pos hk]
    have hw : (wipeD σ vs).length = σ.length := wipeD_len vs
    have e1 : setTg (.tp [.nm i, .nm j]) (D.tup [.str l, .bl b]) (wipeD σ vs) = some (((wipeD σ vs).set i (some (.str l))).set j (some (.bl b))) := rfl
    rw [e1]
    dsimp only
    have ej : evE Φ0 (.var j) (((wipeD σ vs).set i (some (.str l))).set j (some (.bl b))) S = .ok (.bl b) S := by
      simp only [evE, evVar]
      rw [List.getElem?_set_self (by simp [hw]; exact hj)]
    have ei : evE Φ0 (.var i) (((wipeD σ vs).set i (some (.str l))).set j (some (.bl b))) S = .ok (.str l) S := by
      simp only [evE, evVar]
      rw [List.getElem?_set_ne (Ne.symm hij), List.getElem?_set_self (by rw [hw]; exact hi)]
    have ec : evT (evE Φ0 (.var j)) (((wipeD σ vs).set i (some (.str l))).set j (some (.bl b))) S = .ok b S := by
      unfold evT
      rw [ej]
      rfl
    rw [ec]
    cases b with
    | false =>
      simp only [noE, Res.bind, Bool.false_eq_true, if_false]
      obtain ⟨S', h1, h2⟩ := comp2 hi hj hij hl its acc S hk hn (by simp at hz; omega)
      exact ⟨S', h1, by simpa using h2⟩
    | true =>
      simp only [noE, Res.bind, if_true]
      rw [ei]
      dsimp only
      have ea : appD n (.str l) S = .ok .non (S.set n (.lst (acc ++ [.str l]))) := by
        unfold appD
        rw [hn]
        exact if_pos (by simp at hz; omega)
      rw [ea]
      have hn2 : n < S.length := (List.getElem?_eq_some_iff.mp hn).1
      obtain ⟨S', h1, h2⟩ := comp2 hi hj hij hl its (acc ++ [.str l]) (S.set n (.lst (acc ++ [.str l]))) (fun p hp => by
        rw [List.getElem?_set_ne (Ne.symm (hl p hp))]
        exact hk p hp) (by rw [List.getElem?_set_self hn2]) (by simp at hz ⊢; omega)
      exact ⟨S', h1, by simpa using h2⟩
theorem kinds_pre {x : Str} (hx : x ∈ plainK) : ∃ S, evSs Φ0 m_kindsA [some (.exc x), none, none, none, none] [] = .ok (.nx [some (.exc x), some (.ref 8), some (.ref 13), none, none]) S ∧ S.length = 14 ∧ S[8]? = some (.lst ((boolK x).map .bl)) ∧ S[13]? = some (.lst (lblK.map .str)) := by
  simp only [plainK, List.mem_cons, List.not_mem_nil, or_false] at hx
  rcases hx with h | h | h | h | h | h | h | h | h | h | h <;> subst h <;> exact ⟨_, rfl, rfl, rfl, rfl⟩
def kitems (x : Str) : List (Str × Bool) := lblK.zip (boolK x)
theorem kinds_word {x : Str} (hx : x ∈ plainK) : ((kitems x).filter fun p => p.2).map (·.1) = [x, Str.ofString "+"] := by
  simp only [plainK, List.mem_cons, List.not_mem_nil, or_false] at hx
  rcases hx with h | h | h | h | h | h | h | h | h | h | h <;> subst h <;> rfl
theorem kinds_den {x : Str} (hx : x ∈ plainK) : ∃ S, evSs Φ0 m_kinds [some (.exc x), none, none, none, none] [] = .ok (.rt (.str (x ++ plus))) S := by
  obtain ⟨S, h1, h0, h2, h3⟩ := kinds_pre hx
  have hw := kinds_word hx
  unfold m_kinds
  rw [evSs_append _ _ _ _ _ _ h1]
  simp only [m_kindsR, evSs, evS, svSeq, svRet, svNil, evE, evMt1, evCon, evW, evC, evComp, evVar, MK.f]
  simp only [List.getElem?_cons_succ, List.getElem?_cons_zero, Res.bind, zipLD, walkD, h2, h3, zipW]
  have eit : ((lblK.map D.str).zip ((boolK x).map D.bl)).map (fun p => D.tup [p.1, p.2]) = (kitems x).map fun p => D.tup [.str p.1, .bl p.2] := by
    rw [List.zip_map, List.map_map]
    rfl
  rw [eit]
  obtain ⟨S', c1, c2⟩ := comp2 (lk := [(13, lblK.map D.str)] ++ [(8, (boolK x).map D.bl)]) (i := 3) (j := 4) (n := S.length) (vs := [3, 4]) (σ := [some (.exc x), some (.ref 8), some (.ref 13), none, none]) (by simp) (by simp) (by decide) (by
    intro p hp
    simp only [List.cons_append, List.nil_append, List.mem_cons, List.not_mem_nil, or_false] at hp
    rcases hp with h | h <;> subst h <;> simp [h0]) (kitems x) [] (S ++ [.lst []]) (by
    intro p hp
    simp only [List.cons_append, List.nil_append, List.mem_cons, List.not_mem_nil, or_false] at hp
    rcases hp with h | h <;> subst h
    · rw [List.getElem?_append_left (show 13 < S.length by rw [h0]; decide)]; exact h3
    · rw [List.getElem?_append_left (show 8 < S.length by rw [h0]; decide)]; exact h2) (by simp) (by
    have : (kitems x).length ≤ lblK.length := by unfold kitems; rw [List.length_zip]; exact Nat.min_le_left _ _
    have h : lblK.length = 15 := rfl
    simp; omega)
  simp only [evE, evVar] at c1
  rw [c1]
  have ef : ((kitems x).filter fun p => p.2).map (fun p => D.str p.1) = [D.str x, D.str "+"] := by
    have := congrArg (List.map D.str) hw
    rw [List.map_map] at this
    exact this
  rw [ef] at c2
  simp only [List.nil_append] at c2
  simp only [plainK, List.mem_cons, List.not_mem_nil, or_false] at hx
  refine ⟨S', ?_⟩
  unfold joinD
  simp only [lstOf, c2]
  rcases hx with h | h | h | h | h | h | h | h | h | h | h <;> subst h <;> rfl
end DV

end
section
set_option Elab.async false
set_option linter.all false
set_option maxRecDepth 100000
set_option maxHeartbeats 4000000
set_option autoImplicit false
/-! The deep layer, part X: what _law_call makes of a lambda. -/
namespace DV
open PySem PySem.Spec PyProof.Rows L2 HotX L2H
/-- a def entered where an exception is handled, the exception told -/
theorem run_ofH {CX : CXT} {P : Program} {w : World} {K : PySem.W.Frag} {mg : Str → Option Value} {base : Heap} {k : Nat} {f : Addr} {name qual : Str} {params : Arguments} {body : List Stmt} {scope : Scope} {dV kV doc pm cdv ct oc : Value} {an od : Option Addr}
    {osl : Array (Option Value)} {N ps : List Str} {A : Around} {outer : List PySem.Env} {s : Shared} {H : Hp} {args : Args} {us : List Value} {vs : List V} {Q : VK} {E : XK} {p : Addr × Obj}
    (lk : K.lookup f = some ⟨oc, od, .func (PySem.W.fnOf name qual params body scope dV kV doc pm an cdv ct), osl⟩) (hcd : PySem.W.codeIn K cdv qual = true) (S : FnScope N ps scope)
    (hr : RoomH (k + 1) A) (hpin : PinOk outer H s p) (e0 : Env0 P w K mg base A outer s H) (hb : BindsTo s (PySem.W.fnOf name qual params body scope dV kV doc pm an cdv ct) args (ps.zip us)) (r : Vals vs us) (hl : vs.length = ps.length)
    (hbody : RoomH k (A.deeper (envOfC qual scope s.heap.objs.size f cdv)) → ∃ t, PSs (cxH CX P w K mg base N qual scope f cdv A outer s H E p) body t ∧ t { nx := fun _ H' => Q .non H', rt := Q } (L2.start N vs) H) :
    codeAny (model P w) A (.call (.ref f) args) (CR CX outer P w H s Q E) s := by
  have KX : K.In s.heap := e0.mod.kin.keeps fun b o e => (e0.bs b o e).1
  have lim : s.heap.NoLimit := e0.mod.nolimit.keeps fun b o e => (e0.bs b o e).1
  refine codeAny_call_function hr.depth (KX _ _ lk) rfl S.co S.gen rfl (PySem.W.codeRec_of KX hcd) (hb _ _ _ _ ?_)
  refine wpAny_newFunctionEnv_cells S.kind (fun ⟨n, v⟩ hy => ?_) fun env he s1 x => ?_
  · rcases S.par n (List.of_mem_zip hy).1 with q | q
    · exact .inl q
    · exact .inr ⟨q, PySem.W.cellsFrom_some _ _ _ (.inl q)⟩
  subst he
  refine ⟨lim.keeps x.toInCall.keep, codeAny_func ?_⟩
  obtain ⟨t, ht, hq⟩ := hbody (hr.deeper _)
  refine wpAny_mono (ht.run [] s1 (L2.start N vs) H _ (inv_startH S hpin e0 hl r x) hq) (fun fl s' hs => ?_) fun e s' hs => hs
  cases fl with
  | ret u =>
    obtain ⟨v, σ', H', J, rv, q⟩ := hs
    exact ⟨v, H', J.os, J.bare, J.base, J.hok, rv, q⟩
  | next =>
    obtain ⟨σ', H', J, q⟩ := hs
    exact ⟨V.non, H', J.os, J.bare, J.base, J.hok, rfl, q⟩
  | brk =>
    obtain ⟨_, _, _, q⟩ := hs
    exact False.elim q
  | cont =>
    obtain ⟨_, _, _, q⟩ := hs
    exact False.elim q
/-- isinstance(e, c), e an exception that the context pins -/
theorem call_isE3 {X : Cx} {a D : Addr} {oe : Obj} (hp : (a, oe) ∈ X.pn) (C : ExcC X.K D) (hz : Zc (.ref D) none oe) (hf : ∃ vs, oe.data = .fields vs) : CallR X (.builtin "isinstance") (rIsE X.K D a) := by
  intro pins s σ H xs us Q I r h
  obtain ⟨c, cv, b, rfl, hcv, e, q⟩ := h
  cases r with
  | cons rx rr =>
    cases rr with
    | cons rt rr =>
      cases rr
      cases rx
      have ec := hcv _ rt
      subst ec
      have hget := (I.pin (a, oe) (List.mem_append_left _ hp)).1
      obtain ⟨vs, hv⟩ := hf
      have J : PySem.W.InstAt s.heap a oe D none := by
        obtain ⟨oc, od, oda, osl⟩ := oe
        obtain ⟨h1, h2⟩ := hz
        dsimp only at h1 h2 hv
        subst h1 h2 hv
        exact ⟨hget, rfl, rfl, trivial⟩
      exact PySem.W.kia_one (PySem.W.handS_kitx_exc C.hg C.hk C.hs C.hd C.ha C.hn C.ht C.hm) I.kIn J e (fun z => nomatch z) fun tk => ⟨.bl b, H, I.kept (t' := tk) fun _ _ z => z, rfl, q⟩
/-- what the head tells of the classes -/
structure KF (K : PySem.W.Frag) (mg : Str → Option Value) : Prop where
  exC : ∀ x ∈ plainK, ExcC K (He.ga K x)
  cls : ∀ c ∈ kindN, mg c = some (.ref (He.ga K c))
  kit : ∀ x ∈ plainK, ∀ c ∈ kindN, PySem.W.kitOne K (.ref (He.ga K x)) (.ref (He.ga K c)) = some (decide (c = x))
  ve : mg (Str.ofString "ValueError") = none
  kitV : ∀ x ∈ plainK, PySem.W.kitOne K (.ref (He.ga K x)) (.type "ValueError") = some true
  ball : mg (Str.ofString "BallError") = some (.ref (He.ga K "BallError"))
  exm : ∀ x ∈ plainK, PySem.W.exmOne K (.ref (He.ga K x)) (.ref (He.ga K "BallError")) = some true ∧ PySem.W.exmOne K (.ref (He.ga K x)) (.ref (He.ga K "TooMany")) = some false ∧
    PySem.W.exmOne K (.ref (He.ga K x)) (.ref (He.ga K "InvalidText")) = some false ∧ PySem.W.exmOne K (.ref (He.ga K x)) (.ref (He.ga K "Fault")) = some false
theorem lookup_map {β : Type} {f : Str → β} : ∀ {l : List Str} {c : Str} {b : β}, (l.map fun x => (x, f x)).lookup c = some b → c ∈ l ∧ b = f c
  | [], _, _, h => by cases h
  | x :: l, c, b, h => by
    simp only [List.map_cons, List.lookup_cons] at h
    split at h
    · rename_i e
      have e := eq_of_beq e
      subst e
      cases h
      exact ⟨List.mem_cons_self, rfl⟩
    · obtain ⟨h1, h2⟩ := lookup_map h
      exact ⟨List.mem_cons_of_mem _ h1, h2⟩
theorem lookup_app {β : Type} {m : List (Str × β)} {c : Str} {b : β} : ∀ {l : List (Str × β)}, (l ++ m).lookup c = some b → l.lookup c = some b ∨ m.lookup c = some b
  | [], h => .inr h
  | (x, y) :: l, h => by
    simp only [List.cons_append, List.lookup_cons] at h ⊢
    split at h
    · exact .inl (by simpa using h)
    · exact lookup_app h
/-- the context within which isinstance is asked -/
def CtxE (C : Ctx) (x : Str) (a : Addr) : Ctx := ⟨C.K, C.T, [], [(x, a)]⟩
theorem isx_ok {X : Cx} {C : Ctx} {E : XK} {x : Str} {a : Addr} {oe : Obj} (kf : KF X.K X.mg) (hk : C.K = X.K) (hb : X.mg (Str.ofString "isinstance") = none) (hx : x ∈ plainK) (hp : (a, oe) ∈ X.pn) (hz : Zc (.ref (He.ga X.K x)) none oe) (hf : ∃ vs, oe.data = .fields vs) {c : Str} {tab : List (Str × Bool)}
    (ht : isxAll.lookup c = some tab) {e : Expr} {f : DE} {p p2 pos : Pos} (hg2 : Gl X c) (hg : Gl X (Str.ofString "isinstance")) (hs : notStar e = true) (he : PE X e (LE (CtxE C x a) E f)) :
    PE X (.Call (.Name (Str.ofString "isinstance") p) [e, .Name c p2] [] pos) (LE (CtxE C x a) E (evIsX tab f)) := by
  have main : ∀ (cv : V) (u : Value), PE X (.Name c p2) (tC cv) → (∀ u', RelV cv u' → u' = u) → (∀ b, tab.lookup x = some b → PySem.W.kitOne X.K (.ref (He.ga X.K x)) u = some b) →
      PE X (.Call (.Name (Str.ofString "isinstance") p) [e, .Name c p2] [] pos) (LE (CtxE C x a) E (evIsX tab f)) := by
    intro cv u hc hcu hkit
    refine PEimp (pe_callB (id := "isinstance") (call_isE3 hp (kf.exC x hx) hz hf) hg hb (by decide +kernel) (pa_cons he (pa_cons hc pa_nil (by rfl)) (star_cons hs)) (by decide) (by decide) (star_cons hs) (by rfl)) fun σ H Q q => ?_
    obtain ⟨σd, S, fa, rs, r, q⟩ := q
    refine ⟨σd, S, fa, rs, r, (LKg.bind q).mono ?_⟩
    rintro v H1 ⟨fa1, S1, d, l1, r1, p1, q1⟩
    split at q1
    · rename_i y
      split at q1
      · rename_i b eb
        cases p1 with
        | exc hm =>
          have hm := List.mem_singleton.mp hm
          cases hm
          exact ⟨cv, u, b, rfl, hcu, hkit b eb, lk_same q1 r1 (.bl _)⟩
      · exact q1.elim
    · exact q1.elim
  have dbg : ∀ c ∈ kindN, (c == ("__debug__" : Str)) = false := by decide
  rcases lookup_app ht with h | h
  · obtain ⟨h1, rfl⟩ := lookup_map h
    refine main (.ref (He.ga X.K c)) (.ref (He.ga X.K c)) (pe_glob hg2 (kf.cls c h1) rfl (dbg c h1)) (fun u' h => h) fun b hb => ?_
    obtain ⟨_, rfl⟩ := lookup_map hb
    exact kf.kit x hx c h1
  · have e1 : c = Str.ofString "ValueError" ∧ tab = tabV := by
      simp only [List.lookup_cons, List.lookup_nil] at h
      split at h
      · rename_i e
        exact ⟨eq_of_beq e, (Option.some.inj h).symm⟩
      · cases h
    obtain ⟨rfl, rfl⟩ := e1
    refine main (.ty "ValueError") (.type "ValueError") (pe_bltn hg2 kf.ve (by decide +kernel) rfl (by decide) (by decide)) (fun u' h => h) fun b hb => ?_
    obtain ⟨_, rfl⟩ := lookup_map (f := fun _ => true) hb
    exact kf.kitV x hx
end DV

end
section
set_option Elab.async false
set_option linter.all false
set_option maxRecDepth 100000
set_option maxHeartbeats 4000000
set_option autoImplicit false
/-! The deep layer, part Y: _law_kinds called, _law_call. -/
namespace DV
open PySem PySem.Spec PyProof.Rows L2 HotX L2H
def GK : GE := ⟨kN, [], [], [], false, isxAll, true, true⟩
/-- what is known of _law_kinds -/
structure KD (K : PySem.W.Frag) (mg : Str → Option Value) : Prop where
  ex : ∃ (params : Arguments) (body : List Stmt) (scope : Scope) (fd : FuncData) (n : Nat), FunD K "_law_kinds" "_law_kinds" params body scope [] [] (He.ga K "_law_kinds") fd ∧ fnScopeB kN ["_law_e"] scope = true ∧ cSs (cS GK scope n) body = some m_kinds ∧ Binds K fd ["_law_e"] []
  gl : mg "_law_kinds" = some (.ref (He.ga K "_law_kinds"))
  blt : ∀ x ∈ bltNames, mg x = none
  kf : KF K mg
/-- the body, entered -/
theorem kinds_body {P : Program} {w : World} {K : PySem.W.Frag} {mg : Str → Option Value} {base : Heap} {C : Ctx} (kd : KD K mg) (hk : C.K = K) {x : Str} (hx : x ∈ plainK) {A : Around} {outer : List PySem.Env} {s : Shared} {H : Hp} {a : Addr} {oe : Obj} {cdv : Value} {scope : Scope} {body : List Stmt} {n : Nat}
    (hz : L2N.Zn (.ref (He.ga K x)) none oe) (hf : ∃ vs, oe.data = .fields vs) (hh : A.handled = some (.ref a)) (hS : FnScope kN ["_law_e"] scope) (hb : cSs (cS GK scope n) body = some m_kinds) {k : Nat} (hr : RoomH k (A.deeper (envOfC "_law_kinds" scope s.heap.objs.size (He.ga K "_law_kinds") cdv))) :
    PSs (cxH (L2N.CX P w) P w K mg base kN "_law_kinds" scope (He.ga K "_law_kinds") cdv A outer s H (fun _ _ _ => False) (a, oe)) body (LS (CtxE C x a) (fun _ _ _ => False) (evSs Φ0 m_kinds)) := by
  have hkb : ∀ A : Around, Room 1 A → A.units + 65 < cLine := fun A r => by have := r.un; omega
  have hot : HotC (cxH (L2N.CX P w) P w K mg base kN "_law_kinds" scope (He.ga K "_law_kinds") cdv A outer s H (fun _ _ _ => False) (a, oe)) := by
    obtain ⟨vs, hv⟩ := hf
    exact ⟨(a, oe), ⟨hh, vs, hv, hz.2.2 vs hv⟩, List.mem_singleton.mpr rfl⟩
  have g : GX GK (CtxE C x a) (fun _ _ _ => False) Φ0 1 (cxH (L2N.CX P w) P w K mg base kN "_law_kinds" scope (He.ga K "_law_kinds") cdv A outer s H (fun _ _ _ => False) (a, oe)) scope scope := by
    refine ⟨rfl, hS.kind, rfl, hS.nd, fun h => (by cases h), .inr (hotK_of hot), fun _ => hot, hk, L2N.takes_of rfl rfl rfl rfl, fun h => (by cases h), ?_, PassesOwn.leaving, fun y hy => ?_, fun y d h => (by cases h), fun y h => (by cases h), fun y n den h => (by cases h), kd.blt, fun y h => (by cases h), ?_, fun h => (by cases h)⟩
    · have := hr.un
      show (A.deeper (envOfC "_law_kinds" scope s.heap.objs.size (He.ga K "_law_kinds") cdv)).units + 65 < cLine
      omega
    · refine ⟨?_, .inl rfl⟩
      unfold wrB at hy
      split at hy
      · exact .inl (by assumption)
      · exact .inr (by assumption)
      · cases hy
    · intro c tab ht e f p p2 pos hc hi hs he
      exact isx_ok (X := cxH (L2N.CX P w) P w K mg base kN "_law_kinds" scope (He.ga K "_law_kinds") cdv A outer s H (fun _ _ _ => False) (a, oe)) kd.kf hk (kd.blt _ (by simp [bltNames])) hx (List.mem_singleton.mpr rfl) hz.zc hf ht (glB_ok hc) (glB_ok hi) hs he
  exact cSs_ok (fun s m hm => cS_ok hkb g n s m hm) body m_kinds hb
/-- _law_kinds(e), e the exception that is handled -/
def tKinds (T : List (Addr × Str)) (i : Nat) (a : Addr) (cls : Value) (d : Option Addr) (K : PySem.W.Frag) : TE := fun σ H Q => σ[i]? = some (some (.ref a)) ∧ ∃ x, x ∈ plainK ∧ cls = .ref (He.ga K x) ∧ d = none ∧ LamX.Tabs T H ∧ ∀ H', LamX.ExtN H H' → LamX.Tabs T H' → Q (.str (x ++ plus)) H'
theorem pe_kinds {X : Cx} {T : List (Addr × Str)} {a : Addr} {oe : Obj} {cls : Value} {d : Option Addr} {i : Nat} {q p2 pos : Pos} {k : Nat} (kd : KD X.K X.mg) (hp : (a, oe) ∈ X.pn) (hh : X.A.handled = some (.ref a)) (hz : L2N.Zn cls d oe) (hf : ∃ vs, oe.data = .fields vs) (hr : RoomH (k + 1) X.A)
    (hN : X.N[i]? = some (Str.ofString "_law_e")) (hv : Vis X.env.scope (Str.ofString "_law_e")) (hg : Gl X (Str.ofString "_law_kinds")) :
    PE X (.Call (.Name (Str.ofString "_law_kinds") q) [.Name (Str.ofString "_law_e") p2] [] pos) (tKinds T i a cls d X.K) := by
  refine ⟨fun pins s σ H Q I h => ?_⟩
  obtain ⟨hs, x, hx, hcls, hd, hT, hQ⟩ := h
  subst hcls hd
  obtain ⟨params, body, scope, fd, n, F, hS, hb, hbd⟩ := kd.ex
  have S := fnScope_by hS
  obtain ⟨oc, od, dV, kV, doc, pm, an, cdv, ct, osl, hfd, lk, hcd, _, _⟩ := F.ex
  refine wpAny_Call_Name_kw (ld_glob I hg kd.gl ?_ (by decide))
  have ha : PA X [.Name (Str.ofString "_law_e") p2] (tCons (tVar i) tNil) := pa_cons (pe_var hN hv (by decide) (by decide)) pa_nil
  refine PySem.W.callWith_K (h₀ := X.base) I.ok.mod.kin F.kp (thn (ha.run pos pins s σ H (fun vs H1 => vs = [V.ref a] ∧ H = H1) I ⟨.ref a, hs, rfl, rfl⟩) fun us s1 hh1 => ?_) rfl rfl
  obtain ⟨vs, H1, I1, r1, ev, eH⟩ := hh1
  subst ev eH
  refine ⟨I1.kIn, ?_⟩
  have P := I1.pin (a, oe) (List.mem_append_left _ hp)
  have hpin : PinOk X.stack H s1 (a, oe) := ⟨P.1, P.2.1, fun hm => (List.mem_cons.mp (I1.stkSub a hm)).elim P.2.2.1 P.2.2.2.1, P.2.2.2.2⟩
  have b := hbd s1 us I1.kIn (by have := r1.length; simpa using this.symm)
  rw [List.append_nil, hfd] at b
  rw [hfd] at lk
  obtain ⟨S', hev⟩ := kinds_den hx
  have rc : codeAny (model X.prog X.w) X.A (.call (.ref (He.ga X.K "_law_kinds")) ⟨us, []⟩) (CR (L2N.CX X.prog X.w) X.stack X.prog X.w H s1 Q (fun _ _ _ => False)) s1 := by
    refine run_ofH (N := kN) (ps := ["_law_e"]) (vs := [V.ref a]) (p := (a, oe)) lk hcd S hr hpin I1.env0 b r1 rfl fun hr' => ?_
    refine ⟨_, kinds_body (C := ⟨X.K, T, [], []⟩) kd rfl hx hz hf hh S hb hr', ?_⟩
    refine ⟨[some (.exc x), none, none, none, none], [], [], ⟨rfl, fun j d e => ?_⟩, ⟨rfl, List.nodup_nil, fun n a o e => (by simp at e), hT, fun p hp => (by cases hp)⟩, ?_⟩
    · match j, e with
      | 0, e =>
        cases e
        exact ⟨.ref a, rfl, .exc (List.mem_singleton.mpr rfl)⟩
      | 1, e => cases e
      | 2, e => cases e
      | 3, e => cases e
      | 4, e => cases e
      | j + 5, e => simp at e
    · rw [hev]
      intro fa' H' b' l r pf
      cases b' with
      | rt v =>
        have pf : Rel (CtxE ⟨X.K, T, [], []⟩ x a) H' fa' (.str (x ++ plus)) v := pf
        cases pf
        exact hQ H' l.ext r.tabs
      | _ => exact pf.elim
  refine wpAny_call (codeAny_mono rc fun r s2 hq => ?_)
  cases r with
  | error e =>
    obtain ⟨_, _, _, _, _, _, _, _, _, _, _, _, z⟩ := hq
    exact z.elim
  | ok fl =>
    cases fl with
    | ret u => exact I1.after hq
    | next => exact False.elim hq
    | brk => exact False.elim hq
    | cont => exact False.elim hq
end DV

end
section
set_option Elab.async false
set_option linter.all false
set_option maxRecDepth 100000
set_option maxHeartbeats 4000000
set_option autoImplicit false
/-! The deep layer, part Z: _law_call. -/
namespace DV
open PySem PySem.Spec PyProof.Rows L2 HotX L2H
def cN : List Str := ["_law_call_so", "_law_found", "_law_e"]
/-- the text of _law_call, but for the clauses that are not walked -/
def callShape : List Stmt → Bool
  | [.Assign [.Name a _] (.Constant .none _ _) _, .Try [.Assign [.Name b _] (.Tuple [.Constant (.str c) _ _, .Call (.Name d _) [] [] _] _ _) _] [.ExceptHandler (some (.Name e1 _)) (some n1) (_ :: _) _, .ExceptHandler (some (.Name e2 _)) (some n2) (_ :: _) _, .ExceptHandler (some (.Name e3 _)) (some n3) (_ :: _) _, .ExceptHandler (some (.Name e4 _)) (some n4) [.Assign [.Name g _] (.Tuple [.Call (.Name h _) [.Name i _] [] _] _ _) _] _] [] [] _, .Return (some (.Name j _)) _] =>
    decide (a = Str.ofString "_law_found") && (decide (b = Str.ofString "_law_found") && (decide (c = Str.ofString "told") && (decide (d = Str.ofString "_law_call_so") && (decide (e1 = Str.ofString "TooMany") && (decide (e2 = Str.ofString "InvalidText") && (decide (e3 = Str.ofString "Fault") && (decide (e4 = Str.ofString "BallError") &&
      (decide (n1 = Str.ofString "_law_e") && (decide (n2 = Str.ofString "_law_e") && (decide (n3 = Str.ofString "_law_e") && (decide (n4 = Str.ofString "_law_e") && (decide (g = Str.ofString "_law_found") && (decide (h = Str.ofString "_law_kinds") && (decide (i = Str.ofString "_law_e") && decide (j = Str.ofString "_law_found")))))))))))))))
  | _ => false
def callSc (sc : Scope) : Bool := fnScopeB cN ["_law_call_so"] sc && (decide (sc.names.lookup (Str.ofString "_law_call_so") = some .local) && (decide (sc.names.lookup (Str.ofString "_law_found") = some .local) && (decide (sc.names.lookup (Str.ofString "_law_e") = some .local) && (glB sc (Str.ofString "TooMany") && (glB sc (Str.ofString "InvalidText") && (glB sc (Str.ofString "Fault") && (glB sc (Str.ofString "BallError") && glB sc (Str.ofString "_law_kinds"))))))))
/-- what it makes of the lambda's reading -/
def TTcall (K : PySem.W.Frag) (T : List (Addr × Str)) : (XK → Hp → VK → Prop) → Hp → VK → Prop := fun tl H Q =>
  tl (fun cls d H' => ∃ x, x ∈ plainK ∧ cls = .ref (He.ga K x) ∧ d = none ∧ LamX.Tabs T H' ∧ ∀ H'', LamX.ExtN H' H'' → LamX.Tabs T H'' → ∀ p, H'' p = none → Q (.ref p) (upd H'' p (.tup [.str (x ++ plus)])))
    H (fun v H' => ∀ p, H' p = none → Q (.ref p) (upd H' p (.tup [.str "told", v])))
theorem pe_weak {X : Cx} {e : Expr} {te : TE} (h : PE X e te) : PE X e (fun σ H Q => ∃ κ : VK, (∀ v H, κ v H → Q v H) ∧ te σ H κ) := by
  refine ⟨fun pins s σ H Q I hq => ?_⟩
  obtain ⟨κ, hk, q⟩ := hq
  exact thn (h.run pins s σ H κ I q) fun v s1 ⟨x, H1, I1, r1, q1⟩ => ⟨x, H1, I1, r1, hk _ _ q1⟩
theorem gives_call {X : Cx} {T : List (Addr × Str)} {sg : Scope} {g : Addr} {cdg : Value} {bg : List Stmt} {q : Str} {k : Nat} (kd : KD X.K X.mg) (hsh : callShape bg = true) (hsc : callSc sg = true) : GivesToN X cN "_law_call" sg g cdg bg "_law_call_so" q (k + 1) (TTcall X.K T) := by
  unfold callSc at hsc
  simp only [Bool.and_eq_true, decide_eq_true_eq] at hsc
  obtain ⟨sc0, sc1, sc2, sc3, sc4, sc5, sc6, sc7, sc8⟩ := hsc
  unfold callShape at hsh
  split at hsh
  · rename_i a p1 k1 p2 p3 b p4 c k2 p5 d p6 p7 k3 p8 p9 e1 p10 n1 b1 s1 p11 e2 p12 n2 b2 s2 p13 e3 p14 n3 b3 s3 p15 e4 p16 n4 gg p17 hh p18 ii p19 p20 k4 p21 p22 p23 p24 jj p25 p26
    simp only [Bool.and_eq_true, decide_eq_true_eq] at hsh
    obtain ⟨rfl, rfl, rfl, rfl, rfl, rfl, rfl, rfl, rfl, rfl, rfl, rfl, rfl, rfl, rfl, rfl⟩ := hsh
    intro f c' s H Q tl hr act hc h
    generalize hY : CtxG X cN "_law_call" sg g cdg s H = Y at act hr ⊢
    have yN : Y.N = cN := by rw [← hY]; rfl
    have yK : Y.K = X.K := by rw [← hY]; rfl
    have ym : Y.mg = X.mg := by rw [← hY]; rfl
    have ys : Y.env.scope = sg := by rw [← hY]; rfl
    have yst : Y.stack = Y.env :: Y.outer := by rw [← hY]; rfl
    have yfr : Y.env.frame = some Y.env.locals := by rw [← hY]; rfl
    have hln : Y.env.kindOf (Str.ofString "_law_e") = some .local := by
      show Y.env.scope.names.lookup _ = _
      rw [ys]
      exact sc3
    have hlf : Loc Y.env.scope (Str.ofString "_law_found") := by rw [ys]; exact .inl sc2
    have nd : Y.N.Nodup := by rw [yN]; decide
    have n1 : Y.N[1]? = some (Str.ofString "_law_found") := by rw [yN]; rfl
    have n2 : Y.N[2]? = some (Str.ofString "_law_e") := by rw [yN]; rfl
    have gl : ∀ x, glB sg x = true → Gl Y x := fun x hx => by
      show Y.env.scope.names.lookup x = _
      rw [ys]
      exact glB_ok hx
    have cls : ∀ c ∈ kindN, Y.mg c = some (.ref (He.ga X.K c)) := fun c hc => by rw [ym]; exact kd.kf.cls c hc
    have kd' : KD Y.K Y.mg := by rw [yK, ym]; exact kd
    have hfl : Y.env.scope.names.lookup (Str.ofString "_law_found") = some .local := by rw [ys]; exact sc2
    have body : ∀ (W : WX) (pn : List (Addr × Obj)) (xe : Value → Shared → Prop), L2N.Takes (Y.nox.tr pn xe) W → PSs (Y.nox.tr pn xe) [.Assign [.Name (Str.ofString "_law_found") p4] (.Tuple [.Constant (.str (Str.ofString "told")) k2 p5, .Call (.Name (Str.ofString "_law_call_so") p6) [] [] p7] k3 p8) p9]
        (fun D σ H => ∃ Ech κ, (∀ cls d H', Ech cls d H' → W cls d σ H') ∧ (∀ v H', κ v H' → ∀ p, H' p = none → D.nx (σ.set 1 (some (.ref p))) (upd H' p (.tup [.str (Str.ofString "told"), v]))) ∧ σ[0]? = some (some (.ref f)) ∧ H c' = some (LamX.CodeO c' q) ∧ tl Ech H κ) := by
      intro W pn xe tk
      refine ⟨fun pins s' σ H' D I h' => ?_⟩
      obtain ⟨Ech, κ, hW, hk, h1, h2, h3⟩ := h'
      have hp := pe_weak (act W pn xe Ech p6 p7 tk)
      have hpt : PE (Y.nox.tr pn xe) (.Tuple [.Constant (.str (Str.ofString "told")) k2 p5, .Call (.Name (Str.ofString "_law_call_so") p6) [] [] p7] k3 p8) _ := pe_tup (pa_cons (pe_str (X := Y.nox.tr pn xe)) (pa_cons hp pa_nil) (by rfl))
      have hq := pss_one (ps_asg (pos := p9) (X := Y.nox.tr pn xe) hpt (pg_name (pos := p4) (i := 1) nd n1 hlf (.inr hfl)) (by rfl) (by rfl) (by rfl))
      refine hq.run pins s' σ H' D I ?_
      refine ⟨κ, fun v H1 hv => ?_, hW, h1, h2, h3⟩
      exact ⟨by show 2 ≤ sizeLine; decide, fun p hp => hk v H1 hv p hp⟩
    have suite : ∀ (a : Addr) (oe : Obj) (cls : Value) (d : Option Addr) (pn : List (Addr × Obj)), L2N.Zn cls d oe → (∃ vs, oe.data = .fields vs) → PSs (Y.nox.suite a ((a, oe) :: pn)) [.Assign [.Name (Str.ofString "_law_found") p17] (.Tuple [.Call (.Name (Str.ofString "_law_kinds") p18) [.Name (Str.ofString "_law_e") p19] [] p20] k4 p21) p22]
        (tAsg (tTup (tCons (tKinds T 2 a cls d Y.K) tNil)) (gName 1)) := by
      intro a oe cls d pn hz hf
      have hr2 : RoomH (k + 1) (Y.nox.suite a ((a, oe) :: pn)).A := by
        have h := roomH_of hr
        exact ⟨by have := h.dp; show Y.A.depth + 3 * (k + 1) + 5 < _; omega, by have := h.un; show Y.A.units + 16 * (k + 1) + 200 < _; omega⟩
      have hp : PE (Y.nox.suite a ((a, oe) :: pn)) (.Call (.Name (Str.ofString "_law_kinds") p18) [.Name (Str.ofString "_law_e") p19] [] p20) (tKinds T 2 a cls d Y.K) :=
        pe_kinds (X := Y.nox.suite a ((a, oe) :: pn)) kd' (List.mem_cons_self) rfl hz hf hr2 n2 (.inl hln) (gl _ sc8)
      have hpt : PE (Y.nox.suite a ((a, oe) :: pn)) (.Tuple [.Call (.Name (Str.ofString "_law_kinds") p18) [.Name (Str.ofString "_law_e") p19] [] p20] k4 p21) _ := pe_tup (pa_cons hp pa_nil (by rfl))
      exact pss_one (ps_asg (pos := p22) (X := Y.nox.suite a ((a, oe) :: pn)) hpt (pg_name (pos := p17) (i := 1) nd n1 hlf (.inr hfl)) (by rfl) (by rfl) (by rfl))
    refine ⟨_, pss_cons (ps_asg (X := Y.nox) pe_non (pg_name (i := 1) nd n1 hlf (.inr hfl)) (by rfl) (by rfl) (by rfl)) (pss_cons (ps_try_manyAs (X := Y.nox) (i := 2) (n := Str.ofString "_law_e") yst yfr nd n2 hln takes0N (fun W pn xe tk _ => body W pn xe tk)
      (.cons (c := .ref (He.ga X.K "TooMany")) (ts := fun _ _ _ => tNever) ⟨gl _ sc4, by decide, .inl (cls _ (by decide))⟩ (fun _ _ _ _ _ _ _ => pss_never)
      (.cons (c := .ref (He.ga X.K "InvalidText")) (ts := fun _ _ _ => tNever) ⟨gl _ sc5, by decide, .inl (cls _ (by decide))⟩ (fun _ _ _ _ _ _ _ => pss_never)
      (.cons (c := .ref (He.ga X.K "Fault")) (ts := fun _ _ _ => tNever) ⟨gl _ sc6, by decide, .inl (cls _ (by decide))⟩ (fun _ _ _ _ _ _ _ => pss_never)
      (.cons (c := .ref (He.ga X.K "BallError")) (ts := fun a cls d => tAsg (tTup (tCons (tKinds T 2 a cls d Y.K) tNil)) (gName 1)) ⟨gl _ sc7, by decide, .inl (by rw [ym]; exact kd.kf.ball)⟩ suite .nil))))) (pss_one (ps_ret (pe_var (X := Y.nox) (i := 1) n1 (.inl hfl) (by decide) (by decide))))), ?_⟩
    rw [yK]
    -- what is wanted
    refine ⟨_, _, fun cls d H' he => ?_, fun v H' hv p hp => ?_, ?_, hc, h⟩
    · obtain ⟨x, hx, rfl, rfl, hT, hQ⟩ := he
      obtain ⟨m1, m2, m3, m4⟩ := kd.kf.exm x hx
      have no : ∀ {P : Prop}, (false = true → P) := fun z => absurd z (by decide)
      have no2 : ∀ {P : Prop}, (true = false → P) := fun z => absurd z (by decide)
      refine ⟨false, m2, no, fun _ => ?_⟩
      refine ⟨false, m3, no, fun _ => ?_⟩
      refine ⟨false, m4, no, fun _ => ?_⟩
      refine ⟨true, m1, fun _ a ha => ?_, no2⟩
      refine ⟨rfl, x, hx, rfl, rfl, hT, fun H'' e t => ⟨by show 1 ≤ sizeLine; decide, fun p hp => ?_⟩⟩
      exact ⟨.ref p, rfl, hQ H'' e t p hp⟩
    · exact ⟨.ref p, rfl, hv p hp⟩
    · rfl
  · cases hsh
end DV

end
section
set_option Elab.async false
set_option linter.all false
set_option maxRecDepth 100000
set_option maxHeartbeats 4000000
set_option autoImplicit false
/-! The deep layer, part AA: defs that hand lambdas to _law_call. -/
namespace DV
open PySem PySem.Spec PyProof.Rows L2 HotX L2H
structure CF (K : PySem.W.Frag) (mg : Str → Option Value) : Prop where
  ex : ∃ (params : Arguments) (body : List Stmt) (scope : Scope) (fd : FuncData), FunD K "_law_call" "_law_call" params body scope [] [] (He.ga K "_law_call") fd ∧ callShape body = true ∧ callSc scope = true ∧ Binds K fd ["_law_call_so"] []
  gl : mg "_law_call" = some (.ref (He.ga K "_law_call"))
theorem told_ok {X : Cx} {C : Ctx} {E : XK} {k : Nat} {c P : Addr} {sc : Scope} (kd : KD X.K X.mg) (cf : CF X.K X.mg) (hk : C.K = X.K) (hZ : ∀ p ∈ C.Z, ∀ ps, p.2 ≠ .tbl ps) (TB : LamX.TabB X.base X.mg c P) (hcode : X.env.code = .ref c)
    (hmT : (P, X.env.qual ++ "<lambda>") ∈ C.T) (hu : ∀ p ∈ C.T, p.1 = P → p.2 = X.env.qual ++ "<lambda>") (hr : Room (k + 3) X.A) (hsc : X.env.scope = sc) (ps : Arguments) (body : Expr) (scope : Scope) (lpos p pos : Pos) (fb : DE)
    (hg : glB sc (Str.ofString "_law_call") = true) (hL : LamX.lamSB sc scope = true) (h1 : ps.args = []) (h2 : ps.posonlyargs = []) (h3 : ps.kwonlyargs = []) (h4 : ps.vararg = none) (h5 : ps.kwarg = none) (h6 : ps.defaults = []) (h7 : ps.kw_defaults = [])
    (hb : ∀ (A : Around) (outer : List PySem.Env) (s : Shared) (H : Hp) (E' : XK) (f c' : Addr), Room (k + 1) (A.deeper (LamX.lamEnv X scope s.heap.objs.size f c')) → PE (lamCxN X A outer s H E' scope f c') body (LE C E' fb)) :
    PE X (.Call (.Name (Str.ofString "_law_call") p) [.Lambda ps body scope lpos] [] pos) (LE C E fun σ S => toldD (fb σ S)) := by
  subst hsc
  obtain ⟨params, cbody, csc, fd, F, hsh, hcs, hbd⟩ := cf.ex
  obtain ⟨oc, od, dV, kV, doc, pm, an, cdv, ct, osl, hfd, lk, hcd, _, _⟩ := F.ex
  subst hfd
  have hcs' := hcs
  unfold callSc at hcs'
  simp only [Bool.and_eq_true, decide_eq_true_eq] at hcs'
  refine PEimp (pe_lamcallN (T := C.T) (TT := TTcall X.K C.T) (t := fun E' => LE C E' fb) (k := k + 1) (glB_ok hg) cf.gl F.kp lk hcd hbd (fnScope_by hcs'.1) rfl (.inl hcs'.2.1) (gives_call kd hsh hcs) TB hcode hmT hu hr (LamX.lamS_by hL) ?_ ?_ hb (by decide) (by decide) (by decide)) fun σ H Q q => ?_
  · obtain ⟨a1, a2, a3, a4, a5, a6, a7⟩ := ps
    dsimp only at h1 h2 h3 h4 h5 h6 h7
    subst h1 h2 h3 h4 h5 h6 h7
    rfl
  · intro q cl pm cv ctv
    obtain ⟨a1, a2, a3, a4, a5, a6, a7⟩ := ps
    dsimp only at h1 h2 h3 h4 h5 h6 h7
    subst h1 h2 h3 h4 h5 h6 h7
    rfl
  · obtain ⟨σd, S, fa, rs, r, q⟩ := q
    refine ⟨r.tabs, fun H1 e1 t1 => ?_⟩
    obtain ⟨l1, r1⟩ := r.frame e1 t1 hZ
    refine ⟨σd, S, fa, rs.later r l1, r1, ?_⟩
    have q : LKg C E (PD C) Q fa H (toldD (fb σd S)) := q
    have q := LKg.later q l1
    cases e : fb σd S with
    | bad => rw [e] at q; exact q.elim
    | ok d S' =>
      rw [e] at q
      intro fa' H' v l r' pv p hp
      obtain ⟨l2, r2⟩ := r'.newT hp [.str (Str.ofString "told"), v]
      exact lk_ok (P := PD C) q (l.trans l2) r2 (.tup (.inl (.inl upd_same)) (.cons (.str _) (.cons (Rel.later r' l2 pv) .nil)))
    | exc x py S' =>
      rw [e] at q
      cases py with
      | some _ => exact q.elim
      | none =>
        unfold toldD at q
        dsimp only at q
        split at q
        · rename_i hx
          intro fa' H' cls de l r' hex
          obtain ⟨hc, hde⟩ := hex
          refine ⟨x, hx, by rw [hc, hk], hde, r'.tabs, fun H'' e2 t2 p hp => ?_⟩
          obtain ⟨l2, r2⟩ := r'.frame e2 t2 hZ
          obtain ⟨l3, r3⟩ := r2.newT hp [.str (x ++ plus)]
          exact lk_ok (P := PD C) q ((l.trans l2).trans l3) r3 (.tup (.inl (.inl upd_same)) (.cons (.str _) .nil))
        · exact q.elim
theorem den_ls {C : Ctx} {Φ : Tab} {N : List Str} {np ns : Nat} {ms : List MS} {vs : List V} {H : Hp} {Q : VK} {E : XK} (hn : N.length = ns) (h : LSp C np (denOf Φ np ns ms) vs H Q E) : LS C E (evSs Φ ms) { nx := fun _ H' => Q .non H', rt := Q } (L2.start N vs) H := by
  obtain ⟨hl, ds, S0, fa, p, r, q⟩ := h
  unfold denOf at q
  split at q
  · rename_i hlen
    subst hn
    subst hlen
    refine ⟨_, S0, fa, start_rel p, r, ?_⟩
    generalize hfl : evSs Φ ms (ds.map some ++ List.replicate (N.length - ds.length) none) S0 = rr at q
    cases rr with
    | bad => exact q
    | exc x p S1 => exact q
    | ok fl S1 =>
      dsimp only [Res.bind] at q
      intro fa' H' b l r' pf
      cases fl with
      | nx σ1 =>
        cases b with
        | nx σ' => exact lk_ok (P := PD C) q l r' .non
        | _ => exact pf.elim
      | rt d =>
        cases b with
        | rt v => exact lk_ok (P := PD C) q l r' pf
        | _ => exact pf.elim
      | bk σ1 => exact q.elim
      | ct σ1 => exact q.elim
  · exact q.elim
def lamQ (x : Str) (sc : Scope) : Str := (envOfC x sc 0 0 .none).qual ++ Str.ofString "<lambda>"
section
variable {P : Program} {w : World} {K : PySem.W.Frag} {mg : Str → Option Value} {base : Heap} {C : Ctx} {consts : List (Str × D)} {fns excs : List Str} {Φ : Tab} {k : Nat}
/-- a def that hands lambdas over -/
theorem def_okT (M : MOD P w K mg base C consts fns excs) (kd : KD K mg) (cf : CF K mg) (hZ : ∀ p ∈ C.Z, ∀ ps, p.2 ≠ .tbl ps) (tab : ∀ x n den, Φ x = some (n, den) → FnM P w K mg base C (k + 1) x n den) {x : Str} {params : Arguments} {body : List Stmt} {scope : Scope} {fd : FuncData} {N ps : List Str} {ms : List MS} {n np ns : Nat}
    {c Pt : Addr} (hcd : He.codeOf K (x, none) = c) (TB : LamX.TabB base mg c Pt) (hmT : (Pt, lamQ x scope) ∈ C.T) (hu : ∀ p ∈ C.T, p.1 = Pt → p.2 = lamQ x scope)
    (F : FunD K x x params body scope [] [] (He.ga K x) fd) (hS : fnScopeB N ps scope = true) (hb : cSs (cS ⟨N, consts, fns, excs, true, [], false, false⟩ scope n) body = some ms) (hp : ps.length = np) (hn : N.length = ns) :
    FnOk P w K mg base (L2N.CX P w) (k + 4) (He.ga K x) fd ps (LSp C np (denOf Φ np ns ms)) := by
  have S := fnScope_by hS
  obtain ⟨oc, od, dV, kV, doc, pm, an, cdv, ct, osl, hfd, lk, hcd2, _, _⟩ := F.ex
  subst hfd
  obtain ⟨c', rfl⟩ := He.codeIn_ref hcd2
  have ec : c' = c := by
    rw [← hcd]
    exact (He.codeOf_eq (K := K) (p := (x, none)) lk rfl).symm
  subst ec
  refine fn_of lk hcd2 S (fun vs H Q E h => by rw [h.1, hp]) (fun A outer s H vs Q E hr h => ?_)
  have g : GX ⟨N, consts, fns, excs, true, [], false, false⟩ C E Φ (k + 1) (cxOf (L2N.CX P w) P w K mg base N x scope (He.ga K x) (.ref c') A outer s H E) scope scope := by
    refine ⟨rfl, S.kind, rfl, S.nd, fun _ => rfl, .inl rfl, fun h => (by cases h), M.hk, L2N.takes_of rfl rfl rfl rfl, fun _ => hr.mono (by omega), hkb (k := k + 1) (by omega) _ (hr.mono (by omega)), PassesOwn.leaving, fun x hx => ?_, M.consts, M.fns, fun x n den h => ⟨(tab x n den h).ex⟩, M.blt, fun x hx => ?_, fun c tab h => (by cases h), fun _ ps body scope' lpos p pos fb hg1 hL h1 h2 h3 h4 h5 h6 h7 hb' => ?_⟩
    · refine ⟨?_, .inl rfl⟩
      unfold wrB at hx
      split at hx
      · exact .inl (by assumption)
      · exact .inr (by assumption)
      · cases hx
    · obtain ⟨h1, h2, h3, h4, h5⟩ := M.exc x hx
      exact ⟨h1, h2, h3, h4, h5⟩
    · exact told_ok (X := cxOf (L2N.CX P w) P w K mg base N x scope (He.ga K x) (.ref c') A outer s H E) (k := k) kd cf M.hk hZ TB rfl hmT hu hr rfl ps body scope' lpos p pos fb hg1 hL h1 h2 h3 h4 h5 h6 h7 hb'
  exact ⟨_, cSs_ok (fun s m hm => cS_ok (hkb (k := k + 1) (by omega)) g n s m hm) body ms hb, den_ls hn h⟩
end
end DV

end
section
set_option Elab.async false
set_option linter.all false
set_option maxRecDepth 100000
set_option maxHeartbeats 4000000
set_option autoImplicit false
/-! The deep layer, part AB: what the head tells, the law's end. -/
namespace DV
open PySem PySem.Spec PyProof.Rows L2 HotX L2H
/-! ### constants -/
def dvK (K : PySem.W.Frag) : D → Value → Bool
  | .non, .none => true
  | .bl b, .bool c => decide (b = c)
  | .int i, .int j _ => decide (i = j)
  | .str x, .str y _ => decide (x = y)
  | .tup ds, .ref a => match K.lookup a with
    | some ⟨.type t, none, .seq its _, _⟩ => decide (t = "tuple") && (decide (its.size ≤ 1000) && dvKs K ds its.toList)
    | _ => false
  | _, _ => false
where dvKs (K : PySem.W.Frag) : List D → List Value → Bool
  | [], [] => true
  | d :: ds, u :: us => dvK K d u && dvKs K ds us
  | _, _ => false
mutual
theorem dvK_ok {C : Ctx} : ∀ {d : D} {u : Value}, dvK C.K d u = true → ∃ v, RelV v u ∧ ∀ H fa, Rel C H fa d v
  | .non, .none, _ => ⟨.non, rfl, fun _ _ => .non⟩
  | .bl b, .bool c, h => by
    simp only [dvK, decide_eq_true_eq] at h
    subst h
    exact ⟨.bl b, rfl, fun _ _ => .bl b⟩
  | .int i, .int j t, h => by
    simp only [dvK, decide_eq_true_eq] at h
    subst h
    exact ⟨.int i, ⟨t, rfl⟩, fun _ _ => .int i⟩
  | .str i, .str j t, h => by
    simp only [dvK, decide_eq_true_eq] at h
    subst h
    exact ⟨.str i, ⟨t, rfl⟩, fun _ _ => .str i⟩
  | .tup ds, .ref a, h => by
    simp only [dvK] at h
    split at h
    · rename_i t its n sl hl
      simp only [Bool.and_eq_true, decide_eq_true_eq] at h
      obtain ⟨h1, h2, h3⟩ := h
      subst h1
      obtain ⟨vs, r1, r2⟩ := dvKs_ok h3
      exact ⟨.ref a, rfl, fun H fa => .tup (.inr ⟨_, its, n, hl, rfl, rfl, Nat.le_trans h2 (by rw [sizeLine_eq]; omega), r1⟩) (r2 H fa)⟩
    · cases h
theorem dvKs_ok {C : Ctx} : ∀ {ds : List D} {us : List Value}, dvK.dvKs C.K ds us = true → ∃ vs, Vals vs us ∧ ∀ H fa, Rels C H fa ds vs
  | [], [], _ => ⟨[], .nil, fun _ _ => .nil⟩
  | d :: ds, u :: us, h => by
    simp only [dvK.dvKs, Bool.and_eq_true] at h
    obtain ⟨v, r1, r2⟩ := dvK_ok h.1
    obtain ⟨vs, s1, s2⟩ := dvKs_ok h.2
    exact ⟨v :: vs, .cons r1 s1, fun H fa => .cons (r2 H fa) (s2 H fa)⟩
end
def constsB (cs : List (Str × D)) (K : PySem.W.Frag) : Bool := cs.all fun p => match PySem.W.nsIn K mainGlobals p.1 with
  | some (some u) => dvK K p.2 u
  | _ => false
/-! ### classes -/
def exCB (K : PySem.W.Frag) (D : Addr) : Bool := decide (PySem.W.findIn K (.ref D) "__getattribute__" = some (some (.builtin "BaseException.__getattribute__"))) && (decide (PySem.W.findIn K (.ref D) "__getattr__" = some none) && (decide (PySem.W.subIn K (.ref D) (.type "BaseException") = some true) &&
  (PySem.W.hasDictIn K D && (decide (PySem.W.findIn K (.ref D) "__class__" = some (some (.builtin "object.__class__"))) && (decide (PySem.W.specialIn K (.builtin "object.__class__") "__get__" = some (some (.builtin "getset_descriptor.__get__"))) && (decide (PySem.W.takesIn K (.builtin "object.__class__") = some true) && decide (PySem.W.mroIn K D (.type "object") = some true)))))))
def kfB (K : PySem.W.Frag) : Bool := plainK.all fun x => exCB K (He.ga K x) && ((kindN.all fun c => decide (PySem.W.kitOne K (.ref (He.ga K x)) (.ref (He.ga K c)) = some (decide (c = x)))) && (decide (PySem.W.kitOne K (.ref (He.ga K x)) (.type "ValueError") = some true) &&
  (decide (PySem.W.exmOne K (.ref (He.ga K x)) (.ref (He.ga K "BallError")) = some true) && (decide (PySem.W.exmOne K (.ref (He.ga K x)) (.ref (He.ga K "TooMany")) = some false) && (decide (PySem.W.exmOne K (.ref (He.ga K x)) (.ref (He.ga K "InvalidText")) = some false) && decide (PySem.W.exmOne K (.ref (He.ga K x)) (.ref (He.ga K "Fault")) = some false))))))
section
variable {P : Program} {w : World} {K : PySem.W.Frag} {mg : Str → Option Value} {base h : Heap} {fa : List He.Fa} {fn : List He.DefD}
theorem kf_of (X : K.In h) (G : h.Ns mainGlobals mg) (hb : kfB K = true) (hg : ∀ c ∈ kindN, (He.Fa.glo c).ok K = true) (hB : (He.Fa.glo "BallError").ok K = true) (hv : (He.Fa.free "ValueError").ok K = true) : KF K mg := by
  unfold kfB at hb
  rw [List.all_eq_true] at hb
  have key := fun x hx => by
    have z := hb x hx
    simp only [Bool.and_eq_true, decide_eq_true_eq, List.all_eq_true] at z
    exact z
  refine ⟨fun x hx => ?_, fun c hc => He.glo_ok X G (hg c hc), fun x hx c hc => (key x hx).2.1 c hc, He.free_ok X G hv, fun x hx => (key x hx).2.2.1, He.glo_ok X G hB, fun x hx => ⟨(key x hx).2.2.2.1, (key x hx).2.2.2.2.1, (key x hx).2.2.2.2.2.1, (key x hx).2.2.2.2.2.2⟩⟩
  have z := (key x hx).1
  unfold exCB at z
  simp only [Bool.and_eq_true, decide_eq_true_eq] at z
  obtain ⟨z1, z2, z3, z4, z5, z6, z7, z8⟩ := z
  exact ⟨z1, z2, z3, z4, z5, z6, z7, z8⟩
theorem mod_of {C : Ctx} {consts : List (Str × D)} {fns excs : List Str} (X : K.In h) (G : h.Ns mainGlobals mg) (hk : C.K = K) (hc : constsB consts K = true) (hf : ∀ x ∈ fns, (He.Fa.glo x).ok K = true) (hb : ∀ x ∈ bltNames, (He.Fa.free x).ok K = true) (he : ∀ x ∈ excs, (He.Fa.glo x).ok K = true ∧ (He.Fa.exc x).ok K = true) :
    MOD P w K mg base C consts fns excs := by
  refine ⟨hk, fun x d hx => ?_, fun x hx => He.glo_ok X G (hf x (by simpa using hx)), fun x hx => He.free_ok X G (hb x hx), fun x hx => ?_⟩
  · have hm : (x, d) ∈ consts := PySem.mem_of_lookup hx
    have z := List.all_eq_true.mp hc _ hm
    dsimp only at z
    split at z
    · rename_i u hu
      rw [← hk] at z
      obtain ⟨v, r1, r2⟩ := dvK_ok z
      exact ⟨u, v, PySem.W.mg_of X G hu, r1, r2⟩
    · cases z
  · obtain ⟨h1, h2⟩ := he x (by simpa using hx)
    obtain ⟨k1, k2, k3, k4⟩ := He.exc_ok h2
    exact ⟨He.glo_ok X G h1, k1, k2, k3, k4⟩
/-! ### the law's end -/
def spLaw (K : PySem.W.Frag) (T : List (Addr × Str)) (den : Den) : Sp := fun vs H Q E => vs.length = 1 ∧ ∃ Z : List (Addr × HO), (∀ p ∈ Z, ∀ ps, p.2 ≠ .tbl ps) ∧ LSp ⟨K, T, Z, []⟩ 1 den vs H Q E
theorem rels_ints {C : Ctx} {H : Hp} {fa : List Addr} : ∀ ns : List Int, Rels C H fa (ns.map D.int) (ns.map V.int)
  | [] => .nil
  | n :: ns => .cons (.int n) (rels_ints ns)
theorem sp_law {T : List (Addr × Str)} {den : Den} {ns : List Int} {a : Addr} {H : Hp} (hT : ∀ p ∈ T, H p.1 = some (.tbl #[])) (hS : SqL K H a (ns.map V.int))
    (hden : ∀ (d : D) (S : Sto), (d = .lstc (ns.map .int) ∧ S = []) ∨ (d = .ref 0 ∧ S = [.lst (ns.map .int)]) → ∃ S', den [d] S = .ok (.bl true) S') : spLaw K T den [.ref a] H (fun v _ => v = .bl true) fun _ _ _ => False := by
  have tabs : LamX.Tabs T H := fun p hp => LamX.TabS.nil (hT p hp)
  have fin : ∀ {Z : List (Addr × HO)} {fa : List Addr} {d : D} {S : Sto}, (∃ S', den [d] S = .ok (.bl true) S') → LKg ⟨K, T, Z, []⟩ (fun _ _ _ => False) (PD ⟨K, T, Z, []⟩) (fun v _ => v = V.bl true) fa H (den [d] S) := by
    intro Z fa d S h
    obtain ⟨S', e⟩ := h
    rw [e]
    intro fa' H' v l r p
    cases p
    rfl
  refine ⟨rfl, ?_⟩
  rcases hS with (hS | ⟨o, hS⟩) | ⟨o, its, n, h1, h2, h3, h4, h5, h6⟩
  · refine ⟨[], fun p hp => (by cases hp), rfl, [.ref 0], [.lst (ns.map .int)], [a], .cons (.ref rfl) .nil, ⟨rfl, by simp, fun n b o e1 e2 => ?_, tabs, fun p hp => (by cases hp)⟩, fin (hden _ _ (.inr ⟨rfl, rfl⟩))⟩
    match n, e1, e2 with
    | 0, e1, e2 =>
      cases e1
      cases e2
      exact ⟨_, hS, rels_ints ns⟩
    | n + 1, e1, e2 => simp at e1
  · refine ⟨[(a, .frz o (.lst (ns.map V.int)))], fun p hp ps z => ?_, rfl, [.lstc (ns.map .int)], [], [], .cons (.lstc (List.mem_singleton.mpr rfl) (.inr ⟨o, rfl⟩) (rels_ints ns)) .nil, ⟨rfl, List.nodup_nil, fun n b o e1 e2 => (by simp at e1), tabs, fun p hp => ?_⟩, fin (hden _ _ (.inl ⟨rfl, rfl⟩))⟩
    · rw [List.mem_singleton.mp hp] at z
      cases z
    · rw [List.mem_singleton.mp hp]
      exact ⟨hS, by simp⟩
  · exact ⟨[], fun p hp => (by cases hp), rfl, [.lstc (ns.map .int)], [], [], .cons (.lstK ⟨o, its, n, h1, h2, h3, h4, h5, h6⟩ (rels_ints ns)) .nil, ⟨rfl, List.nodup_nil, fun n b o e1 e2 => (by simp at e1), tabs, fun p hp => (by cases hp)⟩, fin (hden _ _ (.inl ⟨rfl, rfl⟩))⟩
theorem law_fn {T : List (Addr × Str)} {den : Den} {k : Nat} {f : Addr} {fd : FuncData} {ps : List Str} (hp : ps.length = 1) (F : ∀ Z : List (Addr × HO), (∀ p ∈ Z, ∀ ps, p.2 ≠ .tbl ps) → FnOk P w K mg base (L2N.CX P w) k f fd ps (LSp ⟨K, T, Z, []⟩ 1 den)) : FnOk P w K mg base (L2N.CX P w) k f fd ps (spLaw K T den) :=
  ⟨fun vs H Q E h => by rw [h.1, hp], fun A outer s H args us vs Q E hr e0 hb r h => by
    obtain ⟨_, Z, hZ, hs⟩ := h
    exact (F Z hZ).run A outer s H args us vs Q E hr e0 hb r hs⟩
end
end DV

end
section
set_option Elab.async false
set_option linter.all false
set_option maxRecDepth 100000
set_option maxHeartbeats 4000000
set_option autoImplicit false
/-! Plain laws, part A: what is wanted behind an outcome; loops. -/
namespace DV
open PySem
/-- what is wanted behind an outcome, and behind an error -/
inductive wpR {α : Type} : Res α → (α → Sto → Prop) → (Str → Option (Str × D) → Sto → Prop) → Prop
  | ok {a : α} {S : Sto} {Q : α → Sto → Prop} {X : Str → Option (Str × D) → Sto → Prop} (h : Q a S) : wpR (.ok a S) Q X
  | exc {x : Str} {p : Option (Str × D)} {S : Sto} {Q : α → Sto → Prop} {X : Str → Option (Str × D) → Sto → Prop} (h : X x p S) : wpR (.exc x p S) Q X
abbrev noX : Str → Option (Str × D) → Sto → Prop := fun _ _ _ => False
section
variable {α β : Type} {Q Q' : α → Sto → Prop} {X X' : Str → Option (Str × D) → Sto → Prop} {S : Sto} {a : α}
theorem wpR_ok : wpR (.ok a S) Q X = Q a S := propext ⟨fun h => by cases h; assumption, .ok⟩
theorem wpR_bad : wpR (.bad : Res α) Q X = False := propext ⟨fun h => (by cases h), fun h => h.elim⟩
theorem wpR_exc {x : Str} {p : Option (Str × D)} : wpR (.exc x p S : Res α) Q X = X x p S := propext ⟨fun h => by cases h; assumption, .exc⟩
theorem wpR_bind {r : Res α} {k : α → Sto → Res β} {Q : β → Sto → Prop} : wpR (r.bind k) Q X = wpR r (fun a S => wpR (k a S) Q X) X := by
  cases r with
  | ok a S =>
    rw [wpR_ok]
    rfl
  | exc x p S =>
    rw [wpR_exc]
    exact wpR_exc
  | bad =>
    rw [wpR_bad]
    exact wpR_bad
theorem wpR_ite {c : Prop} [Decidable c] {r t : Res α} : wpR (if c then r else t) Q X = if c then wpR r Q X else wpR t Q X := by
  split <;> rfl
theorem wpR_if {c : Prop} [Decidable c] {r : Res α} : wpR (if c then r else .bad) Q X = (c ∧ wpR r Q X) := by
  split
  · rename_i h
    simp [h]
  · rename_i h
    simp [h, wpR_bad]
theorem wpR.mono {r : Res α} (h : wpR r Q X) (m : ∀ a S, Q a S → Q' a S) : wpR r Q' X := by
  cases h with
  | ok h => exact .ok (m _ _ h)
  | exc h => exact .exc h
theorem wpR.mono2 {r : Res α} (h : wpR r Q X) (m : ∀ a S, Q a S → Q' a S) (mx : ∀ x p S, X x p S → X' x p S) : wpR r Q' X' := by
  cases h with
  | ok h => exact .ok (m _ _ h)
  | exc h => exact .exc (mx _ _ _ h)
theorem wpR.anyX {r : Res α} (h : wpR r Q noX) : wpR r Q X := h.mono2 (fun _ _ h => h) fun _ _ _ z => z.elim
theorem wpR.ex {r : Res α} (h : wpR r Q noX) : ∃ a S, r = .ok a S ∧ Q a S := by
  cases h with
  | ok h => exact ⟨_, _, rfl, h⟩
  | exc h => exact h.elim
theorem wpR.of {r : Res α} {a : α} {S : Sto} (e : r = .ok a S) (h : Q a S) : wpR r Q X := by
  rw [e]
  exact .ok h
/-- the steps, in the order in which they are taken -/
def wVar (o : Option (Option D)) (S : Sto) (Q : D → Sto → Prop) : Prop := match o with
  | some (some d) => Q d S
  | _ => False
theorem wVar_some {d : D} {Q : D → Sto → Prop} : wVar (some (some d)) S Q = Q d S := rfl
def wBl (k : Bool → Sto → Prop) (d : D) (S : Sto) : Prop := match d with
  | .bl b => k b S
  | _ => False
theorem wBl_bl {k : Bool → Sto → Prop} {b : Bool} : wBl k (.bl b) S = k b S := rfl
def wIt (k : Int → Sto → Prop) (d : D) (S : Sto) : Prop := match d with
  | .int b => k b S
  | _ => False
theorem wIt_int {k : Int → Sto → Prop} {b : Int} : wIt k (.int b) S = k b S := rfl
def wK (Φ : Tab) (ss : List MS) (Q : Fl → Sto → Prop) (X : Str → Option (Str × D) → Sto → Prop) (fl : Fl) (S : Sto) : Prop := match fl with
  | .nx σ => wpR (evSs Φ ss σ S) Q X
  | fl => Q fl S
theorem wK_nx {Φ : Tab} {ss : List MS} {Q : Fl → Sto → Prop} {σ : Env} : wK Φ ss Q X (.nx σ) S = wpR (evSs Φ ss σ S) Q X := rfl
theorem wK_rt {Φ : Tab} {ss : List MS} {Q : Fl → Sto → Prop} {d : D} : wK Φ ss Q X (.rt d) S = Q (.rt d) S := rfl
theorem wK_bk {Φ : Tab} {ss : List MS} {Q : Fl → Sto → Prop} {σ : Env} : wK Φ ss Q X (.bk σ) S = Q (.bk σ) S := rfl
theorem wK_ct {Φ : Tab} {ss : List MS} {Q : Fl → Sto → Prop} {σ : Env} : wK Φ ss Q X (.ct σ) S = Q (.ct σ) S := rfl
def wTg (o : Option Env) (S : Sto) (Q : Fl → Sto → Prop) : Prop := match o with
  | some σ => Q (.nx σ) S
  | none => False
theorem wTg_some {σ : Env} {Q : Fl → Sto → Prop} : wTg (some σ) S Q = Q (.nx σ) S := rfl
def wRt (Q : D → Sto → Prop) (fl : Fl) (S : Sto) : Prop := match fl with
  | .rt d => Q d S
  | .nx _ => Q .non S
  | _ => False
theorem wRt_rt {d : D} {Q : D → Sto → Prop} : wRt Q (.rt d) S = Q d S := rfl
theorem wRt_nx {σ : Env} {Q : D → Sto → Prop} : wRt Q (.nx σ) S = Q .non S := rfl
def wSeq (S : Sto) (d : D) (Q : List D → Prop) : Prop := match seqOf S d with
  | some xs => Q xs
  | none => False
end
section
variable {Φ : Tab} {σ : Env} {S : Sto} {Q : D → Sto → Prop} {X : Str → Option (Str × D) → Sto → Prop} {QF : Fl → Sto → Prop}
theorem w_asB {r : Res D} {Q : Bool → Sto → Prop} : wpR (r.bind asB) Q X = wpR r (wBl Q) X := by
  rw [wpR_bind]
  congr 1
  funext d S
  cases d <;> first | exact wpR_ok | exact wpR_bad
theorem w_var {i : Nat} : wpR (evE Φ (.var i) σ S) Q X = wVar σ[i]? S Q := by
  simp only [evE, evVar]
  rcases σ[i]? with _ | _ | d <;> first | exact wpR_ok | exact wpR_bad
theorem w_con {d : D} : wpR (evE Φ (.con d) σ S) Q X = Q d S := by simp only [evE]; exact wpR_ok
theorem w_bin {k : BK} {a b : ME} : wpR (evE Φ (.bin k a b) σ S) Q X = wpR (evE Φ a σ S) (fun d S1 => wpR (evE Φ b σ S1) (fun e S2 => wpR (k.f d e S2) Q X) X) X := by simp only [evE, wpR_bind]
theorem w_neg {a : ME} : wpR (evE Φ (.neg a) σ S) Q X = wpR (evE Φ a σ S) (fun d S1 => wpR (negD d S1) Q X) X := by simp only [evE, wpR_bind]
theorem w_not {a : ME} : wpR (evE Φ (.not a) σ S) Q X = wpR (evE Φ a σ S) (wBl fun k S1 => Q (.bl (!k)) S1) X := by
  simp only [evE, evNot]
  rw [wpR_bind, w_asB]
  congr 2
  funext k S1
  exact wpR_ok
theorem w_and {a b : ME} : wpR (evE Φ (.and a b) σ S) Q X = wpR (evE Φ a σ S) (wBl fun k S1 => if k = true then wpR (evE Φ b σ S1) Q X else Q (.bl false) S1) X := by
  simp only [evE, evAnd]
  rw [wpR_bind, w_asB]
  congr 2
  funext k S
  rw [wpR_ite, wpR_ok]
theorem w_or {a b : ME} : wpR (evE Φ (.or a b) σ S) Q X = wpR (evE Φ a σ S) (wBl fun k S1 => if k = true then Q (.bl true) S1 else wpR (evE Φ b σ S1) Q X) X := by
  simp only [evE, evOr]
  rw [wpR_bind, w_asB]
  congr 2
  funext k S
  rw [wpR_ite, wpR_ok]
theorem w_ite {t a b : ME} : wpR (evE Φ (.ite t a b) σ S) Q X = wpR (evE Φ t σ S) (wBl fun k S1 => if k = true then wpR (evE Φ a σ S1) Q X else wpR (evE Φ b σ S1) Q X) X := by
  simp only [evE, evIf]
  rw [wpR_bind, w_asB]
  congr 1
  funext d S
  congr 1
  funext k S
  exact wpR_ite
theorem w_cmp {k : CK} {a b : ME} : wpR (evE Φ (.cmp k a b) σ S) Q X = wpR (evE Φ a σ S) (fun d S1 => wpR (evE Φ b σ S1) (fun e S2 => wpR (k.f d e S2) Q X) X) X := by simp only [evE, wpR_bind]
theorem w_chain {k l : CK} {a b c : ME} : wpR (evE Φ (.chain k l a b c) σ S) Q X = wpR (evE Φ a σ S) (fun d S1 => wpR (evE Φ b σ S1) (fun e S2 => wpR (k.f d e S2) (wBl fun t S3 => if t = true then wpR (evE Φ c σ S3) (fun w S4 => wpR (l.f e w S4) Q X) X else Q (.bl false) S3) X) X) X := by
  simp only [evE, evChain, wpR_bind]
  congr 1
  funext d S1
  congr 1
  funext e S2
  have := w_asB (r := k.f d e S2) (X := X) (Q := fun t S3 => wpR (if t = true then (evE Φ c σ S3).bind fun w S4 => l.f e w S4 else .ok (.bl false) S3) Q X)
  rw [wpR_bind] at this
  rw [this]
  congr 2
  funext t S3
  rw [wpR_ite, wpR_bind, wpR_ok]
theorem w_isN {n : Bool} {a : ME} : wpR (evE Φ (.isN n a) σ S) Q X = wpR (evE Φ a σ S) (fun d S1 => Q (.bl (xor n (isNonD d))) S1) X := by
  simp only [evE, evIs, wpR_bind, wpR_ok]
theorem w_tup {es : MEs} : wpR (evE Φ (.tup es) σ S) Q X = wpR (evEs Φ es σ S) (fun ds S1 => ds.length ≤ 16777216 ∧ Q (.tup ds) S1) X := by
  simp only [evE, evTup, wpR_bind, wpR_if, wpR_ok]
theorem w_lst {es : MEs} : wpR (evE Φ (.lst es) σ S) Q X = wpR (evEs Φ es σ S) (fun ds S1 => ds.length ≤ 16777216 ∧ Q (.ref S1.length) (S1 ++ [.lst ds])) X := by
  simp only [evE, evLst, wpR_bind, wpR_if, wpR_ok]
theorem w_idx {a b : ME} : wpR (evE Φ (.idx a b) σ S) Q X = wpR (evE Φ a σ S) (fun d S1 => wpR (evE Φ b σ S1) (fun e S2 => wpR (idxD d e S2) Q X) X) X := by simp only [evE, wpR_bind]
def wO (Φ : Tab) (m : MO) (σ : Env) (S : Sto) (Q : Option Int → Sto → Prop) (X : Str → Option (Str × D) → Sto → Prop) : Prop := match m with
  | .none => Q none S
  | .some e => wpR (evE Φ e σ S) (wIt fun i S1 => Q (some i) S1) X
theorem wO_none {Q : Option Int → Sto → Prop} : wO Φ .none σ S Q X = Q none S := rfl
theorem wO_some {e : ME} {Q : Option Int → Sto → Prop} : wO Φ (.some e) σ S Q X = wpR (evE Φ e σ S) (wIt fun i S1 => Q (some i) S1) X := rfl
theorem w_O {m : MO} {Q : Option Int → Sto → Prop} : wpR (evO Φ m σ S) Q X = wO Φ m σ S Q X := by
  cases m with
  | none => exact wpR_ok
  | some e =>
    simp only [evO, poSome, wO, wpR_bind]
    congr 1
    funext d S
    cases d <;> first | exact wpR_ok | exact wpR_bad
theorem w_slc {a : ME} {lo hi : MO} : wpR (evE Φ (.slc a lo hi) σ S) Q X = wpR (evE Φ a σ S) (fun d S1 => wO Φ lo σ S1 (fun l S2 => wO Φ hi σ S2 (fun u S3 => wpR (slD d l u S3) Q X) X) X) X := by
  simp only [evE, wpR_bind, w_O]
theorem w_blt {k : FK} {es : MEs} : wpR (evE Φ (.blt k es) σ S) Q X = wpR (evEs Φ es σ S) (fun ds S1 => wpR (k.f ds S1) Q X) X := by simp only [evE, wpR_bind]
theorem w_nilE {Q : List D → Sto → Prop} : wpR (evEs Φ .nil σ S) Q X = Q [] S := by simp only [evEs]; exact wpR_ok
theorem w_consE {e : ME} {es : MEs} {Q : List D → Sto → Prop} : wpR (evEs Φ (.cons e es) σ S) Q X = wpR (evE Φ e σ S) (fun d S1 => wpR (evEs Φ es σ S1) (fun ds S2 => Q (d :: ds) S2) X) X := by
  simp only [evEs, evCons, wpR_bind, wpR_ok]
def wTy (o : Option Bool) (S : Sto) (Q : D → Sto → Prop) : Prop := match o with
  | some b => Q (.bl b) S
  | none => False
theorem wTy_some {b : Bool} : wTy (some b) S Q = Q (.bl b) S := rfl
theorem w_isi {T : Ty} {a : ME} : wpR (evE Φ (.isi T a) σ S) Q X = wpR (evE Φ a σ S) (fun d S1 => wTy (isTy T d) S1 Q) X := by
  simp only [evE, evIsi, wpR_bind]
  congr 1
  funext d S
  cases isTy T d <;> first | exact wpR_ok | exact wpR_bad
theorem w_call {x : Str} {es : MEs} {den : Den} (h : Φ.of es.len x = some den) : wpR (evE Φ (.call x es) σ S) Q X = wpR (evEs Φ es σ S) (fun ds S1 => wpR (den ds S1) Q X) X := by
  simp only [evE]
  rw [h]
  simp only [wpR_bind]
def wCall (o : Option Den) (r : Res (List D)) (Q : D → Sto → Prop) (X : Str → Option (Str × D) → Sto → Prop) : Prop := match o with
  | some den => wpR r (fun ds S1 => wpR (den ds S1) Q X) X
  | none => False
theorem wCall_some {den : Den} {r : Res (List D)} : wCall (some den) r Q X = wpR r (fun ds S1 => wpR (den ds S1) Q X) X := rfl
theorem w_calls {x : Str} {es : MEs} : wpR (evE Φ (.call x es) σ S) Q X = wCall (Φ.of es.len x) (evEs Φ es σ S) Q X := by
  simp only [evE]
  cases Φ.of es.len x with
  | some den => simp only [wpR_bind, wCall]
  | none => exact wpR_bad
def wApp (k : Nat → Prop) : D → Prop
  | .ref n => k n
  | _ => False
theorem wApp_ref {k : Nat → Prop} {n : Nat} : wApp k (.ref n) = k n := rfl
theorem w_app {o e : ME} : wpR (evE Φ (.app o e) σ S) Q X = wpR (evE Φ o σ S) (fun d S1 => wApp (fun n => wpR (evE Φ e σ S1) (fun y S2 => wpR (appD n y S2) Q X) X) d) X := by
  simp only [evE, evApp, wpR_bind]
  congr 1
  funext d S
  cases d <;> first | (simp only [wpR_bind, wApp]; done) | exact wpR_bad
def wStr (k : Str → Prop) : D → Prop
  | .str n => k n
  | _ => False
theorem wStr_str {k : Str → Prop} {n : Str} : wStr k (.str n) = k n := rfl
theorem w_mt1 {k : MK} {o e : ME} : wpR (evE Φ (.mt1 k o e) σ S) Q X = wpR (evE Φ o σ S) (fun d S1 => wStr (fun z => wpR (evE Φ e σ S1) (fun y S2 => wpR (k.f z y S2) Q X) X) d) X := by
  simp only [evE, evMt1, wpR_bind]
  congr 1
  funext d S
  cases d <;> first | (simp only [wpR_bind, wStr]; done) | exact wpR_bad
theorem w_told {e : ME} : wpR (evE Φ (.told e) σ S) Q X = wpR (evE Φ e σ S) (fun d S1 => Q (.tup [.str "told", d]) S1) fun x p S1 => p = none ∧ x ∈ plainK ∧ Q (.tup [.str (x ++ plus)]) S1 := by
  simp only [evE]
  cases evE Φ e σ S with
  | ok d S1 =>
    rw [wpR_ok]
    exact wpR_ok
  | bad =>
    rw [wpR_bad]
    exact wpR_bad
  | exc x p S1 =>
    rw [wpR_exc]
    cases p with
    | some p =>
      unfold toldD
      dsimp only
      rw [wpR_bad]
      simp
    | none =>
      unfold toldD
      dsimp only
      rw [wpR_if, wpR_ok]
      simp
/-! statements -/
theorem w_nil : wpR (evSs Φ [] σ S) QF X = QF (.nx σ) S := by simp only [evSs]; exact wpR_ok
theorem w_cons {s : MS} {ss : List MS} : wpR (evSs Φ (s :: ss) σ S) QF X = wpR (evS Φ s σ S) (wK Φ ss QF X) X := by
  simp only [evSs, svSeq, wpR_bind]
  congr 1
  funext fl S
  cases fl <;> first | rfl | exact wpR_ok
theorem w_asg {t : Tg} {e : ME} : wpR (evS Φ (.asg t e) σ S) QF X = wpR (evE Φ e σ S) (fun d S1 => wTg (setTg t d σ) S1 QF) X := by
  simp only [evS, svAsg, wpR_bind]
  congr 1
  funext d S
  cases setTg t d σ <;> first | exact wpR_ok | exact wpR_bad
theorem w_sub {o i e : ME} : wpR (evS Φ (.sub o i e) σ S) QF X = wpR (evE Φ e σ S) (fun d S1 => wpR (evE Φ o σ S1) (fun od S2 => wpR (evE Φ i σ S2) (fun id S3 => wpR (setD od id d S3) (fun _ S4 => QF (.nx σ) S4) X) X) X) X := by
  simp only [evS, svSub, wpR_bind, wpR_ok]
theorem w_par {i j : Nat} {a b : ME} : wpR (evS Φ (.par i j a b) σ S) QF X = wpR (evE Φ a σ S) (fun d S1 => wpR (evE Φ b σ S1) (fun e S2 => QF (.nx ((σ.set i (some d)).set j (some e))) S2) X) X := by
  simp only [evS, svPar, wpR_bind, wpR_ok]
theorem w_expr {e : ME} : wpR (evS Φ (.expr e) σ S) QF X = wpR (evE Φ e σ S) (fun _ S1 => QF (.nx σ) S1) X := by
  simp only [evS, svExpr, wpR_bind, wpR_ok]
theorem w_ret {e : ME} : wpR (evS Φ (.ret e) σ S) QF X = wpR (evE Φ e σ S) (fun d S1 => QF (.rt d) S1) X := by
  simp only [evS, svRet, wpR_bind, wpR_ok]
theorem w_if {t : ME} {a b : List MS} : wpR (evS Φ (.ifS t a b) σ S) QF X = wpR (evE Φ t σ S) (wBl fun k S1 => if k = true then wpR (evSs Φ a σ S1) QF X else wpR (evSs Φ b σ S1) QF X) X := by
  simp only [evS, svIf]
  rw [wpR_bind, w_asB]
  congr 1
  funext d S
  congr 1
  funext k S
  exact wpR_ite
theorem w_raise {x : Str} : wpR (evS Φ (.raise x) σ S) QF X = X x none S := by simp only [evS]; exact wpR_exc
theorem w_pass : wpR (evS Φ .pass σ S) QF X = QF (.nx σ) S := by simp only [evS]; exact wpR_ok
theorem w_brk : wpR (evS Φ .brk σ S) QF X = QF (.bk σ) S := by simp only [evS]; exact wpR_ok
theorem w_cont : wpR (evS Φ .cont σ S) QF X = QF (.ct σ) S := by simp only [evS]; exact wpR_ok
theorem w_den {np ns : Nat} {ms : List MS} {ds : List D} (hl : ds.length = np) : wpR (denOf Φ np ns ms ds S) Q X = wpR (evSs Φ ms (ds.map some ++ List.replicate (ns - np) none) S) (wRt Q) X := by
  unfold denOf
  rw [if_pos hl, wpR_bind]
  congr 1
  funext fl S
  cases fl <;> first | exact wpR_ok | exact wpR_bad
theorem den_wp {np ns : Nat} {ms : List MS} {ds : List D} (hl : ds.length = np) (h : wpR (evSs Φ ms (ds.map some ++ List.replicate (ns - np) none) S) (wRt Q) X) : wpR (denOf Φ np ns ms ds S) Q X := by
  rw [w_den hl]
  exact h
theorem setTg_nm {i : Nat} {d : D} : setTg (.nm i) d σ = some (σ.set i (some d)) := by simp only [setTg]
theorem setTg_tp {ts : List Tg} {ds : List D} : setTg (.tp ts) (.tup ds) σ = setTg.setTgs ts ds σ := by simp only [setTg]
theorem setTgs_nil : setTg.setTgs [] [] σ = some σ := by simp only [setTg.setTgs]
theorem setTgs_nm {i : Nat} {ts : List Tg} {d : D} {ds : List D} : setTg.setTgs (.nm i :: ts) (d :: ds) σ = setTg.setTgs ts ds (σ.set i (some d)) := by simp only [setTg.setTgs, setTg]
theorem setTgs_tp {us ts : List Tg} {es ds : List D} : setTg.setTgs (.tp us :: ts) (.tup es :: ds) σ = (setTg.setTgs us es σ).bind fun σ' => setTg.setTgs ts ds σ' := by
  simp only [setTg.setTgs, setTg]
  cases setTg.setTgs us es σ <;> rfl
/-! data -/
variable {i j : Int}
theorem d_addI : wpR (addD (.int i) (.int j) S) Q X = Q (.int (i + j)) S := wpR_ok
theorem d_subI : wpR (subD (.int i) (.int j) S) Q X = Q (.int (i - j)) S := wpR_ok
theorem d_mulI : wpR (mulD (.int i) (.int j) S) Q X = (i.natAbs.log2 + j.natAbs.log2 < 1000000 ∧ Q (.int (i * j)) S) := by
  unfold mulD
  rw [wpR_if, wpR_ok]
theorem d_fdivI : wpR (fdivD (.int i) (.int j) S) Q X = ((0 < j ∧ j.natAbs.log2 < 9000) ∧ Q (.int (i / j)) S) := by
  unfold fdivD
  rw [wpR_if, wpR_ok]
theorem d_modI : wpR (modD (.int i) (.int j) S) Q X = (0 < j ∧ Q (.int (i % j)) S) := by
  unfold modD
  rw [wpR_if, wpR_ok]
theorem d_powI : wpR (powD (.int i) (.int j) S) Q X = ((0 ≤ j ∧ j ≤ 1000 ∧ i.natAbs < 1000) ∧ Q (.int (i ^ j.toNat)) S) := by
  unfold powD
  rw [wpR_if, wpR_ok]
theorem d_addT {xs ys : List D} : wpR (addD (.tup xs) (.tup ys) S) Q X = (xs.length + ys.length ≤ sizeLine ∧ Q (.tup (xs ++ ys)) S) := by
  unfold addD
  rw [wpR_if, wpR_ok]
theorem d_addS {xs ys : Str} : wpR (addD (.str xs) (.str ys) S) Q X = (xs.length + ys.length ≤ sizeLine ∧ Q (.str (xs ++ ys)) S) := by
  unfold addD
  rw [wpR_if, wpR_ok]
theorem eqD_int : eqD (.int i) (.int j) S = .ok (.bl (decide (i = j))) S := by
  unfold eqD
  show (if (SeqAt.shaped (PyData.int i) = true ∧ SeqAt.shaped (PyData.int j) = true) then Res.ok (D.bl (i == j)) S else Res.bad) = _
  rw [if_pos ⟨rfl, rfl⟩]
  by_cases h : i = j <;> simp [h]
theorem neD_int : neD (.int i) (.int j) S = .ok (.bl (decide (i ≠ j))) S := by
  unfold neD
  show (if (SeqAt.shaped (PyData.int i) = true ∧ SeqAt.shaped (PyData.int j) = true) then Res.ok (D.bl (!(i == j))) S else Res.bad) = _
  rw [if_pos ⟨rfl, rfl⟩]
  by_cases h : i = j <;> simp [h]
theorem d_eqI : wpR (eqD (.int i) (.int j) S) Q X = Q (.bl (decide (i = j))) S := by rw [eqD_int, wpR_ok]
theorem d_neI : wpR (neD (.int i) (.int j) S) Q X = Q (.bl (decide (i ≠ j))) S := by rw [neD_int, wpR_ok]
theorem d_ltI : wpR (ltD (.int i) (.int j) S) Q X = Q (.bl (decide (i < j))) S := wpR_ok
theorem d_leI : wpR (leD (.int i) (.int j) S) Q X = Q (.bl (decide (i ≤ j))) S := wpR_ok
theorem d_gtI : wpR (gtD (.int i) (.int j) S) Q X = Q (.bl (decide (j < i))) S := wpR_ok
theorem d_geI : wpR (geD (.int i) (.int j) S) Q X = Q (.bl (decide (j ≤ i))) S := wpR_ok
theorem d_negI : wpR (negD (.int i) S) Q X = Q (.int (-i)) S := wpR_ok
theorem d_int {S : Sto} : wpR (intD [.int i] S) Q X = Q (.int i) S := wpR_ok
theorem d_absI : wpR (absD [.int i] S) Q X = Q (.int (if i < 0 then -i else i)) S := wpR_ok
def wIx (xs : List D) (i : Int) (Q : D → Prop) : Prop := match L2.atI xs i with
  | some x => Q x
  | none => False
theorem d_idxT {xs : List D} : wpR (idxD (.tup xs) (.int i) S) Q X = wIx xs i fun x => Q x S := by
  unfold idxD wIx
  simp only [seqOf]
  cases L2.atI xs i <;> first | exact wpR_ok | exact wpR_bad
theorem d_idxC {xs : List D} : wpR (idxD (.lstc xs) (.int i) S) Q X = wIx xs i fun x => Q x S := by
  unfold idxD wIx
  simp only [seqOf]
  cases L2.atI xs i <;> first | exact wpR_ok | exact wpR_bad
theorem d_idxR {n : Nat} {xs : List D} (h : S[n]? = some (.lst xs)) : wpR (idxD (.ref n) (.int i) S) Q X = wIx xs i fun x => Q x S := by
  unfold idxD wIx
  simp only [seqOf, h]
  cases L2.atI xs i <;> first | exact wpR_ok | exact wpR_bad
theorem wIx_nat {xs : List D} {k : Nat} {x : D} {Q : D → Prop} (h : xs[k]? = some x) : wIx xs (k : Int) Q = Q x := by
  have hl := (List.getElem?_eq_some_iff.mp h).1
  unfold wIx L2.atI L2.ixN
  rw [if_pos (by omega), if_pos (by omega)]
  simp only [Int.toNat_natCast, Option.bind_some, h]
theorem d_lenR {n : Nat} {xs : List D} (h : S[n]? = some (.lst xs)) : wpR (lenD [.ref n] S) Q X = Q (.int xs.length) S := by
  show wpR (match seqOf S (.ref n) with | some xs => Res.ok (D.int xs.length) S | none => .bad) Q X = _
  simp only [seqOf, h, wpR_ok]
theorem d_lenC {xs : List D} : wpR (lenD [.lstc xs] S) Q X = Q (.int xs.length) S := wpR_ok
theorem d_lenT {xs : List D} : wpR (lenD [.tup xs] S) Q X = Q (.int xs.length) S := wpR_ok
theorem d_tupR {n : Nat} {xs : List D} (h : S[n]? = some (.lst xs)) : wpR (tupleD [.ref n] S) Q X = Q (.tup xs) S := by
  show wpR (match seqOf S (.ref n) with | some xs => Res.ok (D.tup xs) S | none => .bad) Q X = _
  simp only [seqOf, h, wpR_ok]
theorem wIx_mem {xs : List D} {i : Int} {Q : D → Prop} (h0 : 0 ≤ i) (h1 : i < xs.length) (h : ∀ x ∈ xs, xs[i.toNat]? = some x → Q x) : wIx xs i Q := by
  obtain ⟨k, rfl⟩ := Int.eq_ofNat_of_zero_le h0
  have hk : k < xs.length := by omega
  have e : xs[k]? = some xs[k] := List.getElem?_eq_getElem hk
  rw [wIx_nat e]
  exact h _ (List.getElem_mem hk) e
theorem wIx_0 {x : D} {xs : List D} {Q : D → Prop} : wIx (x :: xs) 0 Q = Q x := wIx_nat (k := 0) rfl
theorem wIx_1 {x y : D} {xs : List D} {Q : D → Prop} : wIx (x :: y :: xs) 1 Q = Q y := wIx_nat (k := 1) rfl
theorem wIx_2 {x y z : D} {xs : List D} {Q : D → Prop} : wIx (x :: y :: z :: xs) 2 Q = Q z := wIx_nat (k := 2) rfl
theorem wIx_3 {x y z t : D} {xs : List D} {Q : D → Prop} : wIx (x :: y :: z :: t :: xs) 3 Q = Q t := wIx_nat (k := 3) rfl
theorem d_setR {n k : Nat} {xs : List D} {d : D} {Q : Unit → Sto → Prop} (h : S[n]? = some (.lst xs)) (hk : k < xs.length) : wpR (setD (.ref n) (.int (k : Int)) d S) Q X = Q () (S.set n (.lst (xs.set k d))) := by
  unfold setD L2.ixN
  simp only [h]
  rw [if_pos (by omega), if_pos (by omega)]
  exact wpR_ok
theorem d_set0 {n : Nat} {x : D} {xs : List D} {d : D} {Q : Unit → Sto → Prop} (h : S[n]? = some (.lst (x :: xs))) : wpR (setD (.ref n) (.int 0) d S) Q X = Q () (S.set n (.lst (d :: xs))) := d_setR (k := 0) h (by simp)
theorem d_set1 {n : Nat} {x y : D} {xs : List D} {d : D} {Q : Unit → Sto → Prop} (h : S[n]? = some (.lst (x :: y :: xs))) : wpR (setD (.ref n) (.int 1) d S) Q X = Q () (S.set n (.lst (x :: d :: xs))) := d_setR (k := 1) h (by simp)
end
def wNx (Q : Env → Sto → Prop) (fl : Fl) (S : Sto) : Prop := match fl with
  | .nx σ => Q σ S
  | .ct σ => Q σ S
  | _ => False
theorem wNx_nx {Q : Env → Sto → Prop} {σ : Env} {S : Sto} : wNx Q (.nx σ) S = Q σ S := rfl
theorem wNx_ct {Q : Env → Sto → Prop} {σ : Env} {S : Sto} : wNx Q (.ct σ) S = Q σ S := rfl
/-- for: an invariant by the turn -/
theorem forD_inv {lk : List (Nat × List D)} {t : Tg} {f : DS} {X : Str → Option (Str × D) → Sto → Prop} (I : Nat → Env → Sto → Prop) : ∀ (ds : List D) (i : Nat) (σ : Env) (S : Sto), I i σ S → (∀ j σ S, I j σ S → Locked S lk) →
    (∀ j d σ S, ds[j]? = some d → I (i + j) σ S → ∃ σ1, setTg t d σ = some σ1 ∧ wpR (f σ1 S) (wNx fun σ2 S' => I (i + j + 1) σ2 S') X) → wpR (forD lk t f ds σ S) (fun fl S' => ∃ σ', fl = .nx σ' ∧ I (i + ds.length) σ' S') X
  | [], i, σ, S, h, hl, _ => by
    rw [forD, if_pos (hl i σ S h)]
    exact .ok ⟨σ, rfl, h⟩
  | d :: ds, i, σ, S, h, hl, hs => by
    rw [forD, if_pos (hl i σ S h)]
    obtain ⟨σ1, e1, w⟩ := hs 0 d σ S rfl h
    rw [e1]
    dsimp only
    rw [wpR_bind]
    refine w.mono fun fl S1 hf => ?_
    have next : ∀ σ2, I (i + 0 + 1) σ2 S1 → wpR (forD lk t f ds σ2 S1) (fun fl S' => ∃ σ', fl = .nx σ' ∧ I (i + (d :: ds).length) σ' S') X := by
      intro σ2 h2
      have e : i + (d :: ds).length = (i + 1) + ds.length := by simp; omega
      rw [e]
      refine forD_inv I ds (i + 1) σ2 S1 h2 hl fun j d' σ S hj hI => ?_
      have e2 : i + 1 + j = i + (j + 1) := by omega
      rw [e2] at hI ⊢
      exact hs (j + 1) d' σ S hj hI
    cases fl with
    | nx σ2 => exact next σ2 hf
    | ct σ2 => exact next σ2 hf
    | bk σ2 => exact hf.elim
    | rt d => exact hf.elim
/-- while: an invariant and a measure -/
theorem svWh_inv {t : DE} {f : DS} (I : Nat → Env → Sto → Prop) {Q : Fl → Sto → Prop}
    (step : ∀ n σ S, I n σ S → wpR (t σ S) (wBl fun b S1 => (b = false → Q (.nx σ) S1) ∧ (b = true → wpR (f σ S1) (wNx fun σ2 S2 => ∃ m, m < n ∧ I m σ2 S2) noX)) noX) : ∀ (n : Nat) (σ : Env) (S : Sto), I n σ S → wpR (svWh t f σ S) Q noX := by
  have key : ∀ (n : Nat) (σ : Env) (S : Sto), I n σ S → ∃ k, wpR (whN t f k σ S) Q noX := by
    intro n
    induction n using Nat.strongRecOn with
    | _ n ih =>
      intro σ S h
      obtain ⟨d, S1, e1, hd⟩ := (step n σ S h).ex
      obtain ⟨b, rfl⟩ : ∃ b, d = .bl b := by
        cases d with
        | bl b => exact ⟨b, rfl⟩
        | _ => exact hd.elim
      obtain ⟨h0, h1⟩ : (b = false → Q (.nx σ) S1) ∧ (b = true → wpR (f σ S1) (wNx fun σ2 S2 => ∃ m, m < n ∧ I m σ2 S2) noX) := hd
      cases b with
      | false =>
        refine ⟨1, ?_⟩
        rw [whN, e1]
        simp only [Res.bind, asB, Bool.false_eq_true, if_false]
        exact .ok (h0 rfl)
      | true =>
        obtain ⟨fl, S2, e2, hf⟩ := (h1 rfl).ex
        have again : ∀ σ2, (∃ m, m < n ∧ I m σ2 S2) → ∃ k, wpR (whN t f k σ2 S2) Q noX := fun σ2 ⟨m, hm, hI⟩ => ih m hm σ2 S2 hI
        cases fl with
        | nx σ2 =>
          obtain ⟨k, hk⟩ := again σ2 hf
          refine ⟨k + 1, ?_⟩
          rw [whN, e1]
          simp only [Res.bind, asB, if_true]
          rw [e2]
          exact hk
        | ct σ2 =>
          obtain ⟨k, hk⟩ := again σ2 hf
          refine ⟨k + 1, ?_⟩
          rw [whN, e1]
          simp only [Res.bind, asB, if_true]
          rw [e2]
          exact hk
        | bk σ2 => exact hf.elim
        | rt d => exact hf.elim
  intro n σ S h
  obtain ⟨k, hk⟩ := key n σ S h
  have hne : whN t f k σ S ≠ .bad := fun e => by
    rw [e] at hk
    cases hk
  rw [svWh_of hne]
  exact hk
/-- a comprehension: what each item gives; R: what is kept of the store -/
theorem compD_inv {lk : List (Nat × List D)} {t : Tg} {vs : List Nat} {cond : DB} {f : DE} {n : Nat} {σ : Env} (I : Nat → List D → Sto → Prop) (hlk : ∀ j acc S, I j acc S → S[n]? = some (.lst acc) → Locked S lk) : ∀ (ds : List D) (i : Nat) (acc : List D) (S : Sto), I i acc S → S[n]? = some (.lst acc) → acc.length + ds.length < 16777216 →
    (∀ j d acc S, ds[j]? = some d → I (i + j) acc S → S[n]? = some (.lst acc) → ∃ σ1, setTg t d (wipeD σ vs) = some σ1 ∧ wpR (cond σ1 S) (fun k S1 => (k = false → S1[n]? = some (.lst acc) ∧ I (i + j + 1) acc S1) ∧
      (k = true → wpR (f σ1 S1) (fun y S2 => S2[n]? = some (.lst acc) ∧ I (i + j + 1) (acc ++ [y]) (S2.set n (.lst (acc ++ [y])))) noX)) noX) →
    wpR (compD lk t vs cond f n σ ds S) (fun r S' => r = .ref n ∧ ∃ acc', S'[n]? = some (.lst acc') ∧ I (i + ds.length) acc' S') noX
  | [], i, acc, S, h, hn, _, _ => by
    rw [compD, if_pos (hlk _ _ _ h hn)]
    exact .ok ⟨rfl, acc, hn, h⟩
  | d :: ds, i, acc, S, h, hn, hz, hs => by
    rw [compD, if_pos (hlk _ _ _ h hn)]
    obtain ⟨σ1, e1, w⟩ := hs 0 d acc S rfl h hn
    rw [e1]
    dsimp only
    have next : ∀ acc2 S2, acc2.length ≤ acc.length + 1 → I (i + 0 + 1) acc2 S2 → S2[n]? = some (.lst acc2) → wpR (compD lk t vs cond f n σ ds S2) (fun r S' => r = .ref n ∧ ∃ acc', S'[n]? = some (.lst acc') ∧ I (i + (d :: ds).length) acc' S') noX := by
      intro acc2 S2 hl h2 hn2
      have e : i + (d :: ds).length = (i + 1) + ds.length := by simp; omega
      rw [e]
      refine compD_inv I hlk ds (i + 1) acc2 S2 h2 hn2 (by simp at hz; omega) fun j d' a S hj hI ha => ?_
      have e2 : i + 1 + j = i + (j + 1) := by omega
      rw [e2] at hI ⊢
      exact hs (j + 1) d' a S hj hI ha
    obtain ⟨k, S1, ek, h0, h1⟩ := w.ex
    rw [ek]
    cases k with
    | false =>
      simp only [noE, Res.bind, Bool.false_eq_true, if_false]
      obtain ⟨a1, a2⟩ := h0 rfl
      exact next acc S1 (by omega) a2 a1
    | true =>
      simp only [noE, Res.bind, if_true]
      obtain ⟨y, S2, ey, hy, hI⟩ := (h1 rfl).ex
      rw [ey]
      dsimp only
      have ea : appD n y S2 = .ok .non (S2.set n (.lst (acc ++ [y]))) := by
        unfold appD
        rw [hy]
        exact if_pos (by simp at hz; omega)
      rw [ea]
      exact next (acc ++ [y]) _ (by simp) hI (by
        have hlt : n < S2.length := (List.getElem?_eq_some_iff.mp hy).1
        rw [List.getElem?_set_self hlt])
end DV

end
section
set_option Elab.async false
set_option linter.all false
set_option maxRecDepth 100000
set_option maxHeartbeats 0
set_option autoImplicit false
/-! k12: its defs in the small language, its head, its walk. Printed by gen_law.py. -/
namespace T
open PySem PySem.Spec PyProof.Rows L2 DV
def top (i : Nat) : Stmt := PySem.Challenge.pw_anyballs_k12_whole_texts_of_plans.main.body.getD i (.Pass ⟨0, 0, 0, 0⟩)
def consts : List (Str × D) := [("LEAST_MORE", (.int (-3))), ("MOST_MORE", (.int (6))), ("MOST_PART", (.int (5))), ("FIGURES", (.str "0123456789")), ("WORDS", (.tup [(.str "jugglers"), (.str "begin"), (.str "round"), (.str "end")]))]
def fns0 : List Str := ["is_int", "is_throw", "is_beat", "is_part", "is_plan", "need_plan", "cell_text", "beat_text", "text_of", "number_in", "cell_in", "beat_in", "line_in", "read_so", "plan_text", "read_plan", "_law_sack", "_law_toss", "_law_any", "_law_throw", "_law_row", "_law_even", "_law_drawn", "_law_is_whole", "_law_is_row", "_law_is_part", "_law_is_plan", "_law_kinds", "_law_call", "_law_lines"]
def fns1 : List Str := ["law"]
def fns : List Str := fns0 ++ fns1
def excs : List Str := ["InvalidPlan", "InvalidBalls", "InvalidRounds", "InvalidJuggler", "InvalidSlip", "InvalidNumber", "InvalidRound", "InvalidIndex", "NotLasting", "Unlike", "NothingToUndo"]
def m_is_int : List MS := [.ret (.and (.isi .int (.var 0)) (.and (.not (.isi .bool (.var 0))) (.chain .le .le (.var 1) (.var 0) (.var 2))))]
theorem c_is_int : cSs (cS ⟨["value", "low", "high"], consts, fns, excs, false, [], false, false⟩ (defScope (top 20)) 30) (defBody (top 20)) = some m_is_int := by kernel_rfl
def m_is_throw : List MS := [.ifS (.or (.not (.isi .tup (.var 1))) (.or (.cmp .ne (.blt .len (.cons (.var 1) .nil)) (.con (.int 2))) (.not (.isi .bool (.idx (.var 1) (.con (.int 1))))))) [.ret (.con (.bl false))] [],
  .ret (.and (.call "is_int" (.cons (.idx (.var 1) (.con (.int 0))) (.cons (.con (.int (-3))) (.cons (.con (.int (6))) .nil)))) (.or (.cmp .eq (.var 0) (.con (.int 2))) (.not (.idx (.var 1) (.con (.int 1))))))]
theorem c_is_throw : cSs (cS ⟨["jugglers", "value"], consts, fns, excs, false, [], false, false⟩ (defScope (top 21)) 30) (defBody (top 21)) = some m_is_throw := by kernel_rfl
def m_is_beat : List MS := [.ifS (.or (.not (.isi .tup (.var 1))) (.cmp .ne (.blt .len (.cons (.var 1) .nil)) (.var 0))) [.ret (.con (.bl false))] [],
  .ret (.blt .all (.cons (.comp (.val (.var 1)) (.nm 2) [2] .none (.or (.isN false (.var 2)) (.call "is_throw" (.cons (.var 0) (.cons (.var 2) .nil))))) .nil))]
theorem c_is_beat : cSs (cS ⟨["jugglers", "value", "cell"], consts, fns, excs, false, [], false, false⟩ (defScope (top 22)) 30) (defBody (top 22)) = some m_is_beat := by kernel_rfl
def m_is_part : List MS := [.ifS (.or (.not (.isi .tup (.var 1))) (.not (.chain .le .le (.var 2) (.blt .len (.cons (.var 1) .nil)) (.var 3)))) [.ret (.con (.bl false))] [],
  .ret (.blt .all (.cons (.comp (.val (.var 1)) (.nm 4) [4] .none (.call "is_beat" (.cons (.var 0) (.cons (.var 4) .nil)))) .nil))]
theorem c_is_part : cSs (cS ⟨["jugglers", "value", "least", "most", "beat"], consts, fns, excs, false, [], false, false⟩ (defScope (top 23)) 30) (defBody (top 23)) = some m_is_part := by kernel_rfl
def m_is_plan : List MS := [.ifS (.or (.not (.isi .tup (.var 0))) (.or (.cmp .ne (.blt .len (.cons (.var 0) .nil)) (.con (.int 4))) (.not (.call "is_int" (.cons (.idx (.var 0) (.con (.int 0))) (.cons (.con (.int 1)) (.cons (.con (.int 2)) .nil))))))) [.ret (.con (.bl false))] [],
  .asg (.tp [(.nm 1), (.nm 2), (.nm 3), (.nm 4)]) (.var 0),
  .ifS (.or (.not (.call "is_part" (.cons (.var 1) (.cons (.var 2) (.cons (.con (.int 0)) (.cons (.con (.int (5))) .nil)))))) (.not (.call "is_part" (.cons (.var 1) (.cons (.var 4) (.cons (.con (.int 0)) (.cons (.con (.int (5))) .nil))))))) [.ret (.con (.bl false))] [],
  .ret (.call "is_part" (.cons (.var 1) (.cons (.var 3) (.cons (.con (.int 1)) (.cons (.con (.int (5))) .nil)))))]
theorem c_is_plan : cSs (cS ⟨["value", "jugglers", "begin", "middle", "end"], consts, fns, excs, false, [], false, false⟩ (defScope (top 24)) 30) (defBody (top 24)) = some m_is_plan := by kernel_rfl
def m_need_plan : List MS := [.ifS (.not (.call "is_plan" (.cons (.var 0) .nil))) [.raise "InvalidPlan"] []]
theorem c_need_plan : cSs (cS ⟨["plan"], consts, fns, excs, false, [], false, false⟩ (defScope (top 25)) 30) (defBody (top 25)) = some m_need_plan := by kernel_rfl
def m_cell_text : List MS := [.ifS (.isN false (.var 0)) [.ret (.con (.str "_"))] [],
  .ret (.bin .add (.blt .str (.cons (.idx (.var 0) (.con (.int 0))) .nil)) (.ite (.idx (.var 0) (.con (.int 1))) (.con (.str "p")) (.con (.str ""))))]
theorem c_cell_text : cSs (cS ⟨["cell"], consts, fns, excs, false, [], false, false⟩ (defScope (top 29)) 30) (defBody (top 29)) = some m_cell_text := by kernel_rfl
def m_beat_text : List MS := [.ret (.mt1 .join (.con (.str "/")) (.comp (.val (.var 0)) (.nm 1) [1] .none (.call "cell_text" (.cons (.var 1) .nil))))]
theorem c_beat_text : cSs (cS ⟨["beat", "cell"], consts, fns, excs, false, [], false, false⟩ (defScope (top 30)) 30) (defBody (top 30)) = some m_beat_text := by kernel_rfl
def m_text_of : List MS := [.asg (.nm 1) (.lst (.cons (.bin .add (.con (.str "jugglers ")) (.blt .str (.cons (.idx (.var 0) (.con (.int 0))) .nil))) .nil)),
  .forS (.tp [(.nm 2), (.nm 3)]) (.zip (.slc (.con (.tup [(.str "jugglers"), (.str "begin"), (.str "round"), (.str "end")])) (.some (.con (.int 1))) .none) (.slc (.var 0) (.some (.con (.int 1))) .none)) [.expr (.app (.var 1) (.mt1 .join (.con (.str " ")) (.bin .add (.lst (.cons (.var 2) .nil)) (.comp (.val (.var 3)) (.nm 4) [4] .none (.call "beat_text" (.cons (.var 4) .nil))))))],
  .ret (.mt1 .join (.con (.str "\n")) (.var 1))]
theorem c_text_of : cSs (cS ⟨["plan", "lines", "word", "part", "beat"], consts, fns, excs, false, [], false, false⟩ (defScope (top 31)) 30) (defBody (top 31)) = some m_text_of := by kernel_rfl
def m_number_in : List MS := [.asg (.nm 1) (.ite (.cmp .eq (.slc (.var 0) .none (.some (.con (.int 1)))) (.con (.str "-"))) (.slc (.var 0) (.some (.con (.int 1))) .none) (.var 0)),
  .ifS (.or (.cmp .ne (.blt .len (.cons (.var 1) .nil)) (.con (.int 1))) (.cmp .notin (.var 1) (.con (.str "0123456789")))) [.ret (.con .non)] [],
  .ret (.ite (.cmp .eq (.blt .str (.cons (.blt .int (.cons (.var 0) .nil)) .nil)) (.var 0)) (.blt .int (.cons (.var 0) .nil)) (.con .non))]
theorem c_number_in : cSs (cS ⟨["word", "figures"], consts, fns, excs, false, [], false, false⟩ (defScope (top 32)) 30) (defBody (top 32)) = some m_number_in := by kernel_rfl
def m_cell_in : List MS := [.ifS (.cmp .eq (.var 0) (.con (.str "_"))) [.ret (.con .non)] [],
  .ret (.ite (.cmp .eq (.slc (.var 0) (.some (.neg (.con (.int 1)))) .none) (.con (.str "p"))) (.tup (.cons (.call "number_in" (.cons (.slc (.var 0) .none (.some (.neg (.con (.int 1))))) .nil)) (.cons (.con (.bl true)) .nil))) (.tup (.cons (.call "number_in" (.cons (.var 0) .nil)) (.cons (.con (.bl false)) .nil))))]
theorem c_cell_in : cSs (cS ⟨["word"], consts, fns, excs, false, [], false, false⟩ (defScope (top 33)) 30) (defBody (top 33)) = some m_cell_in := by kernel_rfl
def m_beat_in : List MS := [.ret (.blt .tuple (.cons (.comp (.val (.mt1 .split (.var 0) (.con (.str "/")))) (.nm 1) [1] .none (.call "cell_in" (.cons (.var 1) .nil))) .nil))]
theorem c_beat_in : cSs (cS ⟨["word", "part"], consts, fns, excs, false, [], false, false⟩ (defScope (top 34)) 30) (defBody (top 34)) = some m_beat_in := by kernel_rfl
def m_line_in : List MS := [.asg (.nm 1) (.mt1 .split (.var 0) (.con (.str " "))),
  .ifS (.cmp .eq (.idx (.var 1) (.con (.int 0))) (.con (.str "jugglers"))) [.ret (.ite (.and (.cmp .eq (.blt .len (.cons (.var 1) .nil)) (.con (.int 2))) (.cmp .isin (.idx (.var 1) (.con (.int 1))) (.tup (.cons (.con (.str "1")) (.cons (.con (.str "2")) .nil))))) (.tup (.cons (.con (.str "jugglers")) (.cons (.blt .int (.cons (.idx (.var 1) (.con (.int 1))) .nil)) .nil))) (.con .non))] [],
  .ifS (.or (.cmp .notin (.idx (.var 1) (.con (.int 0))) (.con (.tup [(.str "jugglers"), (.str "begin"), (.str "round"), (.str "end")]))) (.or (.cmp .gt (.blt .len (.cons (.var 1) .nil)) (.con (.int 6))) (.and (.cmp .eq (.idx (.var 1) (.con (.int 0))) (.con (.str "round"))) (.cmp .lt (.blt .len (.cons (.var 1) .nil)) (.con (.int 2)))))) [.ret (.con .non)] [],
  .asg (.nm 2) (.blt .tuple (.cons (.comp (.val (.slc (.var 1) (.some (.con (.int 1))) .none)) (.nm 4) [4] .none (.call "beat_in" (.cons (.var 4) .nil))) .nil)),
  .forS (.nm 3) (.val (.tup (.cons (.con (.int 1)) (.cons (.con (.int 2)) .nil)))) [.ifS (.blt .all (.cons (.comp (.val (.var 2)) (.nm 5) [5] .none (.call "is_beat" (.cons (.var 3) (.cons (.var 5) .nil)))) .nil)) [.ret (.tup (.cons (.idx (.var 1) (.con (.int 0))) (.cons (.var 2) .nil)))] []],
  .ret (.con .non)]
theorem c_line_in : cSs (cS ⟨["line", "words", "part", "many", "word", "beat"], consts, fns, excs, false, [], false, false⟩ (defScope (top 35)) 30) (defBody (top 35)) = some m_line_in := by kernel_rfl
def m_read_so : List MS := [.ifS (.not (.isi .str (.var 0))) [.never] [],
  .asg (.nm 1) (.comp (.val (.mt1 .split (.var 0) (.con (.str "\n")))) (.nm 3) [3] .none (.call "line_in" (.cons (.var 3) .nil))),
  .ifS (.cmp .isin (.con .non) (.var 1)) [.never] [],
  .asg (.nm 2) (.blt .tuple (.cons (.comp (.val (.var 1)) (.tp [(.nm 4), (.nm 5)]) [4, 5] .none (.var 5)) .nil)),
  .ifS (.or (.cmp .ne (.comp (.val (.var 1)) (.tp [(.nm 4), (.nm 5)]) [4, 5] .none (.var 4)) (.blt .list (.cons (.con (.tup [(.str "jugglers"), (.str "begin"), (.str "round"), (.str "end")])) .nil))) (.not (.call "is_plan" (.cons (.var 2) .nil)))) [.never] [],
  .ret (.var 2)]
theorem c_read_so : cSs (cS ⟨["value", "rows", "plan", "line", "word", "told"], consts, fns, excs, false, [], false, false⟩ (defScope (top 36)) 30) (defBody (top 36)) = some m_read_so := by kernel_rfl
def m_plan_text : List MS := [.expr (.call "need_plan" (.cons (.var 0) .nil)),
  .ret (.call "text_of" (.cons (.var 0) .nil))]
theorem c_plan_text : cSs (cS ⟨["plan"], consts, fns, excs, false, [], false, false⟩ (defScope (top 37)) 30) (defBody (top 37)) = some m_plan_text := by kernel_rfl
def m_read_plan : List MS := [.ret (.call "read_so" (.cons (.var 0) .nil))]
theorem c_read_plan : cSs (cS ⟨["value"], consts, fns, excs, false, [], false, false⟩ (defScope (top 38)) 30) (defBody (top 38)) = some m_read_plan := by kernel_rfl
def m__law_sack : List MS := [.asg (.nm 2) (.bin .add (.bin .mul (.con (.int 27007)) (.var 1)) (.con (.int 79))),
  .ifS (.cmp .lt (.var 1) (.blt .len (.cons (.var 0) .nil))) [.asg (.nm 2) (.bin .mod (.blt .abs (.cons (.blt .int (.cons (.idx (.var 0) (.var 1)) .nil)) .nil)) (.bin .mul (.bin .mul (.bin .mul (.bin .pow (.con (.int 10)) (.con (.int 60))) (.bin .pow (.con (.int 10)) (.con (.int 60)))) (.bin .pow (.con (.int 10)) (.con (.int 60)))) (.bin .pow (.con (.int 10)) (.con (.int 60)))))] [.ifS (.cmp .gt (.blt .len (.cons (.var 0) .nil)) (.con (.int 0))) [.asg (.nm 2) (.bin .add (.var 2) (.bin .mod (.blt .abs (.cons (.blt .int (.cons (.idx (.var 0) (.con (.int 0))) .nil)) .nil)) (.con (.int 1000403))))] []],
  .ret (.lst (.cons (.ite (.cmp .ge (.var 2) (.bin .pow (.con (.int 10)) (.con (.int 18)))) (.var 2) (.con (.int 0))) (.cons (.bin .add (.bin .mod (.blt .int (.cons (.bin .add (.bin .add (.bin .mul (.bin .mod (.var 2) (.con (.int 2147482937))) (.con (.int 19))) (.bin .mul (.con (.int 97)) (.var 1))) (.con (.int 47))) .nil)) (.con (.int 2147482937))) (.con (.int 1))) .nil)))]
theorem c__law_sack : cSs (cS ⟨["_law_script", "_law_k", "_law_cell"], consts, fns, excs, false, [], false, false⟩ (defScope (top 40)) 30) (defBody (top 40)) = some m__law_sack := by kernel_rfl
def m__law_toss : List MS := [.ifS (.cmp .gt (.idx (.var 0) (.con (.int 0))) (.con (.int 0))) [.asg (.nm 2) (.bin .mod (.blt .int (.cons (.idx (.var 0) (.con (.int 0))) .nil)) (.var 1)),
  .sub (.var 0) (.con (.int 0)) (.bin .fdiv (.idx (.var 0) (.con (.int 0))) (.var 1)),
  .ret (.var 2)] [],
  .asg (.tp [(.nm 2), (.nm 3)]) (.tup (.cons (.con (.int 0)) (.cons (.con (.int 1)) .nil))),
  .whS (.or (.cmp .lt (.var 3) (.var 1)) (.cmp .eq (.var 3) (.con (.int 1)))) [.sub (.var 0) (.con (.int 1)) (.bin .mod (.blt .int (.cons (.bin .add (.bin .mul (.idx (.var 0) (.con (.int 1))) (.con (.int 20011))) (.con (.int 103))) .nil)) (.con (.int 2147482937))),
  .asg (.nm 2) (.bin .add (.bin .mul (.var 2) (.con (.int 8192))) (.bin .mod (.blt .int (.cons (.bin .fdiv (.idx (.var 0) (.con (.int 1))) (.con (.int 65671))) .nil)) (.con (.int 8192)))),
  .asg (.nm 3) (.bin .mul (.var 3) (.con (.int 8192)))],
  .ret (.bin .mod (.blt .int (.cons (.var 2) .nil)) (.var 1))]
theorem c__law_toss : cSs (cS ⟨["_law_sack_here", "_law_many", "_law_found", "_law_wide"], consts, fns, excs, false, [], false, false⟩ (defScope (top 41)) 30) (defBody (top 41)) = some m__law_toss := by kernel_rfl
def m__law_any : List MS := [.ret (.idx (.var 1) (.call "_law_toss" (.cons (.var 0) (.cons (.blt .len (.cons (.var 1) .nil)) .nil))))]
theorem c__law_any : cSs (cS ⟨["_law_sack_here", "_law_things"], consts, fns, excs, false, [], false, false⟩ (defScope (top 42)) 30) (defBody (top 42)) = some m__law_any := by kernel_rfl
def m__law_throw : List MS := [.ifS (.cmp .eq (.call "_law_toss" (.cons (.var 0) (.cons (.con (.int 9)) .nil))) (.con (.int 0))) [.ret (.con .non)] [],
  .ret (.tup (.cons (.call "_law_any" (.cons (.var 0) (.cons (.lst (.cons (.con (.int 0)) (.cons (.con (.int 0)) (.cons (.con (.int 0)) (.cons (.con (.int 1)) (.cons (.con (.int 1)) (.cons (.neg (.con (.int 1))) (.cons (.con (.int 2)) (.cons (.con (.int 3)) (.cons (.neg (.con (.int 2))) (.cons (.neg (.con (.int 3))) (.cons (.con (.int 6)) .nil)))))))))))) .nil))) (.cons (.and (.cmp .eq (.var 1) (.con (.int 2))) (.cmp .eq (.call "_law_toss" (.cons (.var 0) (.cons (.con (.int 3)) .nil))) (.con (.int 0)))) .nil)))]
theorem c__law_throw : cSs (cS ⟨["_law_sack_here", "_law_hands"], consts, fns, excs, false, [], false, false⟩ (defScope (top 43)) 30) (defBody (top 43)) = some m__law_throw := by kernel_rfl
def m__law_row : List MS := [.ret (.blt .tuple (.cons (.comp (.range1 (.var 2)) (.nm 3) [3] .none (.blt .tuple (.cons (.comp (.range1 (.var 1)) (.nm 4) [4] .none (.call "_law_throw" (.cons (.var 0) (.cons (.var 1) .nil)))) .nil))) .nil))]
theorem c__law_row : cSs (cS ⟨["_law_sack_here", "_law_hands", "_law_size", "_law_turn", "_law_hand"], consts, fns, excs, false, [], false, false⟩ (defScope (top 44)) 30) (defBody (top 44)) = some m__law_row := by kernel_rfl
def m__law_even : List MS := [.asg (.nm 3) (.lst .nil),
  .forS (.nm 4) (.range1 (.bin .mul (.var 2) (.var 1))) [.expr (.app (.var 3) (.tup (.cons (.bin .fdiv (.var 4) (.var 1)) (.cons (.bin .mod (.var 4) (.var 1)) .nil))))],
  .forS (.nm 5) (.range1 (.ite (.cmp .ne (.var 3) (.lst .nil)) (.call "_law_toss" (.cons (.var 0) (.cons (.con (.int 6)) .nil))) (.con (.int 0)))) [.par 7 8 (.call "_law_toss" (.cons (.var 0) (.cons (.blt .len (.cons (.var 3) .nil)) .nil))) (.call "_law_toss" (.cons (.var 0) (.cons (.blt .len (.cons (.var 3) .nil)) .nil))),
  .par 9 10 (.idx (.var 3) (.var 7)) (.idx (.var 3) (.var 8)),
  .ifS (.cmp .lt (.blt .max (.cons (.blt .abs (.cons (.bin .sub (.bin .fdiv (.var 7) (.var 1)) (.idx (.var 10) (.con (.int 0)))) .nil)) (.cons (.blt .abs (.cons (.bin .sub (.bin .fdiv (.var 8) (.var 1)) (.idx (.var 9) (.con (.int 0)))) .nil)) .nil))) (.con (.int 4))) [.sub2 (.var 3) (.var 7) (.var 3) (.var 8) (.tup (.cons (.var 10) (.cons (.var 9) .nil)))] []],
  .asg (.nm 6) (.lst .nil),
  .forS (.tp [(.nm 4), (.tp [(.nm 11), (.nm 12)])]) (.enum (.var 3)) [.expr (.app (.var 6) (.tup (.cons (.bin .sub (.var 11) (.bin .fdiv (.var 4) (.var 1))) (.cons (.cmp .ne (.var 12) (.bin .mod (.var 4) (.var 1))) .nil))))],
  .ret (.blt .tuple (.cons (.comp (.range1 (.var 2)) (.nm 13) [13] .none (.blt .tuple (.cons (.slc (.var 6) (.some (.bin .mul (.var 13) (.var 1))) (.some (.bin .add (.bin .mul (.var 13) (.var 1)) (.var 1)))) .nil))) .nil))]
theorem c__law_even : cSs (cS ⟨["_law_sack_here", "_law_hands", "_law_size", "_law_goals", "_law_number", "_law_turn", "_law_found", "_law_one", "_law_other", "_law_first", "_law_second", "_law_when", "_law_hand", "_law_at"], consts, fns, excs, false, [], false, false⟩ (defScope (top 45)) 30) (defBody (top 45)) = some m__law_even := by kernel_rfl
def m__law_drawn : List MS := [.asg (.tp [(.nm 4), (.nm 5)]) (.tup (.cons (.bin .add (.con (.int 1)) (.call "_law_toss" (.cons (.var 0) (.cons (.con (.int 2)) .nil)))) (.cons (.call "_law_toss" (.cons (.var 0) (.cons (.con (.int 8)) .nil))) .nil))),
  .asg (.nm 1) (.lst (.cons (.call "_law_toss" (.cons (.var 0) (.cons (.con (.int 4)) .nil))) (.cons (.bin .add (.con (.int 1)) (.call "_law_toss" (.cons (.var 0) (.cons (.con (.int 4)) .nil)))) (.cons (.call "_law_toss" (.cons (.var 0) (.cons (.con (.int 4)) .nil))) .nil)))),
  .asg (.nm 2) (.comp (.val (.var 1)) (.nm 6) [6] .none (.call "_law_even" (.cons (.var 0) (.cons (.var 4) (.cons (.var 6) .nil))))),
  .ifS (.cmp .eq (.var 5) (.con (.int 0))) [.asg (.nm 2) (.comp (.val (.var 1)) (.nm 6) [6] .none (.call "_law_row" (.cons (.var 0) (.cons (.var 4) (.cons (.var 6) .nil)))))] [],
  .asg (.nm 3) (.call "_law_toss" (.cons (.var 0) (.cons (.con (.int 3)) .nil))),
  .ifS (.and (.cmp .isin (.var 5) (.tup (.cons (.con (.int 1)) (.cons (.con (.int 2)) .nil)))) (.cmp .gt (.idx (.var 1) (.var 3)) (.con (.int 0)))) [.sub (.var 2) (.var 3) (.bin .add (.slc (.idx (.var 2) (.var 3)) .none (.some (.neg (.con (.int 1))))) (.call "_law_row" (.cons (.var 0) (.cons (.var 4) (.cons (.con (.int 1)) .nil)))))] [],
  .ifS (.and (.cmp .isin (.var 5) (.tup (.cons (.con (.int 3)) (.cons (.con (.int 4)) .nil)))) (.cmp .gt (.idx (.var 1) (.con (.int 2))) (.con (.int 0)))) [.sub (.var 2) (.con (.int 2)) (.bin .add (.slc (.idx (.var 2) (.con (.int 2))) .none (.some (.neg (.con (.int 1))))) (.tup (.cons (.bin .mul (.tup (.cons (.con .non) .nil)) (.var 4)) .nil))),
  .sub (.var 2) (.con (.int 1)) (.tup (.cons (.bin .mul (.tup (.cons (.tup (.cons (.con (.int 1)) (.cons (.con (.bl false)) .nil))) .nil)) (.var 4)) .nil))] [],
  .ifS (.cmp .eq (.var 5) (.con (.int 5))) [.sub (.var 2) (.con (.int 1)) (.bin .add (.bin .mul (.tup (.cons (.bin .mul (.tup (.cons (.tup (.cons (.con (.int 1)) (.cons (.con (.bl false)) .nil))) .nil)) (.var 4)) .nil)) (.con (.int 4))) (.tup (.cons (.bin .mul (.tup (.cons (.con .non) .nil)) (.var 4)) .nil)))] [],
  .ret (.tup (.cons (.var 4) (.cons (.idx (.var 2) (.con (.int 0))) (.cons (.idx (.var 2) (.con (.int 1))) (.cons (.idx (.var 2) (.con (.int 2))) .nil)))))]
theorem c__law_drawn : cSs (cS ⟨["_law_sack_here", "_law_sizes_so", "_law_parts", "_law_spot", "_law_hands", "_law_way", "_law_size"], consts, fns, excs, false, [], false, false⟩ (defScope (top 46)) 30) (defBody (top 46)) = some m__law_drawn := by kernel_rfl
def m__law_is_whole : List MS := [.ret (.and (.isi .int (.var 0)) (.and (.not (.isi .bool (.var 0))) (.chain .le .le (.var 1) (.var 0) (.var 2))))]
theorem c__law_is_whole : cSs (cS ⟨["_law_thing", "_law_low", "_law_high"], consts, fns, excs, false, [], false, false⟩ (defScope (top 47)) 30) (defBody (top 47)) = some m__law_is_whole := by kernel_rfl
def m__law_is_row : List MS := [.ifS (.or (.not (.isi .tup (.var 1))) (.cmp .ne (.blt .len (.cons (.var 1) .nil)) (.var 0))) [.ret (.con (.bl false))] [],
  .forS (.nm 2) (.val (.var 1)) [.ifS (.isN true (.var 2)) [.ifS (.or (.not (.isi .tup (.var 2))) (.or (.cmp .ne (.blt .len (.cons (.var 2) .nil)) (.con (.int 2))) (.not (.isi .bool (.idx (.var 2) (.con (.int 1))))))) [.ret (.con (.bl false))] [],
  .ifS (.or (.not (.call "_law_is_whole" (.cons (.idx (.var 2) (.con (.int 0))) (.cons (.neg (.con (.int 3))) (.cons (.con (.int 6)) .nil))))) (.and (.cmp .eq (.var 0) (.con (.int 1))) (.idx (.var 2) (.con (.int 1))))) [.ret (.con (.bl false))] []] []],
  .ret (.con (.bl true))]
theorem c__law_is_row : cSs (cS ⟨["_law_hands", "_law_thing", "_law_cell"], consts, fns, excs, false, [], false, false⟩ (defScope (top 48)) 30) (defBody (top 48)) = some m__law_is_row := by kernel_rfl
def m__law_is_part : List MS := [.ifS (.or (.not (.isi .tup (.var 1))) (.not (.chain .le .le (.var 2) (.blt .len (.cons (.var 1) .nil)) (.con (.int 5))))) [.ret (.con (.bl false))] [],
  .ret (.cmp .eq (.comp (.val (.var 1)) (.nm 3) [3] (.some (.not (.call "_law_is_row" (.cons (.var 0) (.cons (.var 3) .nil))))) (.var 3)) (.lst .nil))]
theorem c__law_is_part : cSs (cS ⟨["_law_hands", "_law_thing", "_law_low", "_law_row_here"], consts, fns, excs, false, [], false, false⟩ (defScope (top 49)) 30) (defBody (top 49)) = some m__law_is_part := by kernel_rfl
def m__law_is_plan : List MS := [.ifS (.or (.not (.isi .tup (.var 0))) (.or (.cmp .ne (.blt .len (.cons (.var 0) .nil)) (.con (.int 4))) (.not (.call "_law_is_whole" (.cons (.idx (.var 0) (.con (.int 0))) (.cons (.con (.int 1)) (.cons (.con (.int 2)) .nil))))))) [.ret (.con (.bl false))] [],
  .ifS (.not (.call "_law_is_part" (.cons (.idx (.var 0) (.con (.int 0))) (.cons (.idx (.var 0) (.con (.int 2))) (.cons (.con (.int 1)) .nil))))) [.ret (.con (.bl false))] [],
  .ret (.and (.call "_law_is_part" (.cons (.idx (.var 0) (.con (.int 0))) (.cons (.idx (.var 0) (.con (.int 1))) (.cons (.con (.int 0)) .nil)))) (.call "_law_is_part" (.cons (.idx (.var 0) (.con (.int 0))) (.cons (.idx (.var 0) (.con (.int 3))) (.cons (.con (.int 0)) .nil)))))]
theorem c__law_is_plan : cSs (cS ⟨["_law_thing"], consts, fns, excs, false, [], false, false⟩ (defScope (top 50)) 30) (defBody (top 50)) = some m__law_is_plan := by kernel_rfl
def m__law_lines : List MS := [.asg (.nm 1) (.lst (.cons (.bin .add (.con (.str "jugglers ")) (.blt .str (.cons (.idx (.var 0) (.con (.int 0))) .nil))) .nil)),
  .forS (.tp [(.nm 2), (.nm 3)]) (.zip (.lst (.cons (.con (.str "begin")) (.cons (.con (.str "round")) (.cons (.con (.str "end")) .nil)))) (.slc (.var 0) (.some (.con (.int 1))) .none)) [.asg (.nm 4) (.var 2),
  .forS (.nm 5) (.val (.var 3)) [.asg (.nm 6) (.lst .nil),
  .forS (.nm 7) (.val (.var 5)) [.expr (.app (.var 6) (.ite (.isN false (.var 7)) (.con (.str "_")) (.bin .add (.blt .str (.cons (.idx (.var 7) (.con (.int 0))) .nil)) (.ite (.idx (.var 7) (.con (.int 1))) (.con (.str "p")) (.con (.str ""))))))],
  .asg (.nm 4) (.bin .add (.bin .add (.var 4) (.con (.str " "))) (.mt1 .join (.con (.str "/")) (.var 6)))],
  .expr (.app (.var 1) (.var 4))],
  .ret (.var 1)]
theorem c__law_lines : cSs (cS ⟨["_law_plan", "_law_found", "_law_label", "_law_part", "_law_line", "_law_row_here", "_law_cells", "_law_cell"], consts, fns, excs, false, [], false, false⟩ (defScope (top 53)) 30) (defBody (top 53)) = some m__law_lines := by kernel_rfl
def m_law : List MS := [.forS (.nm 1) (.range1 (.blt .max (.cons (.con (.int 1)) (.cons (.blt .min (.cons (.con (.int 10)) (.cons (.blt .len (.cons (.var 0) .nil)) .nil))) .nil)))) [.asg (.nm 4) (.call "_law_sack" (.cons (.var 0) (.cons (.var 1) .nil))),
  .forS (.nm 5) (.range1 (.con (.int 5))) [.asg (.nm 7) (.call "_law_drawn" (.cons (.var 4) .nil)),
  .asg (.nm 8) (.mt1 .join (.con (.str "\n")) (.call "_law_lines" (.cons (.var 7) .nil))),
  .ifS (.cmp .ne (.call "plan_text" (.cons (.var 7) .nil)) (.var 8)) [.ret (.con (.bl false))] [],
  .asg (.nm 9) (.call "read_plan" (.cons (.var 8) .nil)),
  .ifS (.or (.cmp .ne (.var 9) (.var 7)) (.not (.call "_law_is_plan" (.cons (.var 9) .nil)))) [.ret (.con (.bl false))] []],
  .forS (.nm 6) (.val (.lst (.cons (.con .non) (.cons (.blt .list (.cons (.var 7) .nil)) (.cons (.slc (.var 7) .none (.some (.con (.int 3)))) (.cons (.bin .add (.tup (.cons (.con (.int 3)) .nil)) (.slc (.var 7) (.some (.con (.int 1))) .none)) (.cons (.con (.str "jugglers 1")) .nil))))))) [.ifS (.cmp .ne (.told (.call "plan_text" (.cons (.var 6) .nil))) (.tup (.cons (.con (.str "InvalidPlan +")) .nil))) [.ret (.con (.bl false))] []]],
  .asg (.nm 2) (.tup (.cons (.con (.int 1)) (.cons (.tup .nil) (.cons (.tup (.cons (.tup (.cons (.tup (.cons (.con (.int 1)) (.cons (.con (.bl false)) .nil))) .nil)) (.cons (.tup (.cons (.tup (.cons (.neg (.con (.int 1))) (.cons (.con (.bl false)) .nil))) .nil)) .nil))) (.cons (.tup (.cons (.tup (.cons (.con .non) .nil)) .nil)) .nil))))),
  .asg (.nm 3) (.tup (.cons (.con (.int 2)) (.cons (.tup .nil) (.cons (.tup (.cons (.tup (.cons (.tup (.cons (.con (.int 0)) (.cons (.con (.bl true)) .nil))) (.cons (.con .non) .nil))) .nil)) (.cons (.tup .nil) .nil))))),
  .ifS (.or (.cmp .ne (.call "plan_text" (.cons (.var 2) .nil)) (.con (.str "jugglers 1\nbegin\nround 1 -1\nend _"))) (.cmp .ne (.idx (.mt1 .split (.call "plan_text" (.cons (.var 3) .nil)) (.con (.str "\n"))) (.con (.int 2))) (.con (.str "round 0p/_")))) [.ret (.con (.bl false))] [],
  .ret (.cmp .eq (.call "read_plan" (.cons (.con (.str "jugglers 1\nbegin\nround 1 -1\nend _")) .nil)) (.var 2))]
theorem c_law : cSs (cS ⟨["_law_script", "_law_k", "_law_due", "_law_both", "_law_sack_here", "_law_turn", "_law_bad", "_law_plan", "_law_string", "_law_found"], consts, fns, excs, true, [], false, false⟩ (defScope (top 54)) 30) (defBody (top 54)) = some m_law := by kernel_rfl
theorem c__law_kinds : cSs (cS GK (defScope (top 51)) 30) (defBody (top 51)) = some m_kinds := by kernel_rfl
theorem c__law_call : callShape (defBody (top 52)) = true := by kernel_rfl
theorem s__law_call : callSc (defScope (top 52)) = true := by kernel_rfl
theorem s__law_kinds : fnScopeB kN ["_law_e"] (defScope (top 51)) = true := by kernel_rfl
def dd (a x : Str) (i : Nat) : He.DefD := ⟨(a, none), x, x, defArgs (top i), defBody (top i), defScope (top i), [], []⟩
def fn0 : List He.DefD := [dd "is_int" "is_int" 20, dd "is_throw" "is_throw" 21, dd "is_beat" "is_beat" 22, dd "is_part" "is_part" 23, dd "is_plan" "is_plan" 24, dd "need_plan" "need_plan" 25, dd "cell_text" "cell_text" 29, dd "beat_text" "beat_text" 30, dd "text_of" "text_of" 31, dd "number_in" "number_in" 32, dd "cell_in" "cell_in" 33, dd "beat_in" "beat_in" 34, dd "line_in" "line_in" 35, dd "read_so" "read_so" 36, dd "plan_text" "plan_text" 37, dd "read_plan" "read_plan" 38, dd "_law_sack" "_law_sack" 40, dd "_law_toss" "_law_toss" 41, dd "_law_any" "_law_any" 42, dd "_law_throw" "_law_throw" 43, dd "_law_row" "_law_row" 44, dd "_law_even" "_law_even" 45, dd "_law_drawn" "_law_drawn" 46, dd "_law_is_whole" "_law_is_whole" 47, dd "_law_is_row" "_law_is_row" 48, dd "_law_is_part" "_law_is_part" 49, dd "_law_is_plan" "_law_is_plan" 50, dd "_law_kinds" "_law_kinds" 51, dd "_law_call" "_law_call" 52, dd "_law_lines" "_law_lines" 53]
def fn1 : List He.DefD := [dd "law" "law" 54]
def fn : List He.DefD := fn0 ++ fn1
def gloN0 : List Str := ["is_int", "is_throw", "is_beat", "is_part", "is_plan", "need_plan", "cell_text", "beat_text", "text_of", "number_in", "cell_in", "beat_in", "line_in", "read_so", "plan_text", "read_plan", "_law_sack", "_law_toss", "_law_any", "_law_throw", "_law_row", "_law_even", "_law_drawn", "_law_is_whole", "_law_is_row", "_law_is_part", "_law_is_plan", "_law_kinds", "_law_call", "_law_lines"]
def gloN1 : List Str := ["law", "BallError", "InvalidPlan", "InvalidBalls", "InvalidRounds", "InvalidJuggler", "InvalidSlip", "InvalidNumber", "InvalidRound", "InvalidIndex", "NotLasting", "Unlike", "NothingToUndo", "Fault", "TooMany", "InvalidText"]
def gloN : List Str := gloN0 ++ gloN1
def freeN : List Str := bltNames ++ [Str.ofString "ValueError"]
def fa : List He.Fa := gloN.map .glo ++ excs.map .exc ++ freeN.map .free
def ex (K : PySem.W.Frag) : Bool := constsB consts K && kfB K
def tf : List He.Defn := [("law", none)]
def loose0 : List Str := ["BallError", "InvalidPlan", "InvalidBalls", "InvalidRounds", "InvalidJuggler", "InvalidSlip", "InvalidNumber", "InvalidRound", "InvalidIndex", "NotLasting", "Unlike", "NothingToUndo", "Fault", "TooMany", "InvalidText", "LEAST_MORE", "MOST_MORE", "MOST_PART", "is_int", "is_throw", "is_beat", "is_part", "is_plan", "need_plan", "FIGURES", "WORDS", "cell_text", "beat_text", "text_of", "number_in"]
def loose1 : List Str := ["cell_in", "beat_in", "line_in", "read_so", "plan_text", "read_plan", "_law_sack", "_law_toss", "_law_any", "_law_throw", "_law_row", "_law_even", "_law_drawn", "_law_is_whole", "_law_is_row", "_law_is_part", "_law_is_plan", "_law_kinds", "_law_call", "_law_lines"]
def loose : List Str := loose0 ++ loose1
abbrev R : PySem.W.OpenRow := PySem.W.OpenLaw.row PySem.Challenge.rw_anyballs_k12_whole_texts_of_plans
abbrev hk : PySem.W.Hook := He.hookX 4 fa fn [] tf ex
def ob (s : PySem.W.SharedT) : He.AlX := He.obsX 4 fa fn [] tf ex (HandSHeadRun.getT s)
theorem ob_eq (s : PySem.W.SharedT) : ob s = hk.obs s.abs := He.obsX_eq (HandSHeadRun.getT_eq s)
theorem run (w : World) : HandSHeadRun.RunEq R (PySem.W.view R.prog [54]) hk ob 15000 loose w := by
  intro os
  kernel_rfl
theorem gm {x : Str} (h : x ∈ gloN) : He.Fa.glo x ∈ fa := List.mem_append_left _ (List.mem_append_left _ (List.mem_map_of_mem h))
theorem fm {x : Str} (h : x ∈ freeN) : He.Fa.free x ∈ fa := List.mem_append_right _ (List.mem_map_of_mem h)
theorem xm {x : Str} (h : x ∈ excs) : He.Fa.exc x ∈ fa := List.mem_append_left _ (List.mem_append_right _ (List.mem_map_of_mem h))
section
variable {P : Program} {w : World} {K : PySem.W.Frag} {mg : Str → Option Value} {base : Heap} {C : DV.Ctx}
noncomputable def Φ_is_int : Tab := fun y => none
noncomputable def d_is_int : Den := denOf Φ_is_int 3 3 m_is_int
theorem t_is_int : ∀ y n den, Φ_is_int y = some (n, den) → FnM P w K mg base C 1 y n den := by
  intro y n den h
  unfold Φ_is_int at h
  cases h
theorem s_is_int : fnScopeB ["value", "low", "high"] ["value", "low", "high"] (defScope (top 20)) = true := by kernel_rfl
theorem b_is_int {fd : FuncData} (F : FunD K "is_int" "is_int" (defArgs (top 20)) (defBody (top 20)) (defScope (top 20)) [] [] (He.ga K "is_int") fd) : Binds K fd ["value", "low", "high"] [] := F.bindsN fun _ _ _ _ _ _ us hl => match us, hl with | [_, _, _], _ => rfl
theorem o_is_int (M : MOD P w K mg base C consts fns excs) (c : He.SaysD fa fn K) (hg : mg "is_int" = some (.ref (He.ga K "is_int"))) : FnM P w K mg base C 2 "is_int" 3 d_is_int := by
  obtain ⟨fd, F⟩ := c.def_ 0 (d := dd "is_int" "is_int" 20) rfl
  exact def_ok (n := 30) M (by decide) (t_is_int) F s_is_int c_is_int (b_is_int F) rfl rfl hg
noncomputable def Φ_is_throw : Tab := fun y => if y = "is_int" then some (3, d_is_int) else none
noncomputable def d_is_throw : Den := denOf Φ_is_throw 2 2 m_is_throw
theorem t_is_throw (h_is_int : FnM P w K mg base C 2 "is_int" 3 d_is_int) : ∀ y n den, Φ_is_throw y = some (n, den) → FnM P w K mg base C 2 y n den := by
  intro y n den h
  unfold Φ_is_throw at h
  split at h
  · rename_i e
    cases h
    subst e
    exact h_is_int.mono (by decide)
  cases h
theorem q_is_throw_is_int : Tab.of Φ_is_throw 3 "is_int" = some d_is_int := rfl
theorem s_is_throw : fnScopeB ["jugglers", "value"] ["jugglers", "value"] (defScope (top 21)) = true := by kernel_rfl
theorem b_is_throw {fd : FuncData} (F : FunD K "is_throw" "is_throw" (defArgs (top 21)) (defBody (top 21)) (defScope (top 21)) [] [] (He.ga K "is_throw") fd) : Binds K fd ["jugglers", "value"] [] := F.bindsN fun _ _ _ _ _ _ us hl => match us, hl with | [_, _], _ => rfl
theorem o_is_throw (M : MOD P w K mg base C consts fns excs) (c : He.SaysD fa fn K) (hg : mg "is_throw" = some (.ref (He.ga K "is_throw"))) (h_is_int : FnM P w K mg base C 2 "is_int" 3 d_is_int) : FnM P w K mg base C 3 "is_throw" 2 d_is_throw := by
  obtain ⟨fd, F⟩ := c.def_ 1 (d := dd "is_throw" "is_throw" 21) rfl
  exact def_ok (n := 30) M (by decide) (t_is_throw h_is_int) F s_is_throw c_is_throw (b_is_throw F) rfl rfl hg
noncomputable def Φ_is_beat : Tab := fun y => if y = "is_throw" then some (2, d_is_throw) else none
noncomputable def d_is_beat : Den := denOf Φ_is_beat 2 3 m_is_beat
theorem t_is_beat (h_is_throw : FnM P w K mg base C 3 "is_throw" 2 d_is_throw) : ∀ y n den, Φ_is_beat y = some (n, den) → FnM P w K mg base C 3 y n den := by
  intro y n den h
  unfold Φ_is_beat at h
  split at h
  · rename_i e
    cases h
    subst e
    exact h_is_throw.mono (by decide)
  cases h
theorem q_is_beat_is_throw : Tab.of Φ_is_beat 2 "is_throw" = some d_is_throw := rfl
theorem s_is_beat : fnScopeB ["jugglers", "value", "cell"] ["jugglers", "value"] (defScope (top 22)) = true := by kernel_rfl
theorem b_is_beat {fd : FuncData} (F : FunD K "is_beat" "is_beat" (defArgs (top 22)) (defBody (top 22)) (defScope (top 22)) [] [] (He.ga K "is_beat") fd) : Binds K fd ["jugglers", "value"] [] := F.bindsN fun _ _ _ _ _ _ us hl => match us, hl with | [_, _], _ => rfl
theorem o_is_beat (M : MOD P w K mg base C consts fns excs) (c : He.SaysD fa fn K) (hg : mg "is_beat" = some (.ref (He.ga K "is_beat"))) (h_is_throw : FnM P w K mg base C 3 "is_throw" 2 d_is_throw) : FnM P w K mg base C 4 "is_beat" 2 d_is_beat := by
  obtain ⟨fd, F⟩ := c.def_ 2 (d := dd "is_beat" "is_beat" 22) rfl
  exact def_ok (n := 30) M (by decide) (t_is_beat h_is_throw) F s_is_beat c_is_beat (b_is_beat F) rfl rfl hg
noncomputable def Φ_is_part : Tab := fun y => if y = "is_beat" then some (2, d_is_beat) else none
noncomputable def d_is_part : Den := denOf Φ_is_part 4 5 m_is_part
theorem t_is_part (h_is_beat : FnM P w K mg base C 4 "is_beat" 2 d_is_beat) : ∀ y n den, Φ_is_part y = some (n, den) → FnM P w K mg base C 4 y n den := by
  intro y n den h
  unfold Φ_is_part at h
  split at h
  · rename_i e
    cases h
    subst e
    exact h_is_beat.mono (by decide)
  cases h
theorem q_is_part_is_beat : Tab.of Φ_is_part 2 "is_beat" = some d_is_beat := rfl
theorem s_is_part : fnScopeB ["jugglers", "value", "least", "most", "beat"] ["jugglers", "value", "least", "most"] (defScope (top 23)) = true := by kernel_rfl
theorem b_is_part {fd : FuncData} (F : FunD K "is_part" "is_part" (defArgs (top 23)) (defBody (top 23)) (defScope (top 23)) [] [] (He.ga K "is_part") fd) : Binds K fd ["jugglers", "value", "least", "most"] [] := F.bindsN fun _ _ _ _ _ _ us hl => match us, hl with | [_, _, _, _], _ => rfl
theorem o_is_part (M : MOD P w K mg base C consts fns excs) (c : He.SaysD fa fn K) (hg : mg "is_part" = some (.ref (He.ga K "is_part"))) (h_is_beat : FnM P w K mg base C 4 "is_beat" 2 d_is_beat) : FnM P w K mg base C 5 "is_part" 4 d_is_part := by
  obtain ⟨fd, F⟩ := c.def_ 3 (d := dd "is_part" "is_part" 23) rfl
  exact def_ok (n := 30) M (by decide) (t_is_part h_is_beat) F s_is_part c_is_part (b_is_part F) rfl rfl hg
noncomputable def Φ_is_plan : Tab := fun y => if y = "is_part" then some (4, d_is_part) else if y = "is_int" then some (3, d_is_int) else none
noncomputable def d_is_plan : Den := denOf Φ_is_plan 1 5 m_is_plan
theorem t_is_plan (h_is_part : FnM P w K mg base C 5 "is_part" 4 d_is_part) (h_is_int : FnM P w K mg base C 2 "is_int" 3 d_is_int) : ∀ y n den, Φ_is_plan y = some (n, den) → FnM P w K mg base C 5 y n den := by
  intro y n den h
  unfold Φ_is_plan at h
  split at h
  · rename_i e
    cases h
    subst e
    exact h_is_part.mono (by decide)
  split at h
  · rename_i e
    cases h
    subst e
    exact h_is_int.mono (by decide)
  cases h
theorem q_is_plan_is_part : Tab.of Φ_is_plan 4 "is_part" = some d_is_part := rfl
theorem q_is_plan_is_int : Tab.of Φ_is_plan 3 "is_int" = some d_is_int := rfl
theorem s_is_plan : fnScopeB ["value", "jugglers", "begin", "middle", "end"] ["value"] (defScope (top 24)) = true := by kernel_rfl
theorem b_is_plan {fd : FuncData} (F : FunD K "is_plan" "is_plan" (defArgs (top 24)) (defBody (top 24)) (defScope (top 24)) [] [] (He.ga K "is_plan") fd) : Binds K fd ["value"] [] := F.bindsN fun _ _ _ _ _ _ us hl => match us, hl with | [_], _ => rfl
theorem o_is_plan (M : MOD P w K mg base C consts fns excs) (c : He.SaysD fa fn K) (hg : mg "is_plan" = some (.ref (He.ga K "is_plan"))) (h_is_part : FnM P w K mg base C 5 "is_part" 4 d_is_part) (h_is_int : FnM P w K mg base C 2 "is_int" 3 d_is_int) : FnM P w K mg base C 6 "is_plan" 1 d_is_plan := by
  obtain ⟨fd, F⟩ := c.def_ 4 (d := dd "is_plan" "is_plan" 24) rfl
  exact def_ok (n := 30) M (by decide) (t_is_plan h_is_part h_is_int) F s_is_plan c_is_plan (b_is_plan F) rfl rfl hg
noncomputable def Φ_need_plan : Tab := fun y => if y = "is_plan" then some (1, d_is_plan) else none
noncomputable def d_need_plan : Den := denOf Φ_need_plan 1 1 m_need_plan
theorem t_need_plan (h_is_plan : FnM P w K mg base C 6 "is_plan" 1 d_is_plan) : ∀ y n den, Φ_need_plan y = some (n, den) → FnM P w K mg base C 6 y n den := by
  intro y n den h
  unfold Φ_need_plan at h
  split at h
  · rename_i e
    cases h
    subst e
    exact h_is_plan.mono (by decide)
  cases h
theorem q_need_plan_is_plan : Tab.of Φ_need_plan 1 "is_plan" = some d_is_plan := rfl
theorem s_need_plan : fnScopeB ["plan"] ["plan"] (defScope (top 25)) = true := by kernel_rfl
theorem b_need_plan {fd : FuncData} (F : FunD K "need_plan" "need_plan" (defArgs (top 25)) (defBody (top 25)) (defScope (top 25)) [] [] (He.ga K "need_plan") fd) : Binds K fd ["plan"] [] := F.bindsN fun _ _ _ _ _ _ us hl => match us, hl with | [_], _ => rfl
theorem o_need_plan (M : MOD P w K mg base C consts fns excs) (c : He.SaysD fa fn K) (hg : mg "need_plan" = some (.ref (He.ga K "need_plan"))) (h_is_plan : FnM P w K mg base C 6 "is_plan" 1 d_is_plan) : FnM P w K mg base C 7 "need_plan" 1 d_need_plan := by
  obtain ⟨fd, F⟩ := c.def_ 5 (d := dd "need_plan" "need_plan" 25) rfl
  exact def_ok (n := 30) M (by decide) (t_need_plan h_is_plan) F s_need_plan c_need_plan (b_need_plan F) rfl rfl hg
noncomputable def Φ_cell_text : Tab := fun y => none
noncomputable def d_cell_text : Den := denOf Φ_cell_text 1 1 m_cell_text
theorem t_cell_text : ∀ y n den, Φ_cell_text y = some (n, den) → FnM P w K mg base C 1 y n den := by
  intro y n den h
  unfold Φ_cell_text at h
  cases h
theorem s_cell_text : fnScopeB ["cell"] ["cell"] (defScope (top 29)) = true := by kernel_rfl
theorem b_cell_text {fd : FuncData} (F : FunD K "cell_text" "cell_text" (defArgs (top 29)) (defBody (top 29)) (defScope (top 29)) [] [] (He.ga K "cell_text") fd) : Binds K fd ["cell"] [] := F.bindsN fun _ _ _ _ _ _ us hl => match us, hl with | [_], _ => rfl
theorem o_cell_text (M : MOD P w K mg base C consts fns excs) (c : He.SaysD fa fn K) (hg : mg "cell_text" = some (.ref (He.ga K "cell_text"))) : FnM P w K mg base C 2 "cell_text" 1 d_cell_text := by
  obtain ⟨fd, F⟩ := c.def_ 6 (d := dd "cell_text" "cell_text" 29) rfl
  exact def_ok (n := 30) M (by decide) (t_cell_text) F s_cell_text c_cell_text (b_cell_text F) rfl rfl hg
noncomputable def Φ_beat_text : Tab := fun y => if y = "cell_text" then some (1, d_cell_text) else none
noncomputable def d_beat_text : Den := denOf Φ_beat_text 1 2 m_beat_text
theorem t_beat_text (h_cell_text : FnM P w K mg base C 2 "cell_text" 1 d_cell_text) : ∀ y n den, Φ_beat_text y = some (n, den) → FnM P w K mg base C 2 y n den := by
  intro y n den h
  unfold Φ_beat_text at h
  split at h
  · rename_i e
    cases h
    subst e
    exact h_cell_text.mono (by decide)
  cases h
theorem q_beat_text_cell_text : Tab.of Φ_beat_text 1 "cell_text" = some d_cell_text := rfl
theorem s_beat_text : fnScopeB ["beat", "cell"] ["beat"] (defScope (top 30)) = true := by kernel_rfl
theorem b_beat_text {fd : FuncData} (F : FunD K "beat_text" "beat_text" (defArgs (top 30)) (defBody (top 30)) (defScope (top 30)) [] [] (He.ga K "beat_text") fd) : Binds K fd ["beat"] [] := F.bindsN fun _ _ _ _ _ _ us hl => match us, hl with | [_], _ => rfl
theorem o_beat_text (M : MOD P w K mg base C consts fns excs) (c : He.SaysD fa fn K) (hg : mg "beat_text" = some (.ref (He.ga K "beat_text"))) (h_cell_text : FnM P w K mg base C 2 "cell_text" 1 d_cell_text) : FnM P w K mg base C 3 "beat_text" 1 d_beat_text := by
  obtain ⟨fd, F⟩ := c.def_ 7 (d := dd "beat_text" "beat_text" 30) rfl
  exact def_ok (n := 30) M (by decide) (t_beat_text h_cell_text) F s_beat_text c_beat_text (b_beat_text F) rfl rfl hg
noncomputable def Φ_text_of : Tab := fun y => if y = "beat_text" then some (1, d_beat_text) else none
noncomputable def d_text_of : Den := denOf Φ_text_of 1 5 m_text_of
theorem t_text_of (h_beat_text : FnM P w K mg base C 3 "beat_text" 1 d_beat_text) : ∀ y n den, Φ_text_of y = some (n, den) → FnM P w K mg base C 3 y n den := by
  intro y n den h
  unfold Φ_text_of at h
  split at h
  · rename_i e
    cases h
    subst e
    exact h_beat_text.mono (by decide)
  cases h
theorem q_text_of_beat_text : Tab.of Φ_text_of 1 "beat_text" = some d_beat_text := rfl
theorem s_text_of : fnScopeB ["plan", "lines", "word", "part", "beat"] ["plan"] (defScope (top 31)) = true := by kernel_rfl
theorem b_text_of {fd : FuncData} (F : FunD K "text_of" "text_of" (defArgs (top 31)) (defBody (top 31)) (defScope (top 31)) [] [] (He.ga K "text_of") fd) : Binds K fd ["plan"] [] := F.bindsN fun _ _ _ _ _ _ us hl => match us, hl with | [_], _ => rfl
theorem o_text_of (M : MOD P w K mg base C consts fns excs) (c : He.SaysD fa fn K) (hg : mg "text_of" = some (.ref (He.ga K "text_of"))) (h_beat_text : FnM P w K mg base C 3 "beat_text" 1 d_beat_text) : FnM P w K mg base C 4 "text_of" 1 d_text_of := by
  obtain ⟨fd, F⟩ := c.def_ 8 (d := dd "text_of" "text_of" 31) rfl
  exact def_ok (n := 30) M (by decide) (t_text_of h_beat_text) F s_text_of c_text_of (b_text_of F) rfl rfl hg
noncomputable def Φ_number_in : Tab := fun y => none
noncomputable def d_number_in : Den := denOf Φ_number_in 1 2 m_number_in
theorem t_number_in : ∀ y n den, Φ_number_in y = some (n, den) → FnM P w K mg base C 1 y n den := by
  intro y n den h
  unfold Φ_number_in at h
  cases h
theorem s_number_in : fnScopeB ["word", "figures"] ["word"] (defScope (top 32)) = true := by kernel_rfl
theorem b_number_in {fd : FuncData} (F : FunD K "number_in" "number_in" (defArgs (top 32)) (defBody (top 32)) (defScope (top 32)) [] [] (He.ga K "number_in") fd) : Binds K fd ["word"] [] := F.bindsN fun _ _ _ _ _ _ us hl => match us, hl with | [_], _ => rfl
theorem o_number_in (M : MOD P w K mg base C consts fns excs) (c : He.SaysD fa fn K) (hg : mg "number_in" = some (.ref (He.ga K "number_in"))) : FnM P w K mg base C 2 "number_in" 1 d_number_in := by
  obtain ⟨fd, F⟩ := c.def_ 9 (d := dd "number_in" "number_in" 32) rfl
  exact def_ok (n := 30) M (by decide) (t_number_in) F s_number_in c_number_in (b_number_in F) rfl rfl hg
noncomputable def Φ_cell_in : Tab := fun y => if y = "number_in" then some (1, d_number_in) else none
noncomputable def d_cell_in : Den := denOf Φ_cell_in 1 1 m_cell_in
theorem t_cell_in (h_number_in : FnM P w K mg base C 2 "number_in" 1 d_number_in) : ∀ y n den, Φ_cell_in y = some (n, den) → FnM P w K mg base C 2 y n den := by
  intro y n den h
  unfold Φ_cell_in at h
  split at h
  · rename_i e
    cases h
    subst e
    exact h_number_in.mono (by decide)
  cases h
theorem q_cell_in_number_in : Tab.of Φ_cell_in 1 "number_in" = some d_number_in := rfl
theorem s_cell_in : fnScopeB ["word"] ["word"] (defScope (top 33)) = true := by kernel_rfl
theorem b_cell_in {fd : FuncData} (F : FunD K "cell_in" "cell_in" (defArgs (top 33)) (defBody (top 33)) (defScope (top 33)) [] [] (He.ga K "cell_in") fd) : Binds K fd ["word"] [] := F.bindsN fun _ _ _ _ _ _ us hl => match us, hl with | [_], _ => rfl
theorem o_cell_in (M : MOD P w K mg base C consts fns excs) (c : He.SaysD fa fn K) (hg : mg "cell_in" = some (.ref (He.ga K "cell_in"))) (h_number_in : FnM P w K mg base C 2 "number_in" 1 d_number_in) : FnM P w K mg base C 3 "cell_in" 1 d_cell_in := by
  obtain ⟨fd, F⟩ := c.def_ 10 (d := dd "cell_in" "cell_in" 33) rfl
  exact def_ok (n := 30) M (by decide) (t_cell_in h_number_in) F s_cell_in c_cell_in (b_cell_in F) rfl rfl hg
noncomputable def Φ_beat_in : Tab := fun y => if y = "cell_in" then some (1, d_cell_in) else none
noncomputable def d_beat_in : Den := denOf Φ_beat_in 1 2 m_beat_in
theorem t_beat_in (h_cell_in : FnM P w K mg base C 3 "cell_in" 1 d_cell_in) : ∀ y n den, Φ_beat_in y = some (n, den) → FnM P w K mg base C 3 y n den := by
  intro y n den h
  unfold Φ_beat_in at h
  split at h
  · rename_i e
    cases h
    subst e
    exact h_cell_in.mono (by decide)
  cases h
theorem q_beat_in_cell_in : Tab.of Φ_beat_in 1 "cell_in" = some d_cell_in := rfl
theorem s_beat_in : fnScopeB ["word", "part"] ["word"] (defScope (top 34)) = true := by kernel_rfl
theorem b_beat_in {fd : FuncData} (F : FunD K "beat_in" "beat_in" (defArgs (top 34)) (defBody (top 34)) (defScope (top 34)) [] [] (He.ga K "beat_in") fd) : Binds K fd ["word"] [] := F.bindsN fun _ _ _ _ _ _ us hl => match us, hl with | [_], _ => rfl
theorem o_beat_in (M : MOD P w K mg base C consts fns excs) (c : He.SaysD fa fn K) (hg : mg "beat_in" = some (.ref (He.ga K "beat_in"))) (h_cell_in : FnM P w K mg base C 3 "cell_in" 1 d_cell_in) : FnM P w K mg base C 4 "beat_in" 1 d_beat_in := by
  obtain ⟨fd, F⟩ := c.def_ 11 (d := dd "beat_in" "beat_in" 34) rfl
  exact def_ok (n := 30) M (by decide) (t_beat_in h_cell_in) F s_beat_in c_beat_in (b_beat_in F) rfl rfl hg
noncomputable def Φ_line_in : Tab := fun y => if y = "beat_in" then some (1, d_beat_in) else if y = "is_beat" then some (2, d_is_beat) else none
noncomputable def d_line_in : Den := denOf Φ_line_in 1 6 m_line_in
theorem t_line_in (h_beat_in : FnM P w K mg base C 4 "beat_in" 1 d_beat_in) (h_is_beat : FnM P w K mg base C 4 "is_beat" 2 d_is_beat) : ∀ y n den, Φ_line_in y = some (n, den) → FnM P w K mg base C 4 y n den := by
  intro y n den h
  unfold Φ_line_in at h
  split at h
  · rename_i e
    cases h
    subst e
    exact h_beat_in.mono (by decide)
  split at h
  · rename_i e
    cases h
    subst e
    exact h_is_beat.mono (by decide)
  cases h
theorem q_line_in_beat_in : Tab.of Φ_line_in 1 "beat_in" = some d_beat_in := rfl
theorem q_line_in_is_beat : Tab.of Φ_line_in 2 "is_beat" = some d_is_beat := rfl
theorem s_line_in : fnScopeB ["line", "words", "part", "many", "word", "beat"] ["line"] (defScope (top 35)) = true := by kernel_rfl
theorem b_line_in {fd : FuncData} (F : FunD K "line_in" "line_in" (defArgs (top 35)) (defBody (top 35)) (defScope (top 35)) [] [] (He.ga K "line_in") fd) : Binds K fd ["line"] [] := F.bindsN fun _ _ _ _ _ _ us hl => match us, hl with | [_], _ => rfl
theorem o_line_in (M : MOD P w K mg base C consts fns excs) (c : He.SaysD fa fn K) (hg : mg "line_in" = some (.ref (He.ga K "line_in"))) (h_beat_in : FnM P w K mg base C 4 "beat_in" 1 d_beat_in) (h_is_beat : FnM P w K mg base C 4 "is_beat" 2 d_is_beat) : FnM P w K mg base C 5 "line_in" 1 d_line_in := by
  obtain ⟨fd, F⟩ := c.def_ 12 (d := dd "line_in" "line_in" 35) rfl
  exact def_ok (n := 30) M (by decide) (t_line_in h_beat_in h_is_beat) F s_line_in c_line_in (b_line_in F) rfl rfl hg
noncomputable def Φ_read_so : Tab := fun y => if y = "line_in" then some (1, d_line_in) else if y = "is_plan" then some (1, d_is_plan) else none
noncomputable def d_read_so : Den := denOf Φ_read_so 1 6 m_read_so
theorem t_read_so (h_line_in : FnM P w K mg base C 5 "line_in" 1 d_line_in) (h_is_plan : FnM P w K mg base C 6 "is_plan" 1 d_is_plan) : ∀ y n den, Φ_read_so y = some (n, den) → FnM P w K mg base C 6 y n den := by
  intro y n den h
  unfold Φ_read_so at h
  split at h
  · rename_i e
    cases h
    subst e
    exact h_line_in.mono (by decide)
  split at h
  · rename_i e
    cases h
    subst e
    exact h_is_plan.mono (by decide)
  cases h
theorem q_read_so_line_in : Tab.of Φ_read_so 1 "line_in" = some d_line_in := rfl
theorem q_read_so_is_plan : Tab.of Φ_read_so 1 "is_plan" = some d_is_plan := rfl
theorem s_read_so : fnScopeB ["value", "rows", "plan", "line", "word", "told"] ["value"] (defScope (top 36)) = true := by kernel_rfl
theorem b_read_so {fd : FuncData} (F : FunD K "read_so" "read_so" (defArgs (top 36)) (defBody (top 36)) (defScope (top 36)) [] [] (He.ga K "read_so") fd) : Binds K fd ["value"] [] := F.bindsN fun _ _ _ _ _ _ us hl => match us, hl with | [_], _ => rfl
theorem o_read_so (M : MOD P w K mg base C consts fns excs) (c : He.SaysD fa fn K) (hg : mg "read_so" = some (.ref (He.ga K "read_so"))) (h_line_in : FnM P w K mg base C 5 "line_in" 1 d_line_in) (h_is_plan : FnM P w K mg base C 6 "is_plan" 1 d_is_plan) : FnM P w K mg base C 7 "read_so" 1 d_read_so := by
  obtain ⟨fd, F⟩ := c.def_ 13 (d := dd "read_so" "read_so" 36) rfl
  exact def_ok (n := 30) M (by decide) (t_read_so h_line_in h_is_plan) F s_read_so c_read_so (b_read_so F) rfl rfl hg
noncomputable def Φ_plan_text : Tab := fun y => if y = "need_plan" then some (1, d_need_plan) else if y = "text_of" then some (1, d_text_of) else none
noncomputable def d_plan_text : Den := denOf Φ_plan_text 1 1 m_plan_text
theorem t_plan_text (h_need_plan : FnM P w K mg base C 7 "need_plan" 1 d_need_plan) (h_text_of : FnM P w K mg base C 4 "text_of" 1 d_text_of) : ∀ y n den, Φ_plan_text y = some (n, den) → FnM P w K mg base C 7 y n den := by
  intro y n den h
  unfold Φ_plan_text at h
  split at h
  · rename_i e
    cases h
    subst e
    exact h_need_plan.mono (by decide)
  split at h
  · rename_i e
    cases h
    subst e
    exact h_text_of.mono (by decide)
  cases h
theorem q_plan_text_need_plan : Tab.of Φ_plan_text 1 "need_plan" = some d_need_plan := rfl
theorem q_plan_text_text_of : Tab.of Φ_plan_text 1 "text_of" = some d_text_of := rfl
theorem s_plan_text : fnScopeB ["plan"] ["plan"] (defScope (top 37)) = true := by kernel_rfl
theorem b_plan_text {fd : FuncData} (F : FunD K "plan_text" "plan_text" (defArgs (top 37)) (defBody (top 37)) (defScope (top 37)) [] [] (He.ga K "plan_text") fd) : Binds K fd ["plan"] [] := F.bindsN fun _ _ _ _ _ _ us hl => match us, hl with | [_], _ => rfl
theorem o_plan_text (M : MOD P w K mg base C consts fns excs) (c : He.SaysD fa fn K) (hg : mg "plan_text" = some (.ref (He.ga K "plan_text"))) (h_need_plan : FnM P w K mg base C 7 "need_plan" 1 d_need_plan) (h_text_of : FnM P w K mg base C 4 "text_of" 1 d_text_of) : FnM P w K mg base C 8 "plan_text" 1 d_plan_text := by
  obtain ⟨fd, F⟩ := c.def_ 14 (d := dd "plan_text" "plan_text" 37) rfl
  exact def_ok (n := 30) M (by decide) (t_plan_text h_need_plan h_text_of) F s_plan_text c_plan_text (b_plan_text F) rfl rfl hg
noncomputable def Φ_read_plan : Tab := fun y => if y = "read_so" then some (1, d_read_so) else none
noncomputable def d_read_plan : Den := denOf Φ_read_plan 1 1 m_read_plan
theorem t_read_plan (h_read_so : FnM P w K mg base C 7 "read_so" 1 d_read_so) : ∀ y n den, Φ_read_plan y = some (n, den) → FnM P w K mg base C 7 y n den := by
  intro y n den h
  unfold Φ_read_plan at h
  split at h
  · rename_i e
    cases h
    subst e
    exact h_read_so.mono (by decide)
  cases h
theorem q_read_plan_read_so : Tab.of Φ_read_plan 1 "read_so" = some d_read_so := rfl
theorem s_read_plan : fnScopeB ["value"] ["value"] (defScope (top 38)) = true := by kernel_rfl
theorem b_read_plan {fd : FuncData} (F : FunD K "read_plan" "read_plan" (defArgs (top 38)) (defBody (top 38)) (defScope (top 38)) [] [] (He.ga K "read_plan") fd) : Binds K fd ["value"] [] := F.bindsN fun _ _ _ _ _ _ us hl => match us, hl with | [_], _ => rfl
theorem o_read_plan (M : MOD P w K mg base C consts fns excs) (c : He.SaysD fa fn K) (hg : mg "read_plan" = some (.ref (He.ga K "read_plan"))) (h_read_so : FnM P w K mg base C 7 "read_so" 1 d_read_so) : FnM P w K mg base C 8 "read_plan" 1 d_read_plan := by
  obtain ⟨fd, F⟩ := c.def_ 15 (d := dd "read_plan" "read_plan" 38) rfl
  exact def_ok (n := 30) M (by decide) (t_read_plan h_read_so) F s_read_plan c_read_plan (b_read_plan F) rfl rfl hg
noncomputable def Φ__law_sack : Tab := fun y => none
noncomputable def d__law_sack : Den := denOf Φ__law_sack 2 3 m__law_sack
theorem t__law_sack : ∀ y n den, Φ__law_sack y = some (n, den) → FnM P w K mg base C 1 y n den := by
  intro y n den h
  unfold Φ__law_sack at h
  cases h
theorem s__law_sack : fnScopeB ["_law_script", "_law_k", "_law_cell"] ["_law_script", "_law_k"] (defScope (top 40)) = true := by kernel_rfl
theorem b__law_sack {fd : FuncData} (F : FunD K "_law_sack" "_law_sack" (defArgs (top 40)) (defBody (top 40)) (defScope (top 40)) [] [] (He.ga K "_law_sack") fd) : Binds K fd ["_law_script", "_law_k"] [] := F.bindsN fun _ _ _ _ _ _ us hl => match us, hl with | [_, _], _ => rfl
theorem o__law_sack (M : MOD P w K mg base C consts fns excs) (c : He.SaysD fa fn K) (hg : mg "_law_sack" = some (.ref (He.ga K "_law_sack"))) : FnM P w K mg base C 2 "_law_sack" 2 d__law_sack := by
  obtain ⟨fd, F⟩ := c.def_ 16 (d := dd "_law_sack" "_law_sack" 40) rfl
  exact def_ok (n := 30) M (by decide) (t__law_sack) F s__law_sack c__law_sack (b__law_sack F) rfl rfl hg
noncomputable def Φ__law_toss : Tab := fun y => none
noncomputable def d__law_toss : Den := denOf Φ__law_toss 2 4 m__law_toss
theorem t__law_toss : ∀ y n den, Φ__law_toss y = some (n, den) → FnM P w K mg base C 1 y n den := by
  intro y n den h
  unfold Φ__law_toss at h
  cases h
theorem s__law_toss : fnScopeB ["_law_sack_here", "_law_many", "_law_found", "_law_wide"] ["_law_sack_here", "_law_many"] (defScope (top 41)) = true := by kernel_rfl
theorem b__law_toss {fd : FuncData} (F : FunD K "_law_toss" "_law_toss" (defArgs (top 41)) (defBody (top 41)) (defScope (top 41)) [] [] (He.ga K "_law_toss") fd) : Binds K fd ["_law_sack_here", "_law_many"] [] := F.bindsN fun _ _ _ _ _ _ us hl => match us, hl with | [_, _], _ => rfl
theorem o__law_toss (M : MOD P w K mg base C consts fns excs) (c : He.SaysD fa fn K) (hg : mg "_law_toss" = some (.ref (He.ga K "_law_toss"))) : FnM P w K mg base C 2 "_law_toss" 2 d__law_toss := by
  obtain ⟨fd, F⟩ := c.def_ 17 (d := dd "_law_toss" "_law_toss" 41) rfl
  exact def_ok (n := 30) M (by decide) (t__law_toss) F s__law_toss c__law_toss (b__law_toss F) rfl rfl hg
noncomputable def Φ__law_any : Tab := fun y => if y = "_law_toss" then some (2, d__law_toss) else none
noncomputable def d__law_any : Den := denOf Φ__law_any 2 2 m__law_any
theorem t__law_any (h__law_toss : FnM P w K mg base C 2 "_law_toss" 2 d__law_toss) : ∀ y n den, Φ__law_any y = some (n, den) → FnM P w K mg base C 2 y n den := by
  intro y n den h
  unfold Φ__law_any at h
  split at h
  · rename_i e
    cases h
    subst e
    exact h__law_toss.mono (by decide)
  cases h
theorem q__law_any__law_toss : Tab.of Φ__law_any 2 "_law_toss" = some d__law_toss := rfl
theorem s__law_any : fnScopeB ["_law_sack_here", "_law_things"] ["_law_sack_here", "_law_things"] (defScope (top 42)) = true := by kernel_rfl
theorem b__law_any {fd : FuncData} (F : FunD K "_law_any" "_law_any" (defArgs (top 42)) (defBody (top 42)) (defScope (top 42)) [] [] (He.ga K "_law_any") fd) : Binds K fd ["_law_sack_here", "_law_things"] [] := F.bindsN fun _ _ _ _ _ _ us hl => match us, hl with | [_, _], _ => rfl
theorem o__law_any (M : MOD P w K mg base C consts fns excs) (c : He.SaysD fa fn K) (hg : mg "_law_any" = some (.ref (He.ga K "_law_any"))) (h__law_toss : FnM P w K mg base C 2 "_law_toss" 2 d__law_toss) : FnM P w K mg base C 3 "_law_any" 2 d__law_any := by
  obtain ⟨fd, F⟩ := c.def_ 18 (d := dd "_law_any" "_law_any" 42) rfl
  exact def_ok (n := 30) M (by decide) (t__law_any h__law_toss) F s__law_any c__law_any (b__law_any F) rfl rfl hg
noncomputable def Φ__law_throw : Tab := fun y => if y = "_law_toss" then some (2, d__law_toss) else if y = "_law_any" then some (2, d__law_any) else none
noncomputable def d__law_throw : Den := denOf Φ__law_throw 2 2 m__law_throw
theorem t__law_throw (h__law_toss : FnM P w K mg base C 2 "_law_toss" 2 d__law_toss) (h__law_any : FnM P w K mg base C 3 "_law_any" 2 d__law_any) : ∀ y n den, Φ__law_throw y = some (n, den) → FnM P w K mg base C 3 y n den := by
  intro y n den h
  unfold Φ__law_throw at h
  split at h
  · rename_i e
    cases h
    subst e
    exact h__law_toss.mono (by decide)
  split at h
  · rename_i e
    cases h
    subst e
    exact h__law_any.mono (by decide)
  cases h
theorem q__law_throw__law_toss : Tab.of Φ__law_throw 2 "_law_toss" = some d__law_toss := rfl
theorem q__law_throw__law_any : Tab.of Φ__law_throw 2 "_law_any" = some d__law_any := rfl
theorem s__law_throw : fnScopeB ["_law_sack_here", "_law_hands"] ["_law_sack_here", "_law_hands"] (defScope (top 43)) = true := by kernel_rfl
theorem b__law_throw {fd : FuncData} (F : FunD K "_law_throw" "_law_throw" (defArgs (top 43)) (defBody (top 43)) (defScope (top 43)) [] [] (He.ga K "_law_throw") fd) : Binds K fd ["_law_sack_here", "_law_hands"] [] := F.bindsN fun _ _ _ _ _ _ us hl => match us, hl with | [_, _], _ => rfl
theorem o__law_throw (M : MOD P w K mg base C consts fns excs) (c : He.SaysD fa fn K) (hg : mg "_law_throw" = some (.ref (He.ga K "_law_throw"))) (h__law_toss : FnM P w K mg base C 2 "_law_toss" 2 d__law_toss) (h__law_any : FnM P w K mg base C 3 "_law_any" 2 d__law_any) : FnM P w K mg base C 4 "_law_throw" 2 d__law_throw := by
  obtain ⟨fd, F⟩ := c.def_ 19 (d := dd "_law_throw" "_law_throw" 43) rfl
  exact def_ok (n := 30) M (by decide) (t__law_throw h__law_toss h__law_any) F s__law_throw c__law_throw (b__law_throw F) rfl rfl hg
noncomputable def Φ__law_row : Tab := fun y => if y = "_law_throw" then some (2, d__law_throw) else none
noncomputable def d__law_row : Den := denOf Φ__law_row 3 5 m__law_row
theorem t__law_row (h__law_throw : FnM P w K mg base C 4 "_law_throw" 2 d__law_throw) : ∀ y n den, Φ__law_row y = some (n, den) → FnM P w K mg base C 4 y n den := by
  intro y n den h
  unfold Φ__law_row at h
  split at h
  · rename_i e
    cases h
    subst e
    exact h__law_throw.mono (by decide)
  cases h
theorem q__law_row__law_throw : Tab.of Φ__law_row 2 "_law_throw" = some d__law_throw := rfl
theorem s__law_row : fnScopeB ["_law_sack_here", "_law_hands", "_law_size", "_law_turn", "_law_hand"] ["_law_sack_here", "_law_hands", "_law_size"] (defScope (top 44)) = true := by kernel_rfl
theorem b__law_row {fd : FuncData} (F : FunD K "_law_row" "_law_row" (defArgs (top 44)) (defBody (top 44)) (defScope (top 44)) [] [] (He.ga K "_law_row") fd) : Binds K fd ["_law_sack_here", "_law_hands", "_law_size"] [] := F.bindsN fun _ _ _ _ _ _ us hl => match us, hl with | [_, _, _], _ => rfl
theorem o__law_row (M : MOD P w K mg base C consts fns excs) (c : He.SaysD fa fn K) (hg : mg "_law_row" = some (.ref (He.ga K "_law_row"))) (h__law_throw : FnM P w K mg base C 4 "_law_throw" 2 d__law_throw) : FnM P w K mg base C 5 "_law_row" 3 d__law_row := by
  obtain ⟨fd, F⟩ := c.def_ 20 (d := dd "_law_row" "_law_row" 44) rfl
  exact def_ok (n := 30) M (by decide) (t__law_row h__law_throw) F s__law_row c__law_row (b__law_row F) rfl rfl hg
noncomputable def Φ__law_even : Tab := fun y => if y = "_law_toss" then some (2, d__law_toss) else none
noncomputable def d__law_even : Den := denOf Φ__law_even 3 14 m__law_even
theorem t__law_even (h__law_toss : FnM P w K mg base C 2 "_law_toss" 2 d__law_toss) : ∀ y n den, Φ__law_even y = some (n, den) → FnM P w K mg base C 2 y n den := by
  intro y n den h
  unfold Φ__law_even at h
  split at h
  · rename_i e
    cases h
    subst e
    exact h__law_toss.mono (by decide)
  cases h
theorem q__law_even__law_toss : Tab.of Φ__law_even 2 "_law_toss" = some d__law_toss := rfl
theorem s__law_even : fnScopeB ["_law_sack_here", "_law_hands", "_law_size", "_law_goals", "_law_number", "_law_turn", "_law_found", "_law_one", "_law_other", "_law_first", "_law_second", "_law_when", "_law_hand", "_law_at"] ["_law_sack_here", "_law_hands", "_law_size"] (defScope (top 45)) = true := by kernel_rfl
theorem b__law_even {fd : FuncData} (F : FunD K "_law_even" "_law_even" (defArgs (top 45)) (defBody (top 45)) (defScope (top 45)) [] [] (He.ga K "_law_even") fd) : Binds K fd ["_law_sack_here", "_law_hands", "_law_size"] [] := F.bindsN fun _ _ _ _ _ _ us hl => match us, hl with | [_, _, _], _ => rfl
theorem o__law_even (M : MOD P w K mg base C consts fns excs) (c : He.SaysD fa fn K) (hg : mg "_law_even" = some (.ref (He.ga K "_law_even"))) (h__law_toss : FnM P w K mg base C 2 "_law_toss" 2 d__law_toss) : FnM P w K mg base C 3 "_law_even" 3 d__law_even := by
  obtain ⟨fd, F⟩ := c.def_ 21 (d := dd "_law_even" "_law_even" 45) rfl
  exact def_ok (n := 30) M (by decide) (t__law_even h__law_toss) F s__law_even c__law_even (b__law_even F) rfl rfl hg
noncomputable def Φ__law_drawn : Tab := fun y => if y = "_law_toss" then some (2, d__law_toss) else if y = "_law_even" then some (3, d__law_even) else if y = "_law_row" then some (3, d__law_row) else none
noncomputable def d__law_drawn : Den := denOf Φ__law_drawn 1 7 m__law_drawn
theorem t__law_drawn (h__law_toss : FnM P w K mg base C 2 "_law_toss" 2 d__law_toss) (h__law_even : FnM P w K mg base C 3 "_law_even" 3 d__law_even) (h__law_row : FnM P w K mg base C 5 "_law_row" 3 d__law_row) : ∀ y n den, Φ__law_drawn y = some (n, den) → FnM P w K mg base C 5 y n den := by
  intro y n den h
  unfold Φ__law_drawn at h
  split at h
  · rename_i e
    cases h
    subst e
    exact h__law_toss.mono (by decide)
  split at h
  · rename_i e
    cases h
    subst e
    exact h__law_even.mono (by decide)
  split at h
  · rename_i e
    cases h
    subst e
    exact h__law_row.mono (by decide)
  cases h
theorem q__law_drawn__law_toss : Tab.of Φ__law_drawn 2 "_law_toss" = some d__law_toss := rfl
theorem q__law_drawn__law_even : Tab.of Φ__law_drawn 3 "_law_even" = some d__law_even := rfl
theorem q__law_drawn__law_row : Tab.of Φ__law_drawn 3 "_law_row" = some d__law_row := rfl
theorem s__law_drawn : fnScopeB ["_law_sack_here", "_law_sizes_so", "_law_parts", "_law_spot", "_law_hands", "_law_way", "_law_size"] ["_law_sack_here"] (defScope (top 46)) = true := by kernel_rfl
theorem b__law_drawn {fd : FuncData} (F : FunD K "_law_drawn" "_law_drawn" (defArgs (top 46)) (defBody (top 46)) (defScope (top 46)) [] [] (He.ga K "_law_drawn") fd) : Binds K fd ["_law_sack_here"] [] := F.bindsN fun _ _ _ _ _ _ us hl => match us, hl with | [_], _ => rfl
theorem o__law_drawn (M : MOD P w K mg base C consts fns excs) (c : He.SaysD fa fn K) (hg : mg "_law_drawn" = some (.ref (He.ga K "_law_drawn"))) (h__law_toss : FnM P w K mg base C 2 "_law_toss" 2 d__law_toss) (h__law_even : FnM P w K mg base C 3 "_law_even" 3 d__law_even) (h__law_row : FnM P w K mg base C 5 "_law_row" 3 d__law_row) : FnM P w K mg base C 6 "_law_drawn" 1 d__law_drawn := by
  obtain ⟨fd, F⟩ := c.def_ 22 (d := dd "_law_drawn" "_law_drawn" 46) rfl
  exact def_ok (n := 30) M (by decide) (t__law_drawn h__law_toss h__law_even h__law_row) F s__law_drawn c__law_drawn (b__law_drawn F) rfl rfl hg
noncomputable def Φ__law_is_whole : Tab := fun y => none
noncomputable def d__law_is_whole : Den := denOf Φ__law_is_whole 3 3 m__law_is_whole
theorem t__law_is_whole : ∀ y n den, Φ__law_is_whole y = some (n, den) → FnM P w K mg base C 1 y n den := by
  intro y n den h
  unfold Φ__law_is_whole at h
  cases h
theorem s__law_is_whole : fnScopeB ["_law_thing", "_law_low", "_law_high"] ["_law_thing", "_law_low", "_law_high"] (defScope (top 47)) = true := by kernel_rfl
theorem b__law_is_whole {fd : FuncData} (F : FunD K "_law_is_whole" "_law_is_whole" (defArgs (top 47)) (defBody (top 47)) (defScope (top 47)) [] [] (He.ga K "_law_is_whole") fd) : Binds K fd ["_law_thing", "_law_low", "_law_high"] [] := F.bindsN fun _ _ _ _ _ _ us hl => match us, hl with | [_, _, _], _ => rfl
theorem o__law_is_whole (M : MOD P w K mg base C consts fns excs) (c : He.SaysD fa fn K) (hg : mg "_law_is_whole" = some (.ref (He.ga K "_law_is_whole"))) : FnM P w K mg base C 2 "_law_is_whole" 3 d__law_is_whole := by
  obtain ⟨fd, F⟩ := c.def_ 23 (d := dd "_law_is_whole" "_law_is_whole" 47) rfl
  exact def_ok (n := 30) M (by decide) (t__law_is_whole) F s__law_is_whole c__law_is_whole (b__law_is_whole F) rfl rfl hg
noncomputable def Φ__law_is_row : Tab := fun y => if y = "_law_is_whole" then some (3, d__law_is_whole) else none
noncomputable def d__law_is_row : Den := denOf Φ__law_is_row 2 3 m__law_is_row
theorem t__law_is_row (h__law_is_whole : FnM P w K mg base C 2 "_law_is_whole" 3 d__law_is_whole) : ∀ y n den, Φ__law_is_row y = some (n, den) → FnM P w K mg base C 2 y n den := by
  intro y n den h
  unfold Φ__law_is_row at h
  split at h
  · rename_i e
    cases h
    subst e
    exact h__law_is_whole.mono (by decide)
  cases h
theorem q__law_is_row__law_is_whole : Tab.of Φ__law_is_row 3 "_law_is_whole" = some d__law_is_whole := rfl
theorem s__law_is_row : fnScopeB ["_law_hands", "_law_thing", "_law_cell"] ["_law_hands", "_law_thing"] (defScope (top 48)) = true := by kernel_rfl
theorem b__law_is_row {fd : FuncData} (F : FunD K "_law_is_row" "_law_is_row" (defArgs (top 48)) (defBody (top 48)) (defScope (top 48)) [] [] (He.ga K "_law_is_row") fd) : Binds K fd ["_law_hands", "_law_thing"] [] := F.bindsN fun _ _ _ _ _ _ us hl => match us, hl with | [_, _], _ => rfl
theorem o__law_is_row (M : MOD P w K mg base C consts fns excs) (c : He.SaysD fa fn K) (hg : mg "_law_is_row" = some (.ref (He.ga K "_law_is_row"))) (h__law_is_whole : FnM P w K mg base C 2 "_law_is_whole" 3 d__law_is_whole) : FnM P w K mg base C 3 "_law_is_row" 2 d__law_is_row := by
  obtain ⟨fd, F⟩ := c.def_ 24 (d := dd "_law_is_row" "_law_is_row" 48) rfl
  exact def_ok (n := 30) M (by decide) (t__law_is_row h__law_is_whole) F s__law_is_row c__law_is_row (b__law_is_row F) rfl rfl hg
noncomputable def Φ__law_is_part : Tab := fun y => if y = "_law_is_row" then some (2, d__law_is_row) else none
noncomputable def d__law_is_part : Den := denOf Φ__law_is_part 3 4 m__law_is_part
theorem t__law_is_part (h__law_is_row : FnM P w K mg base C 3 "_law_is_row" 2 d__law_is_row) : ∀ y n den, Φ__law_is_part y = some (n, den) → FnM P w K mg base C 3 y n den := by
  intro y n den h
  unfold Φ__law_is_part at h
  split at h
  · rename_i e
    cases h
    subst e
    exact h__law_is_row.mono (by decide)
  cases h
theorem q__law_is_part__law_is_row : Tab.of Φ__law_is_part 2 "_law_is_row" = some d__law_is_row := rfl
theorem s__law_is_part : fnScopeB ["_law_hands", "_law_thing", "_law_low", "_law_row_here"] ["_law_hands", "_law_thing", "_law_low"] (defScope (top 49)) = true := by kernel_rfl
theorem b__law_is_part {fd : FuncData} (F : FunD K "_law_is_part" "_law_is_part" (defArgs (top 49)) (defBody (top 49)) (defScope (top 49)) [] [] (He.ga K "_law_is_part") fd) : Binds K fd ["_law_hands", "_law_thing", "_law_low"] [] := F.bindsN fun _ _ _ _ _ _ us hl => match us, hl with | [_, _, _], _ => rfl
theorem o__law_is_part (M : MOD P w K mg base C consts fns excs) (c : He.SaysD fa fn K) (hg : mg "_law_is_part" = some (.ref (He.ga K "_law_is_part"))) (h__law_is_row : FnM P w K mg base C 3 "_law_is_row" 2 d__law_is_row) : FnM P w K mg base C 4 "_law_is_part" 3 d__law_is_part := by
  obtain ⟨fd, F⟩ := c.def_ 25 (d := dd "_law_is_part" "_law_is_part" 49) rfl
  exact def_ok (n := 30) M (by decide) (t__law_is_part h__law_is_row) F s__law_is_part c__law_is_part (b__law_is_part F) rfl rfl hg
noncomputable def Φ__law_is_plan : Tab := fun y => if y = "_law_is_part" then some (3, d__law_is_part) else if y = "_law_is_whole" then some (3, d__law_is_whole) else none
noncomputable def d__law_is_plan : Den := denOf Φ__law_is_plan 1 1 m__law_is_plan
theorem t__law_is_plan (h__law_is_part : FnM P w K mg base C 4 "_law_is_part" 3 d__law_is_part) (h__law_is_whole : FnM P w K mg base C 2 "_law_is_whole" 3 d__law_is_whole) : ∀ y n den, Φ__law_is_plan y = some (n, den) → FnM P w K mg base C 4 y n den := by
  intro y n den h
  unfold Φ__law_is_plan at h
  split at h
  · rename_i e
    cases h
    subst e
    exact h__law_is_part.mono (by decide)
  split at h
  · rename_i e
    cases h
    subst e
    exact h__law_is_whole.mono (by decide)
  cases h
theorem q__law_is_plan__law_is_part : Tab.of Φ__law_is_plan 3 "_law_is_part" = some d__law_is_part := rfl
theorem q__law_is_plan__law_is_whole : Tab.of Φ__law_is_plan 3 "_law_is_whole" = some d__law_is_whole := rfl
theorem s__law_is_plan : fnScopeB ["_law_thing"] ["_law_thing"] (defScope (top 50)) = true := by kernel_rfl
theorem b__law_is_plan {fd : FuncData} (F : FunD K "_law_is_plan" "_law_is_plan" (defArgs (top 50)) (defBody (top 50)) (defScope (top 50)) [] [] (He.ga K "_law_is_plan") fd) : Binds K fd ["_law_thing"] [] := F.bindsN fun _ _ _ _ _ _ us hl => match us, hl with | [_], _ => rfl
theorem o__law_is_plan (M : MOD P w K mg base C consts fns excs) (c : He.SaysD fa fn K) (hg : mg "_law_is_plan" = some (.ref (He.ga K "_law_is_plan"))) (h__law_is_part : FnM P w K mg base C 4 "_law_is_part" 3 d__law_is_part) (h__law_is_whole : FnM P w K mg base C 2 "_law_is_whole" 3 d__law_is_whole) : FnM P w K mg base C 5 "_law_is_plan" 1 d__law_is_plan := by
  obtain ⟨fd, F⟩ := c.def_ 26 (d := dd "_law_is_plan" "_law_is_plan" 50) rfl
  exact def_ok (n := 30) M (by decide) (t__law_is_plan h__law_is_part h__law_is_whole) F s__law_is_plan c__law_is_plan (b__law_is_plan F) rfl rfl hg
noncomputable def Φ__law_lines : Tab := fun y => none
noncomputable def d__law_lines : Den := denOf Φ__law_lines 1 8 m__law_lines
theorem t__law_lines : ∀ y n den, Φ__law_lines y = some (n, den) → FnM P w K mg base C 1 y n den := by
  intro y n den h
  unfold Φ__law_lines at h
  cases h
theorem s__law_lines : fnScopeB ["_law_plan", "_law_found", "_law_label", "_law_part", "_law_line", "_law_row_here", "_law_cells", "_law_cell"] ["_law_plan"] (defScope (top 53)) = true := by kernel_rfl
theorem b__law_lines {fd : FuncData} (F : FunD K "_law_lines" "_law_lines" (defArgs (top 53)) (defBody (top 53)) (defScope (top 53)) [] [] (He.ga K "_law_lines") fd) : Binds K fd ["_law_plan"] [] := F.bindsN fun _ _ _ _ _ _ us hl => match us, hl with | [_], _ => rfl
theorem o__law_lines (M : MOD P w K mg base C consts fns excs) (c : He.SaysD fa fn K) (hg : mg "_law_lines" = some (.ref (He.ga K "_law_lines"))) : FnM P w K mg base C 2 "_law_lines" 1 d__law_lines := by
  obtain ⟨fd, F⟩ := c.def_ 29 (d := dd "_law_lines" "_law_lines" 53) rfl
  exact def_ok (n := 30) M (by decide) (t__law_lines) F s__law_lines c__law_lines (b__law_lines F) rfl rfl hg
noncomputable def Φ_law : Tab := fun y => if y = "_law_sack" then some (2, d__law_sack) else if y = "read_plan" then some (1, d_read_plan) else if y = "_law_drawn" then some (1, d__law_drawn) else if y = "plan_text" then some (1, d_plan_text) else if y = "_law_lines" then some (1, d__law_lines) else if y = "_law_is_plan" then some (1, d__law_is_plan) else none
noncomputable def d_law : Den := denOf Φ_law 1 10 m_law
theorem t_law (h__law_sack : FnM P w K mg base C 2 "_law_sack" 2 d__law_sack) (h_read_plan : FnM P w K mg base C 8 "read_plan" 1 d_read_plan) (h__law_drawn : FnM P w K mg base C 6 "_law_drawn" 1 d__law_drawn) (h_plan_text : FnM P w K mg base C 8 "plan_text" 1 d_plan_text) (h__law_lines : FnM P w K mg base C 2 "_law_lines" 1 d__law_lines) (h__law_is_plan : FnM P w K mg base C 5 "_law_is_plan" 1 d__law_is_plan) : ∀ y n den, Φ_law y = some (n, den) → FnM P w K mg base C 8 y n den := by
  intro y n den h
  unfold Φ_law at h
  split at h
  · rename_i e
    cases h
    subst e
    exact h__law_sack.mono (by decide)
  split at h
  · rename_i e
    cases h
    subst e
    exact h_read_plan.mono (by decide)
  split at h
  · rename_i e
    cases h
    subst e
    exact h__law_drawn.mono (by decide)
  split at h
  · rename_i e
    cases h
    subst e
    exact h_plan_text.mono (by decide)
  split at h
  · rename_i e
    cases h
    subst e
    exact h__law_lines.mono (by decide)
  split at h
  · rename_i e
    cases h
    subst e
    exact h__law_is_plan.mono (by decide)
  cases h
theorem q_law__law_sack : Tab.of Φ_law 2 "_law_sack" = some d__law_sack := rfl
theorem q_law_read_plan : Tab.of Φ_law 1 "read_plan" = some d_read_plan := rfl
theorem q_law__law_drawn : Tab.of Φ_law 1 "_law_drawn" = some d__law_drawn := rfl
theorem q_law_plan_text : Tab.of Φ_law 1 "plan_text" = some d_plan_text := rfl
theorem q_law__law_lines : Tab.of Φ_law 1 "_law_lines" = some d__law_lines := rfl
theorem q_law__law_is_plan : Tab.of Φ_law 1 "_law_is_plan" = some d__law_is_plan := rfl
theorem s_law : fnScopeB ["_law_script", "_law_k", "_law_due", "_law_both", "_law_sack_here", "_law_turn", "_law_bad", "_law_plan", "_law_string", "_law_found"] ["_law_script"] (defScope (top 54)) = true := by kernel_rfl
theorem b_law {fd : FuncData} (F : FunD K "law" "law" (defArgs (top 54)) (defBody (top 54)) (defScope (top 54)) [] [] (He.ga K "law") fd) : Binds K fd ["_law_script"] [] := F.bindsN fun _ _ _ _ _ _ us hl => match us, hl with | [_], _ => rfl
theorem o_law (M : MOD P w K mg base C consts fns excs) (kd : KD K mg) (cf : CF K mg) (hZ : ∀ p ∈ C.Z, ∀ ps, p.2 ≠ HO.tbl ps) {fd : FuncData} (F : FunD K "law" "law" (defArgs (top 54)) (defBody (top 54)) (defScope (top 54)) [] [] (He.ga K "law") fd) {cc Pt : Addr} (hcd : He.codeOf K ("law", none) = cc) (TB : LamX.TabB base mg cc Pt) (hmT : (Pt, lamQ "law" (defScope (top 54))) ∈ C.T) (hu : ∀ p ∈ C.T, p.1 = Pt → p.2 = lamQ "law" (defScope (top 54))) (h__law_sack : FnM P w K mg base C 2 "_law_sack" 2 d__law_sack) (h_read_plan : FnM P w K mg base C 8 "read_plan" 1 d_read_plan) (h__law_drawn : FnM P w K mg base C 6 "_law_drawn" 1 d__law_drawn) (h_plan_text : FnM P w K mg base C 8 "plan_text" 1 d_plan_text) (h__law_lines : FnM P w K mg base C 2 "_law_lines" 1 d__law_lines) (h__law_is_plan : FnM P w K mg base C 5 "_law_is_plan" 1 d__law_is_plan) : FnOk P w K mg base (L2N.CX P w) 11 (He.ga K "law") fd ["_law_script"] (LSp C 1 d_law) :=
  def_okT (n := 30) (k := 7) M kd cf hZ (t_law h__law_sack h_read_plan h__law_drawn h_plan_text h__law_lines h__law_is_plan) hcd TB hmT hu F s_law c_law rfl rfl
end
theorem kd_of {K : PySem.W.Frag} {mg : Str → Option Value} {h : Heap} (X : K.In h) (G : h.Ns mainGlobals mg) (c : He.SaysD fa fn K) (hx : kfB K = true) : KD K mg := by
  obtain ⟨fd, F⟩ := c.def_ 27 (d := dd "_law_kinds" "_law_kinds" 51) rfl
  exact ⟨⟨_, _, _, fd, 30, F, s__law_kinds, c__law_kinds, F.bindsN fun _ _ _ _ _ _ us hl => match us, hl with | [_], _ => rfl⟩, He.glo_ok X G (c.facts (gm (by decide +kernel))), fun x hx => He.free_ok X G (c.facts (fm (List.mem_append_left _ hx))), kf_of X G hx (fun c' hc => c.facts (gm (by
    revert c'
    decide +kernel))) (c.facts (gm (by decide +kernel))) (c.facts (fm (by decide +kernel)))⟩
theorem cf_of {K : PySem.W.Frag} {mg : Str → Option Value} {h : Heap} (X : K.In h) (G : h.Ns mainGlobals mg) (c : He.SaysD fa fn K) : CF K mg := by
  obtain ⟨fd, F⟩ := c.def_ 28 (d := dd "_law_call" "_law_call" 52) rfl
  exact ⟨⟨_, _, _, fd, F, c__law_call, s__law_call, F.bindsN fun _ _ _ _ _ _ us hl => match us, hl with | [_], _ => rfl⟩, He.glo_ok X G (c.facts (gm (by decide +kernel)))⟩
theorem modOf {P : Program} {w : World} {K : PySem.W.Frag} {mg : Str → Option Value} {base h : Heap} {C : DV.Ctx} (X : K.In h) (G : h.Ns mainGlobals mg) (c : He.SaysD fa fn K) (hk : C.K = K) (hx : constsB consts K = true) : MOD P w K mg base C consts fns excs :=
  mod_of X G hk hx (fun x hx => c.facts (gm (by
    revert x
    decide +kernel))) (fun x hx => c.facts (fm (List.mem_append_left _ hx))) fun x hx => ⟨c.facts (gm (by
    revert x
    decide +kernel)), c.facts (xm hx)⟩
/-- the law, whatever its den tells -/
theorem atLaw {w : World} {K : PySem.W.Frag} {mg : Str → Option Value} {f : Addr} {h : Heap} (X : K.In h) (G : h.Ns mainGlobals mg) (hf : mg "law" = some (.ref f)) (s : He.SaysX fa fn [] tf ex w h K)
    (hden : ∀ (ns : List Int), ns.length ≤ 63 → (∀ z ∈ ns, Builtin.Int.intBits z ≤ 1048576) → ∀ (d : D) (S : Sto), (d = .lstc (ns.map .int) ∧ S = []) ∨ (d = .ref 0 ∧ S = [.lst (ns.map .int)]) → ∃ S', d_law [d] S = .ok (.bl true) S') :
    LamX.LawAtS PySem.Challenge.rw_anyballs_k12_whole_texts_of_plans w K (L2N.CX (PySem.Challenge.rw_anyballs_k12_whole_texts_of_plans).prog w) 11 63 "_law_script" mg f h := by
  have c : He.SaysD fa fn K := s.t.d
  have hx := s.more
  unfold ex at hx
  rw [Bool.and_eq_true] at hx
  have kd := kd_of X G c hx.2
  have cf := cf_of X G c
  obtain ⟨fd, F⟩ := c.def_ 30 (d := dd "law" "law" 54) rfl
  have ef : f = He.ga K "law" := by
    have e := hf.symm.trans (He.glo_ok X G (c.facts (f := .glo "law") (gm (by decide +kernel))))
    injection e with e
    injection e
  subst ef
  have hin : (Str.ofString "law", none) ∈ tf := by decide
  refine ⟨fd, [He.cT K ("law", none)], spLaw K [((He.cT K ("law", none)).2, lamQ "law" (defScope (top 54)))] d_law, ?_, ?_, ?_, fun s v => ?_, fun H a ns hl hb hT hS => sp_law (fun p hp => ?_) hS (hden ns hl hb), fun base hK hG TB => ?_⟩
  · intro p hp
    rw [List.mem_singleton.mp hp]
    exact s.empty _ hin
  · intro p hp
    rw [List.mem_singleton.mp hp]
    exact s.out _ hin
  · intro p hp
    rw [List.mem_singleton.mp hp]
    exact PySem.W.codeHd_of_K X (s.hd _ hin)
  · exact FunD.bindsA (ps := ["_law_script"]) F (fun _ _ _ _ _ _ us hl => match us, hl with | [_], _ => rfl) s [v] rfl
  · rw [List.mem_singleton.mp hp]
    exact hT _ (List.mem_singleton.mpr rfl)
  · refine law_fn rfl fun Z hZ => ?_
    have M : MOD (PySem.Challenge.rw_anyballs_k12_whole_texts_of_plans).prog w K mg base ⟨K, [((He.cT K ("law", none)).2, lamQ "law" (defScope (top 54)))], Z, []⟩ consts fns excs := modOf X G c rfl hx.1
    have h_is_int := o_is_int (base := base) M c (M.fns "is_int" (by decide))
    have h_is_throw := o_is_throw (base := base) M c (M.fns "is_throw" (by decide)) h_is_int
    have h_is_beat := o_is_beat (base := base) M c (M.fns "is_beat" (by decide)) h_is_throw
    have h_is_part := o_is_part (base := base) M c (M.fns "is_part" (by decide)) h_is_beat
    have h_is_plan := o_is_plan (base := base) M c (M.fns "is_plan" (by decide)) h_is_part h_is_int
    have h_need_plan := o_need_plan (base := base) M c (M.fns "need_plan" (by decide)) h_is_plan
    have h_cell_text := o_cell_text (base := base) M c (M.fns "cell_text" (by decide))
    have h_beat_text := o_beat_text (base := base) M c (M.fns "beat_text" (by decide)) h_cell_text
    have h_text_of := o_text_of (base := base) M c (M.fns "text_of" (by decide)) h_beat_text
    have h_number_in := o_number_in (base := base) M c (M.fns "number_in" (by decide))
    have h_cell_in := o_cell_in (base := base) M c (M.fns "cell_in" (by decide)) h_number_in
    have h_beat_in := o_beat_in (base := base) M c (M.fns "beat_in" (by decide)) h_cell_in
    have h_line_in := o_line_in (base := base) M c (M.fns "line_in" (by decide)) h_beat_in h_is_beat
    have h_read_so := o_read_so (base := base) M c (M.fns "read_so" (by decide)) h_line_in h_is_plan
    have h_plan_text := o_plan_text (base := base) M c (M.fns "plan_text" (by decide)) h_need_plan h_text_of
    have h_read_plan := o_read_plan (base := base) M c (M.fns "read_plan" (by decide)) h_read_so
    have h__law_sack := o__law_sack (base := base) M c (M.fns "_law_sack" (by decide))
    have h__law_toss := o__law_toss (base := base) M c (M.fns "_law_toss" (by decide))
    have h__law_any := o__law_any (base := base) M c (M.fns "_law_any" (by decide)) h__law_toss
    have h__law_throw := o__law_throw (base := base) M c (M.fns "_law_throw" (by decide)) h__law_toss h__law_any
    have h__law_row := o__law_row (base := base) M c (M.fns "_law_row" (by decide)) h__law_throw
    have h__law_even := o__law_even (base := base) M c (M.fns "_law_even" (by decide)) h__law_toss
    have h__law_drawn := o__law_drawn (base := base) M c (M.fns "_law_drawn" (by decide)) h__law_toss h__law_even h__law_row
    have h__law_is_whole := o__law_is_whole (base := base) M c (M.fns "_law_is_whole" (by decide))
    have h__law_is_row := o__law_is_row (base := base) M c (M.fns "_law_is_row" (by decide)) h__law_is_whole
    have h__law_is_part := o__law_is_part (base := base) M c (M.fns "_law_is_part" (by decide)) h__law_is_row
    have h__law_is_plan := o__law_is_plan (base := base) M c (M.fns "_law_is_plan" (by decide)) h__law_is_part h__law_is_whole
    have h__law_lines := o__law_lines (base := base) M c (M.fns "_law_lines" (by decide))
    exact o_law M kd cf hZ F rfl (TB _ (List.mem_singleton.mpr rfl)) (List.mem_singleton.mpr rfl) (fun p hp _ => by rw [List.mem_singleton.mp hp]) h__law_sack h_read_plan h__law_drawn h_plan_text h__law_lines h__law_is_plan
end T
open PySem PySem.W PySem.Calls PyProof.Rows
theorem T.holds (hden : ∀ (ns : List Int), ns.length ≤ 63 → (∀ z ∈ ns, Builtin.Int.intBits z ≤ 1048576) → ∀ (d : DV.D) (S : DV.Sto), (d = .lstc (ns.map .int) ∧ S = []) ∨ (d = .ref 0 ∧ S = [.lst (ns.map .int)]) → ∃ S', T.d_law [d] S = .ok (.bl true) S') : PySem.Challenge.rw_anyballs_k12_whole_texts_of_plans.Holds := by
  w_on; o_law
  refine HandSHeadRun.head_any (r := OpenLaw.row PySem.Challenge.rw_anyballs_k12_whole_texts_of_plans) (q := view (OpenLaw.row PySem.Challenge.rw_anyballs_k12_whole_texts_of_plans).prog [54]) (H := T.hk) (ob := T.ob) (M := 15000) (loose := T.loose) (d := HandSHeadRun.topDef (OpenLaw.row PySem.Challenge.rw_anyballs_k12_whole_texts_of_plans).prog 54) (kwd := []) T.ob_eq
    (by kernel_rfl) (fun s => by kernel_rfl) T.run (by kernel_rfl) (by kernel_rfl) (by kernel_rfl) (by rfl) (by first | assumption | decide +kernel) (by decide +kernel) ⟨rfl, rfl, rfl, rfl, rfl, by decide +kernel⟩ ?hw ?hc
  case hw => w_witness2
  case hc =>
    refine LamX.walk_ofTsE (l := PySem.Challenge.rw_anyballs_k12_whole_texts_of_plans) (n := 63) (k := 11) (x := "_law_script") (CX := fun w => L2N.CX (PySem.Challenge.rw_anyballs_k12_whole_texts_of_plans).prog w) rfl (by decide) (by kernel_rfl) ⟨rfl, by decide, by decide⟩ ?F ?X
    · intro w mg fa h Y G hmg0
      obtain ⟨K, KX, c⟩ := Y
      have hmg : mg ("law" : PySem.Str) = some (.ref fa) := by
        have e : (HandSHeadRun.topDef (OpenLaw.row PySem.Challenge.rw_anyballs_k12_whole_texts_of_plans).prog 54).name = ("law" : PySem.Str) := by kernel_rfl
        rw [← e]
        exact hmg0
      exact ⟨K, KX, T.atLaw KX G hmg c hden⟩
    · intro w H s e s' hq
      obtain ⟨_, _, _, _, _, _, _, _, _, _, _, _, z⟩ := hq
      exact z

end
section
set_option Elab.async false
set_option linter.all false
set_option maxRecDepth 100000
set_option maxHeartbeats 4000000
set_option autoImplicit false
/-! Plain laws, part B: what is drawn. -/
namespace T
open PySem DV
def Sack (S : Sto) (n : Nat) : Prop := ∃ a b : Int, S[n]? = some (.lst [.int a, .int b]) ∧ 0 ≤ a ∧ 0 ≤ b ∧ b ≤ 2147482937
structure Tos (n : Nat) (S S' : Sto) : Prop where
  len : S.length ≤ S'.length
  keep : ∀ i, i < S.length → i ≠ n → S'[i]? = S[i]?
  sack : Sack S' n
theorem Tos.trans {n : Nat} {S S1 S2 : Sto} (a : Tos n S S1) (b : Tos n S1 S2) : Tos n S S2 :=
  ⟨Nat.le_trans a.len b.len, fun i hi hn => (b.keep i (Nat.lt_of_lt_of_le hi a.len) hn).trans (a.keep i hi hn), b.sack⟩
theorem Tos.refl {n : Nat} {S : Sto} (h : Sack S n) : Tos n S S := ⟨Nat.le_refl _, fun _ _ _ => rfl, h⟩
theorem Sack.lt {n : Nat} {S : Sto} (h : Sack S n) : n < S.length := by
  obtain ⟨a, b, h, _⟩ := h
  exact (List.getElem?_eq_some_iff.mp h).1
theorem Sack.set {n : Nat} {S : Sto} {a b : Int} (hn : n < S.length) (ha : 0 ≤ a) (hb : 0 ≤ b) (hb2 : b ≤ 2147482937) : Tos n S (S.set n (.lst [.int a, .int b])) :=
  ⟨by simp, fun i _ hi => List.getElem?_set_ne (Ne.symm hi), ⟨a, b, by rw [List.getElem?_set_self hn], ha, hb, hb2⟩⟩
/-- lists that are new are left behind -/
theorem Tos.more {n : Nat} {S : Sto} {o : LO} (h : Sack S n) : Tos n S (S ++ [o]) := by
  have hl := h.lt
  obtain ⟨a, b, h1, h2⟩ := h
  exact ⟨by simp, fun i hi _ => List.getElem?_append_left hi, a, b, by rw [List.getElem?_append_left hl]; exact h1, h2⟩
theorem log2_lt {i : Int} {k : Nat} (h : i.natAbs < 2 ^ k) : i.natAbs.log2 < k + 1 := by
  rcases Nat.eq_zero_or_pos i.natAbs with z | z
  · rw [z]
    simp
  · have := (Nat.log2_lt (by omega)).mpr h
    omega
theorem log2_lt' {i : Int} {k : Nat} (h0 : 0 ≤ i) (h : i < 2 ^ k) : i.natAbs.log2 < k + 1 := log2_lt (by
  have : ((i.natAbs : Nat) : Int) < ((2 ^ k : Nat) : Int) := by
    rw [Int.natAbs_of_nonneg h0]
    push_cast
    exact h
  exact Int.ofNat_lt.mp this)
theorem toss {n : Nat} {S : Sto} {m : Int} (h : Sack S n) (h1 : 1 ≤ m) (h2 : m < 2 ^ 200) : wpR (d__law_toss [.ref n, .int m] S) (fun v S2 => ∃ r : Int, v = .int r ∧ 0 ≤ r ∧ r < m ∧ Tos n S S2) noX := by
  have hl := h.lt
  obtain ⟨a, b, hS, ha, hb, hb2⟩ := h
  unfold d__law_toss
  refine den_wp rfl ?_
  unfold m__law_toss
  simp only [w_var, w_con, w_bin, w_neg, w_not, w_and, w_or, w_ite, w_cmp, w_chain, w_isN, w_tup, w_lst, w_idx, wO_none, wO_some, w_slc, w_blt, w_nilE, w_consE, wTy_some, w_isi, wApp_ref, w_app, wStr_str, w_mt1, w_told, w_calls, wCall_some, MEs.len, d_lenC, d_lenT, w_nil, w_cons, w_asg, w_sub, w_par, w_expr, w_ret, w_if, w_raise, w_pass, w_brk, w_cont, wVar_some, wBl_bl, wIt_int, wK_nx, wK_rt, wK_bk, wK_ct, wTg_some, wRt_rt, wRt_nx, wNx_nx, wNx_ct, BK.f, CK.f, FK.f, MK.f, d_addI, d_subI, d_mulI, d_fdivI, d_modI, d_powI, d_addT, d_addS, d_eqI, d_neI, d_ltI, d_leI, d_gtI, d_geI, d_negI, d_int, d_absI, d_idxT, d_idxC, wIx_0, wIx_1, wIx_2, wIx_3, setTg_nm, setTg_tp, setTgs_nil, setTgs_nm, setTgs_tp, Option.bind_some, List.map_cons, List.map_nil, List.cons_append, List.nil_append, List.getElem?_cons_zero, List.getElem?_cons_succ, List.set_cons_zero, List.set_cons_succ, List.replicate_succ, List.replicate_zero, Nat.reduceSub, Nat.reduceAdd, if_true, if_false, Bool.false_eq_true, List.length_cons, List.length_nil, decide_eq_true_eq, Nat.reduceLeDiff, true_and, d_idxR hS, d_set0 hS]
  have hm2 : m.natAbs.log2 < 201 := log2_lt' (by omega) h2
  split
  · rename_i hp
    refine ⟨by omega, ⟨by omega, by omega⟩, _, rfl, Int.emod_nonneg _ (by omega), Int.emod_lt_of_pos _ (by omega), Sack.set hl (Int.ediv_nonneg ha (by omega)) hb hb2⟩
  · simp only [evS]
    refine svWh_inv (fun k σ S' => ∃ (f wd : Int), σ = [some (.ref n), some (.int m), some (.int f), some (.int wd)] ∧ 0 ≤ f ∧ f < wd ∧ wd ≤ 8192 * (m + 1) ∧ (k : Int) = 8192 * (m + 1) + 1 - wd ∧ Tos n S S') (fun k σ S' hI => ?_) (8192 * (m + 1)).toNat _ S ⟨0, 1, rfl, by omega, by omega, by omega, by omega, Tos.refl ⟨a, b, hS, ha, hb, hb2⟩⟩
    obtain ⟨f, wd, rfl, hf0, hf1, hw, hk, ht⟩ := hI
    obtain ⟨a', b', hS', ha', hb', hb2'⟩ := ht.sack
    have hl' : n < S'.length := (List.getElem?_eq_some_iff.mp hS').1
    have goOn : (wd < m ∨ wd = 1) → wpR (evSs Φ__law_toss [.sub (.var 0) (.con (.int 1)) (.bin .mod (.blt .int (.cons (.bin .add (.bin .mul (.idx (.var 0) (.con (.int 1))) (.con (.int 20011))) (.con (.int 103))) .nil)) (.con (.int 2147482937))),
  .asg (.nm 2) (.bin .add (.bin .mul (.var 2) (.con (.int 8192))) (.bin .mod (.blt .int (.cons (.bin .fdiv (.idx (.var 0) (.con (.int 1))) (.con (.int 65671))) .nil)) (.con (.int 8192)))),
  .asg (.nm 3) (.bin .mul (.var 3) (.con (.int 8192)))] [some (.ref n), some (.int m), some (.int f), some (.int wd)] S') (wNx fun σ2 S2 => ∃ j, j < k ∧ ∃ (f wd : Int), σ2 = [some (.ref n), some (.int m), some (.int f), some (.int wd)] ∧ 0 ≤ f ∧ f < wd ∧ wd ≤ 8192 * (m + 1) ∧ (j : Int) = 8192 * (m + 1) + 1 - wd ∧ Tos n S S2) noX := by
      intro hc
      have hS2 : ∀ o, (S'.set n o)[n]? = some o := fun o => List.getElem?_set_self hl'
      simp only [w_var, w_con, w_bin, w_neg, w_not, w_and, w_or, w_ite, w_cmp, w_chain, w_isN, w_tup, w_lst, w_idx, wO_none, wO_some, w_slc, w_blt, w_nilE, w_consE, wTy_some, w_isi, wApp_ref, w_app, wStr_str, w_mt1, w_told, w_calls, wCall_some, MEs.len, d_lenC, d_lenT, w_nil, w_cons, w_asg, w_sub, w_par, w_expr, w_ret, w_if, w_raise, w_pass, w_brk, w_cont, wVar_some, wBl_bl, wIt_int, wK_nx, wK_rt, wK_bk, wK_ct, wTg_some, wRt_rt, wRt_nx, wNx_nx, wNx_ct, BK.f, CK.f, FK.f, MK.f, d_addI, d_subI, d_mulI, d_fdivI, d_modI, d_powI, d_addT, d_addS, d_eqI, d_neI, d_ltI, d_leI, d_gtI, d_geI, d_negI, d_int, d_absI, d_idxT, d_idxC, wIx_0, wIx_1, wIx_2, wIx_3, setTg_nm, setTg_tp, setTgs_nil, setTgs_nm, setTgs_tp, Option.bind_some, List.map_cons, List.map_nil, List.cons_append, List.nil_append, List.getElem?_cons_zero, List.getElem?_cons_succ, List.set_cons_zero, List.set_cons_succ, List.replicate_succ, List.replicate_zero, Nat.reduceSub, Nat.reduceAdd, if_true, if_false, Bool.false_eq_true, List.length_cons, List.length_nil, decide_eq_true_eq, Nat.reduceLeDiff, true_and, d_idxR hS', d_set1 hS', d_idxR (hS2 _)]
      have l1 : b'.natAbs.log2 < 33 := log2_lt' hb' (by omega)
      have l2 : f.natAbs.log2 < 215 := log2_lt' hf0 (by
        have : (8192 : Int) * (m + 1) ≤ 8192 * 2 ^ 200 := by omega
        have e : (8192 : Int) * 2 ^ 200 < 2 ^ 214 := by decide
        omega)
      have l3 : wd.natAbs.log2 < 215 := log2_lt' (by omega) (by
        have : (8192 : Int) * (m + 1) ≤ 8192 * 2 ^ 200 := by omega
        have e : (8192 : Int) * 2 ^ 200 < 2 ^ 214 := by decide
        omega)
      have c1 : ((20011 : Int)).natAbs.log2 < 20 := by decide
      have c2 : ((8192 : Int)).natAbs.log2 < 20 := by decide
      have c3 : ((65671 : Int)).natAbs.log2 < 20 := by decide
      have m1 := Int.emod_nonneg ((b' * 20011 + 103) % 2147482937 / 65671) (show (8192 : Int) ≠ 0 by decide)
      have m2 := Int.emod_lt_of_pos ((b' * 20011 + 103) % 2147482937 / 65671) (show (0 : Int) < 8192 by decide)
      have m3 := Int.emod_nonneg (b' * 20011 + 103) (show (2147482937 : Int) ≠ 0 by decide)
      have m4 := Int.emod_lt_of_pos (b' * 20011 + 103) (show (0 : Int) < 2147482937 by decide)
      refine ⟨by omega, by decide, by omega, ⟨by decide, by omega⟩, by decide, by omega, (8192 * (m + 1) + 1 - wd * 8192).toNat, by omega, _, _, rfl, by omega, by omega, by omega, by omega, ht.trans (Sack.set hl' ha' m3 (by omega))⟩
    simp only [w_var, w_con, w_bin, w_neg, w_not, w_and, w_or, w_ite, w_cmp, w_chain, w_isN, w_tup, w_lst, w_idx, wO_none, wO_some, w_slc, w_blt, w_nilE, w_consE, wTy_some, w_isi, wApp_ref, w_app, wStr_str, w_mt1, w_told, w_calls, wCall_some, MEs.len, d_lenC, d_lenT, wVar_some, wBl_bl, wIt_int, wK_nx, wK_rt, wK_bk, wK_ct, wTg_some, wRt_rt, wRt_nx, wNx_nx, wNx_ct, BK.f, CK.f, FK.f, MK.f, d_addI, d_subI, d_mulI, d_fdivI, d_modI, d_powI, d_addT, d_addS, d_eqI, d_neI, d_ltI, d_leI, d_gtI, d_geI, d_negI, d_int, d_absI, d_idxT, d_idxC, wIx_0, wIx_1, wIx_2, wIx_3, setTg_nm, setTg_tp, setTgs_nil, setTgs_nm, setTgs_tp, Option.bind_some, List.map_cons, List.map_nil, List.cons_append, List.nil_append, List.getElem?_cons_zero, List.getElem?_cons_succ, List.set_cons_zero, List.set_cons_succ, List.replicate_succ, List.replicate_zero, Nat.reduceSub, Nat.reduceAdd, if_true, if_false, Bool.false_eq_true, List.length_cons, List.length_nil, decide_eq_true_eq, Nat.reduceLeDiff, true_and]
    split
    · rename_i h1
      exact ⟨fun z => (by cases z), fun _ => goOn (.inl h1)⟩
    · rename_i h1
      refine ⟨fun hz => ?_, fun hz => goOn (.inr hz)⟩
      simp only [w_var, w_con, w_bin, w_neg, w_not, w_and, w_or, w_ite, w_cmp, w_chain, w_isN, w_tup, w_lst, w_idx, wO_none, wO_some, w_slc, w_blt, w_nilE, w_consE, wTy_some, w_isi, wApp_ref, w_app, wStr_str, w_mt1, w_told, w_calls, wCall_some, MEs.len, d_lenC, d_lenT, w_nil, w_cons, w_asg, w_sub, w_par, w_expr, w_ret, w_if, w_raise, w_pass, w_brk, w_cont, wVar_some, wBl_bl, wIt_int, wK_nx, wK_rt, wK_bk, wK_ct, wTg_some, wRt_rt, wRt_nx, wNx_nx, wNx_ct, BK.f, CK.f, FK.f, MK.f, d_addI, d_subI, d_mulI, d_fdivI, d_modI, d_powI, d_addT, d_addS, d_eqI, d_neI, d_ltI, d_leI, d_gtI, d_geI, d_negI, d_int, d_absI, d_idxT, d_idxC, wIx_0, wIx_1, wIx_2, wIx_3, setTg_nm, setTg_tp, setTgs_nil, setTgs_nm, setTgs_tp, Option.bind_some, List.map_cons, List.map_nil, List.cons_append, List.nil_append, List.getElem?_cons_zero, List.getElem?_cons_succ, List.set_cons_zero, List.set_cons_succ, List.replicate_succ, List.replicate_zero, Nat.reduceSub, Nat.reduceAdd, if_true, if_false, Bool.false_eq_true, List.length_cons, List.length_nil, decide_eq_true_eq, Nat.reduceLeDiff, true_and]
      exact ⟨by omega, _, rfl, Int.emod_nonneg _ (by omega), Int.emod_lt_of_pos _ (by omega), ht⟩
theorem any_ {n m : Nat} {S : Sto} {xs : List D} (h : Sack S n) (hm : S[m]? = some (.lst xs)) (hmn : m ≠ n) (h1 : xs ≠ []) (h2 : xs.length < 1000) : wpR (d__law_any [.ref n, .ref m] S) (fun v S2 => v ∈ xs ∧ Tos n S S2) noX := by
  unfold d__law_any
  refine den_wp rfl ?_
  unfold m__law_any
  simp only [w_var, w_con, w_bin, w_neg, w_not, w_and, w_or, w_ite, w_cmp, w_chain, w_isN, w_tup, w_lst, w_idx, wO_none, wO_some, w_slc, w_blt, w_nilE, w_consE, wTy_some, w_isi, wApp_ref, w_app, wStr_str, w_mt1, w_told, w_calls, wCall_some, MEs.len, d_lenC, d_lenT, w_nil, w_cons, w_asg, w_sub, w_par, w_expr, w_ret, w_if, w_raise, w_pass, w_brk, w_cont, wVar_some, wBl_bl, wIt_int, wK_nx, wK_rt, wK_bk, wK_ct, wTg_some, wRt_rt, wRt_nx, wNx_nx, wNx_ct, BK.f, CK.f, FK.f, MK.f, d_addI, d_subI, d_mulI, d_fdivI, d_modI, d_powI, d_addT, d_addS, d_eqI, d_neI, d_ltI, d_leI, d_gtI, d_geI, d_negI, d_int, d_absI, d_idxT, d_idxC, wIx_0, wIx_1, wIx_2, wIx_3, setTg_nm, setTg_tp, setTgs_nil, setTgs_nm, setTgs_tp, Option.bind_some, List.map_cons, List.map_nil, List.cons_append, List.nil_append, List.getElem?_cons_zero, List.getElem?_cons_succ, List.set_cons_zero, List.set_cons_succ, List.replicate_succ, List.replicate_zero, Nat.reduceSub, Nat.reduceAdd, if_true, if_false, Bool.false_eq_true, List.length_cons, List.length_nil, decide_eq_true_eq, Nat.reduceLeDiff, true_and, q__law_any__law_toss, d_lenR hm]
  have hpos : 0 < xs.length := List.length_pos_iff.mpr h1
  refine (toss h (by omega) (by
    have e : (1000 : Int) < 2 ^ 200 := by decide
    omega)).mono fun v S2 hv => ?_
  obtain ⟨r, rfl, h3, h4, ht⟩ := hv
  rw [d_idxR (by rw [ht.keep m (List.getElem?_eq_some_iff.mp hm).1 hmn]; exact hm)]
  exact wIx_mem h3 h4 fun x hx _ => ⟨hx, ht⟩
/-- a throw of so many hands, or an empty hand -/
def Cell (h : Int) (d : D) : Prop := d = .non ∨ ∃ (i : Int) (b : Bool), d = .tup [.int i, .bl b] ∧ -3 ≤ i ∧ i ≤ 6 ∧ (h = 1 → b = false)
theorem throw_ {n : Nat} {S : Sto} {hn : Int} (h : Sack S n) (hh : hn = 1 ∨ hn = 2) : wpR (d__law_throw [.ref n, .int hn] S) (fun v S2 => Cell hn v ∧ Tos n S S2) noX := by
  unfold d__law_throw
  refine den_wp rfl ?_
  unfold m__law_throw
  simp only [w_var, w_con, w_bin, w_neg, w_not, w_and, w_or, w_ite, w_cmp, w_chain, w_isN, w_tup, w_lst, w_idx, wO_none, wO_some, w_slc, w_blt, w_nilE, w_consE, wTy_some, w_isi, wApp_ref, w_app, wStr_str, w_mt1, w_told, w_calls, wCall_some, MEs.len, d_lenC, d_lenT, w_nil, w_cons, w_asg, w_sub, w_par, w_expr, w_ret, w_if, w_raise, w_pass, w_brk, w_cont, wVar_some, wBl_bl, wIt_int, wK_nx, wK_rt, wK_bk, wK_ct, wTg_some, wRt_rt, wRt_nx, wNx_nx, wNx_ct, BK.f, CK.f, FK.f, MK.f, d_addI, d_subI, d_mulI, d_fdivI, d_modI, d_powI, d_addT, d_addS, d_eqI, d_neI, d_ltI, d_leI, d_gtI, d_geI, d_negI, d_int, d_absI, d_idxT, d_idxC, wIx_0, wIx_1, wIx_2, wIx_3, setTg_nm, setTg_tp, setTgs_nil, setTgs_nm, setTgs_tp, Option.bind_some, List.map_cons, List.map_nil, List.cons_append, List.nil_append, List.getElem?_cons_zero, List.getElem?_cons_succ, List.set_cons_zero, List.set_cons_succ, List.replicate_succ, List.replicate_zero, Nat.reduceSub, Nat.reduceAdd, if_true, if_false, Bool.false_eq_true, List.length_cons, List.length_nil, decide_eq_true_eq, Nat.reduceLeDiff, true_and, q__law_throw__law_toss, q__law_throw__law_any]
  refine (toss h (by decide) (by decide)).mono fun v S2 hv => ?_
  obtain ⟨r, rfl, h3, h4, ht⟩ := hv
  simp only [w_var, w_con, w_bin, w_neg, w_not, w_and, w_or, w_ite, w_cmp, w_chain, w_isN, w_tup, w_lst, w_idx, wO_none, wO_some, w_slc, w_blt, w_nilE, w_consE, wTy_some, w_isi, wApp_ref, w_app, wStr_str, w_mt1, w_told, w_calls, wCall_some, MEs.len, d_lenC, d_lenT, w_nil, w_cons, w_asg, w_sub, w_par, w_expr, w_ret, w_if, w_raise, w_pass, w_brk, w_cont, wVar_some, wBl_bl, wIt_int, wK_nx, wK_rt, wK_bk, wK_ct, wTg_some, wRt_rt, wRt_nx, wNx_nx, wNx_ct, BK.f, CK.f, FK.f, MK.f, d_addI, d_subI, d_mulI, d_fdivI, d_modI, d_powI, d_addT, d_addS, d_eqI, d_neI, d_ltI, d_leI, d_gtI, d_geI, d_negI, d_int, d_absI, d_idxT, d_idxC, wIx_0, wIx_1, wIx_2, wIx_3, setTg_nm, setTg_tp, setTgs_nil, setTgs_nm, setTgs_tp, Option.bind_some, List.map_cons, List.map_nil, List.cons_append, List.nil_append, List.getElem?_cons_zero, List.getElem?_cons_succ, List.set_cons_zero, List.set_cons_succ, List.replicate_succ, List.replicate_zero, Nat.reduceSub, Nat.reduceAdd, if_true, if_false, Bool.false_eq_true, List.length_cons, List.length_nil, decide_eq_true_eq, Nat.reduceLeDiff, true_and, q__law_throw__law_toss, q__law_throw__law_any]
  split
  · exact ⟨.inl rfl, ht⟩
  · have hm : (S2 ++ [LO.lst [.int 0, .int 0, .int 0, .int 1, .int 1, .int (-1), .int 2, .int 3, .int (-2), .int (-3), .int 6]])[S2.length]? = some (.lst [.int 0, .int 0, .int 0, .int 1, .int 1, .int (-1), .int 2, .int 3, .int (-2), .int (-3), .int 6]) := by
      rw [List.getElem?_append_right (Nat.le_refl _), Nat.sub_self]
      rfl
    have ht2 : Tos n S2 (S2 ++ [LO.lst [.int 0, .int 0, .int 0, .int 1, .int 1, .int (-1), .int 2, .int 3, .int (-2), .int (-3), .int 6]]) := Tos.more ht.sack
    refine (any_ ht2.sack hm (Nat.ne_of_gt ht.sack.lt) (by simp) (by decide)).mono fun x S3 hx => ?_
    obtain ⟨hx, ht3⟩ := hx
    have hi : ∃ i : Int, x = .int i ∧ -3 ≤ i ∧ i ≤ 6 := by
      simp only [List.mem_cons, List.not_mem_nil, or_false] at hx
      rcases hx with e | e | e | e | e | e | e | e | e | e | e <;> exact ⟨_, e, by decide, by decide⟩
    obtain ⟨i, rfl, hi1, hi2⟩ := hi
    have t3 := (ht.trans ht2).trans ht3
    split
    · rename_i h2
      refine (toss t3.sack (by decide) (by decide)).mono fun v S4 hv => ?_
      obtain ⟨r2, rfl, _, _, ht4⟩ := hv
      rw [d_eqI]
      exact ⟨.inr ⟨i, _, rfl, hi1, hi2, fun z => by omega⟩, t3.trans ht4⟩
    · exact ⟨.inr ⟨i, false, rfl, hi1, hi2, fun _ => rfl⟩, t3⟩
theorem w_comp {Φ : Tab} {σ : DV.Env} {S : Sto} {Q : D → Sto → Prop} {X : Str → Option (Str × D) → Sto → Prop} {w : MW} {t : Tg} {vs : List Nat} {c : MO} {e : ME} : wpR (evE Φ (.comp w t vs c e) σ S) Q X = wpR (evW Φ w σ S) (fun wk S1 => wpR (compD wk.lock t vs (evC Φ c) (evE Φ e) S1.length σ wk.items (S1 ++ [.lst []])) Q X) X := by
  simp only [evE, evComp, wpR_bind]
theorem comp_tos {Φ : Tab} {w : MW} {t : Tg} {vs : List Nat} {e : ME} {σ : DV.Env} {S : Sto} {n : Nat} {P : Nat → D → Prop} (len : Nat) (hS : Sack S n)
    (hw : wpR (evW Φ w σ S) (fun wk S1 => Tos n S S1 ∧ (∀ S2, Tos n S1 S2 → Locked S2 wk.lock) ∧ wk.items.length = len ∧ len < 100000 ∧ ∀ j d S2, wk.items[j]? = some d → Tos n S1 S2 → ∃ σ1, setTg t d (wipeD σ vs) = some σ1 ∧ wpR (evE Φ e σ1 S2) (fun y S3 => P j y ∧ Tos n S2 S3) noX) noX) :
    wpR (evE Φ (.comp w t vs .none e) σ S) (fun v S' => ∃ m acc, v = .ref m ∧ S.length ≤ m ∧ S'[m]? = some (.lst acc) ∧ acc.length = len ∧ (∀ (j : Nat) (y : D), acc[j]? = some y → P j y) ∧ Tos n S S') noX := by
  rw [w_comp]
  refine hw.mono fun wk S1 h => ?_
  obtain ⟨h1, h2, h3, h4, h5⟩ := h
  have nm : n ≠ S1.length := Nat.ne_of_lt h1.sack.lt
  refine (compD_inv (fun j acc S2 => Tos n S1 S2 ∧ acc.length = j ∧ ∀ i y, acc[i]? = some y → P i y) (fun j acc S2 h _ => h2 S2 h.1) wk.items 0 [] (S1 ++ [.lst []]) ⟨Tos.more h1.sack, rfl, fun i y hi => by simp at hi⟩ (by
    rw [List.getElem?_append_right (Nat.le_refl _), Nat.sub_self]
    rfl) (by rw [h3]; simp; omega) fun j d acc S2 hj hI ha => ?_).mono fun v S2 hv => ?_
  · obtain ⟨t1, t2, t3⟩ := hI
    obtain ⟨σ1, e1, w1⟩ := h5 j d S2 hj t1
    show ∃ σ1, setTg t d (wipeD σ vs) = some σ1 ∧ wpR (.ok true S2) _ noX
    refine ⟨σ1, e1, .ok ⟨fun z => (by cases z), fun _ => w1.mono fun y S3 hy => ?_⟩⟩
    obtain ⟨py, t4⟩ := hy
    have hm : S1.length < S2.length := (List.getElem?_eq_some_iff.mp ha).1
    have e3 : S3[S1.length]? = some (.lst acc) := by rw [t4.keep _ hm (Ne.symm nm)]; exact ha
    refine ⟨e3, ⟨by rw [List.length_set]; exact (t1.trans t4).len, fun i hi hn => ?_, ?_⟩, by simp [t2], fun i y' hi => ?_⟩
    · rw [List.getElem?_set_ne (by omega)]
      exact (t1.trans t4).keep i hi hn
    · obtain ⟨a, b, q1, q2⟩ := t4.sack
      exact ⟨a, b, by rw [List.getElem?_set_ne (Ne.symm nm)]; exact q1, q2⟩
    · rcases Nat.lt_or_ge i acc.length with q | q
      · rw [List.getElem?_append_left q] at hi
        exact t3 i y' hi
      · rw [List.getElem?_append_right q] at hi
        have : i - acc.length = 0 := by
          rcases Nat.eq_zero_or_pos (i - acc.length) with z | z
          · exact z
          · rw [List.getElem?_eq_none (by simp; omega)] at hi
            cases hi
        rw [this] at hi
        cases hi
        have e : i = 0 + j := by omega
        rw [e, Nat.zero_add]
        exact py
  · obtain ⟨rfl, acc, ha, t1, t2, t3⟩ := hv
    exact ⟨_, acc, rfl, h1.len, ha, by rw [t2, h3, Nat.zero_add], t3, h1.trans t1⟩
theorem w_range1 {Φ : Tab} {σ : DV.Env} {S : Sto} {e : ME} {Q : Walk → Sto → Prop} {X : Str → Option (Str × D) → Sto → Prop} : wpR (evW Φ (.range1 e) σ S) Q X = wpR (evE Φ e σ S) (wIt fun i S1 => okR i ∧ Q (rangeW 0 i.toNat) S1) X := by
  simp only [evW, evCons, evNil, wpR_bind, wpR_ok]
  congr 1
  funext d S
  cases d with
  | int i =>
    show wpR (if okR i then Res.ok (rangeW 0 i.toNat) S else .bad) Q X = (okR i ∧ Q (rangeW 0 i.toNat) S)
    rw [wpR_if, wpR_ok]
  | _ => exact wpR_bad
theorem range_len {lo : Int} {k : Nat} : (rangeW lo k).items.length = k := by simp [rangeW]
theorem range_at {lo : Int} {k j : Nat} {d : D} (h : (rangeW lo k).items[j]? = some d) : j < k ∧ d = .int (lo + j) := by
  have hl := (List.getElem?_eq_some_iff.mp h).1
  rw [range_len] at hl
  simp only [rangeW, List.getElem?_map, List.getElem?_range hl, Option.map_some, Option.some.injEq] at h
  exact ⟨hl, h.symm⟩
/-- a beat of so many hands; some beats -/
def Beat (h : Int) (d : D) : Prop := ∃ cs : List D, d = .tup cs ∧ cs.length = h.toNat ∧ ∀ c ∈ cs, Cell h c
def Part (h : Int) (k : Nat) (d : D) : Prop := ∃ bs : List D, d = .tup bs ∧ bs.length = k ∧ ∀ b ∈ bs, Beat h b
theorem all_at {P : D → Prop} {xs : List D} (h : ∀ (j : Nat) (y : D), xs[j]? = some y → P y) : ∀ y ∈ xs, P y := fun y hy => by
  obtain ⟨j, hj⟩ := List.mem_iff_getElem?.mp hy
  exact h j y hj
theorem row_ {n k : Nat} {S : Sto} {hn : Int} (h : Sack S n) (hh : hn = 1 ∨ hn = 2) (hk : k < 1000) : wpR (d__law_row [.ref n, .int hn, .int k] S) (fun v S2 => Part hn k v ∧ Tos n S S2) noX := by
  unfold d__law_row
  refine den_wp rfl ?_
  unfold m__law_row
  rw [w_cons, w_ret, w_blt, w_consE]
  show wpR (evE Φ__law_row _ [some (.ref n), some (.int hn), some (.int k), none, none] S) _ noX
  refine wpR.mono (comp_tos (P := fun _ y => Beat hn y) k h ?_) fun v S2 hv => ?_
  · rw [w_range1]
    simp only [w_var, w_con, w_bin, w_neg, w_not, w_and, w_or, w_ite, w_cmp, w_chain, w_isN, w_tup, w_lst, w_idx, wO_none, wO_some, w_slc, w_blt, w_nilE, w_consE, wTy_some, w_isi, wApp_ref, w_app, wStr_str, w_mt1, w_told, w_calls, wCall_some, MEs.len, d_lenC, d_lenT, wVar_some, wBl_bl, wIt_int, wK_nx, wK_rt, wK_bk, wK_ct, wTg_some, wRt_rt, wRt_nx, wNx_nx, wNx_ct, BK.f, CK.f, FK.f, MK.f, d_addI, d_subI, d_mulI, d_fdivI, d_modI, d_powI, d_addT, d_addS, d_eqI, d_neI, d_ltI, d_leI, d_gtI, d_geI, d_negI, d_int, d_absI, d_idxT, d_idxC, wIx_0, wIx_1, wIx_2, wIx_3, setTg_nm, setTg_tp, setTgs_nil, setTgs_nm, setTgs_tp, Option.bind_some, List.map_cons, List.map_nil, List.cons_append, List.nil_append, List.getElem?_cons_zero, List.getElem?_cons_succ, List.set_cons_zero, List.set_cons_succ, List.replicate_succ, List.replicate_zero, Nat.reduceSub, Nat.reduceAdd, if_true, if_false, Bool.false_eq_true, List.length_cons, List.length_nil, decide_eq_true_eq, Nat.reduceLeDiff, true_and]
    refine ⟨⟨by omega, by omega⟩, Tos.refl h, fun S2 _ p hp => (by cases hp), by rw [range_len]; omega, by omega, fun j d S2 hj t2 => ⟨_, rfl, ?_⟩⟩
    simp only [w_blt, w_consE, w_nilE, FK.f, wipeD, List.set_cons_succ, List.set_cons_zero]
    refine (comp_tos (P := fun _ y => Cell hn y) hn.toNat t2.sack ?_).mono fun v S3 hv => ?_
    · rw [w_range1]
      simp only [w_var, w_con, w_bin, w_neg, w_not, w_and, w_or, w_ite, w_cmp, w_chain, w_isN, w_tup, w_lst, w_idx, wO_none, wO_some, w_slc, w_blt, w_nilE, w_consE, wTy_some, w_isi, wApp_ref, w_app, wStr_str, w_mt1, w_told, w_calls, wCall_some, MEs.len, d_lenC, d_lenT, wVar_some, wBl_bl, wIt_int, wK_nx, wK_rt, wK_bk, wK_ct, wTg_some, wRt_rt, wRt_nx, wNx_nx, wNx_ct, BK.f, CK.f, FK.f, MK.f, d_addI, d_subI, d_mulI, d_fdivI, d_modI, d_powI, d_addT, d_addS, d_eqI, d_neI, d_ltI, d_leI, d_gtI, d_geI, d_negI, d_int, d_absI, d_idxT, d_idxC, wIx_0, wIx_1, wIx_2, wIx_3, setTg_nm, setTg_tp, setTgs_nil, setTgs_nm, setTgs_tp, Option.bind_some, List.map_cons, List.map_nil, List.cons_append, List.nil_append, List.getElem?_cons_zero, List.getElem?_cons_succ, List.set_cons_zero, List.set_cons_succ, List.replicate_succ, List.replicate_zero, Nat.reduceSub, Nat.reduceAdd, if_true, if_false, Bool.false_eq_true, List.length_cons, List.length_nil, decide_eq_true_eq, Nat.reduceLeDiff, true_and]
      refine ⟨⟨by omega, by omega⟩, Tos.refl t2.sack, fun S3 _ p hp => (by cases hp), by rw [range_len], by omega, fun j2 d2 S3 hj2 t3 => ⟨_, rfl, ?_⟩⟩
      simp only [w_var, w_con, w_bin, w_neg, w_not, w_and, w_or, w_ite, w_cmp, w_chain, w_isN, w_tup, w_lst, w_idx, wO_none, wO_some, w_slc, w_blt, w_nilE, w_consE, wTy_some, w_isi, wApp_ref, w_app, wStr_str, w_mt1, w_told, w_calls, wCall_some, MEs.len, d_lenC, d_lenT, wVar_some, wBl_bl, wIt_int, wK_nx, wK_rt, wK_bk, wK_ct, wTg_some, wRt_rt, wRt_nx, wNx_nx, wNx_ct, BK.f, CK.f, FK.f, MK.f, d_addI, d_subI, d_mulI, d_fdivI, d_modI, d_powI, d_addT, d_addS, d_eqI, d_neI, d_ltI, d_leI, d_gtI, d_geI, d_negI, d_int, d_absI, d_idxT, d_idxC, wIx_0, wIx_1, wIx_2, wIx_3, setTg_nm, setTg_tp, setTgs_nil, setTgs_nm, setTgs_tp, Option.bind_some, List.map_cons, List.map_nil, List.cons_append, List.nil_append, List.getElem?_cons_zero, List.getElem?_cons_succ, List.set_cons_zero, List.set_cons_succ, List.replicate_succ, List.replicate_zero, Nat.reduceSub, Nat.reduceAdd, if_true, if_false, Bool.false_eq_true, List.length_cons, List.length_nil, decide_eq_true_eq, Nat.reduceLeDiff, true_and, wipeD, q__law_row__law_throw]
      exact throw_ t3.sack hh
    · obtain ⟨m, acc, rfl, _, ha, hl, hP, t3⟩ := hv
      rw [d_tupR ha]
      exact ⟨⟨acc, rfl, hl, all_at hP⟩, t3⟩
  · obtain ⟨m, acc, rfl, _, ha, hl, hP, t3⟩ := hv
    simp only [w_nilE, FK.f, d_tupR ha, wK_rt, wRt_rt]
    exact ⟨⟨acc, rfl, hl, all_at hP⟩, t3⟩
end T

end
section
set_option Elab.async false
set_option linter.all false
set_option maxRecDepth 100000
set_option maxHeartbeats 4000000
set_option autoImplicit false
/-! Plain laws, part C: even rows, plans. -/
namespace T
open PySem DV
section
variable {Φ : Tab} {σ : DV.Env} {S : Sto} {Q : D → Sto → Prop} {X : Str → Option (Str × D) → Sto → Prop} {QF : Fl → Sto → Prop}
theorem w_for {t : Tg} {w : MW} {a : List MS} : wpR (evS Φ (.forS t w a) σ S) QF X = wpR (evW Φ w σ S) (fun wk S1 => wpR (forD wk.lock t (evSs Φ a) wk.items σ S1) QF X) X := by
  simp only [evS, svFor, wpR_bind]
def wPair (k : D → D → Prop) : D → Prop
  | .tup [a, b] => k a b
  | _ => False
theorem wPair_tup {k : D → D → Prop} {a b : D} : wPair k (.tup [a, b]) = k a b := rfl
theorem w_sub2 {o i p j e : ME} : wpR (evS Φ (.sub2 o i p j e) σ S) QF X = wpR (evE Φ e σ S) (fun d S1 => wPair (fun a b => wpR (evE Φ o σ S1) (fun od S2 => wpR (evE Φ i σ S2) (fun id S3 => wpR (setD od id a S3) (fun _ S4 => wpR (evE Φ p σ S4) (fun od S5 => wpR (evE Φ j σ S5) (fun id S6 => wpR (setD od id b S6) (fun _ S7 => QF (.nx σ) S7) X) X) X) X) X) X) d) X := by
  simp only [evS, svSub2, wpR_bind]
  congr 1
  funext d S1
  cases d with
  | tup xs =>
    match xs with
    | [a, b] => simp only [subOn, wpR_bind, wpR_ok, wPair]
    | [] => exact wpR_bad
    | [_] => exact wpR_bad
    | _ :: _ :: _ :: _ => exact wpR_bad
  | _ => exact wpR_bad
theorem w_enum {e : ME} {Q : Walk → Sto → Prop} : wpR (evW Φ (.enum e) σ S) Q X = wpR (evE Φ e σ S) (fun d S1 => wpR (enumD d S1) Q X) X := by
  simp only [evW, wpR_bind]
theorem w_val {e : ME} {Q : Walk → Sto → Prop} : wpR (evW Φ (.val e) σ S) Q X = wpR (evE Φ e σ S) (fun d S1 => wpR (walkD d S1) Q X) X := by
  simp only [evW, evWalk, wpR_bind]
theorem d_enumR {n : Nat} {xs : List D} {Q : Walk → Sto → Prop} (h : S[n]? = some (.lst xs)) : wpR (enumD (.ref n) S) Q X = Q (enumW ⟨xs, [(n, xs)]⟩) S := by
  unfold enumD
  rw [wpR_bind]
  simp only [walkD, h, wpR_ok]
theorem d_walkR {n : Nat} {xs : List D} {Q : Walk → Sto → Prop} (h : S[n]? = some (.lst xs)) : wpR (walkD (.ref n) S) Q X = Q ⟨xs, [(n, xs)]⟩ S := by
  simp only [walkD, h, wpR_ok]
theorem d_walkT {xs : List D} {Q : Walk → Sto → Prop} : wpR (walkD (.tup xs) S) Q X = Q ⟨xs, []⟩ S := by
  simp only [walkD, wpR_ok]
theorem d_app {n : Nat} {xs : List D} {y : D} (h : S[n]? = some (.lst xs)) (hz : xs.length < 16777216) : wpR (appD n y S) Q X = Q .non (S.set n (.lst (xs ++ [y]))) := by
  unfold appD
  simp only [h]
  rw [if_pos hz, wpR_ok]
theorem d_max {i j : Int} : wpR (maxD [.int i, .int j] S) Q X = Q (.int (if j > i then j else i)) S := wpR_ok
theorem d_slR {n : Nat} {xs : List D} {lo hi : Option Int} (h : S[n]? = some (.lst xs)) : wpR (slD (.ref n) lo hi S) Q X = Q (.ref S.length) (S ++ [.lst (cutD xs lo hi)]) := by
  simp only [slD, h, wpR_ok]
theorem d_slT {xs : List D} {lo hi : Option Int} : wpR (slD (.tup xs) lo hi S) Q X = Q (.tup (cutD xs lo hi)) S := by
  simp only [slD, wpR_ok]
end
theorem iteI {c : Prop} [Decidable c] {P Q : Prop} (h : c → P) (h' : ¬c → Q) : if c then P else Q := by
  split
  · exact h (by assumption)
  · exact h' (by assumption)
/-- pairs of numbers -/
def Pairs (xs : List D) : Prop := ∀ d ∈ xs, ∃ i j : Int, d = .tup [.int i, .int j]
theorem pairs_py {g : Nat → Option PyData} : ∀ {xs : List D}, Pairs xs → ∃ ps, toPyW.toPysW g xs = some ps ∧ ps.length = xs.length ∧ PyData.canLayAll0 ps = true ∧ PyData.depthAll ps ≤ 1
  | [], _ => ⟨[], rfl, rfl, rfl, Nat.zero_le _⟩
  | d :: xs, h => by
    obtain ⟨i, j, rfl⟩ := h d List.mem_cons_self
    obtain ⟨ps, h1, h2, h3, h4⟩ := pairs_py (g := g) (xs := xs) fun d hd => h d (List.mem_cons_of_mem _ hd)
    refine ⟨.tuple [.int i, .int j] :: ps, ?_, by simp [h2], ?_, ?_⟩
    · simp only [toPyW.toPysW, toPyW, h1, Option.map_some]
    · simp only [PyData.canLayAll0, PyData.canLay0, h3, Bool.and_self]
    · simp only [PyData.depthAll, PyData.depth]
      omega
theorem gAt_lst {f : Nat → Option PyData} {S : Sto} {n : Nat} {xs : List D} (h : S[n]? = some (.lst xs)) : gAt f S n = (toPyW.toPysW f xs).map .list := by
  unfold gAt
  rw [h]
theorem toPy_ref {S : Sto} {n : Nat} {xs : List D} (h : S[n]? = some (.lst xs)) : toPy S (.ref n) = (toPyW.toPysW (gAt (fun _ => none) S) xs).map .list := gAt_lst h
theorem neD_nil {S : Sto} {g e : Nat} {xs : List D} (hg : S[g]? = some (.lst xs)) (he : S[e]? = some (.lst [])) (hp : Pairs xs) : neD (.ref g) (.ref e) S = .ok (.bl (decide (xs ≠ []))) S := by
  obtain ⟨ps, h1, h2, h3, h4⟩ := pairs_py (g := gAt (fun _ => none) S) hp
  have e1 : toPy S (.ref g) = some (.list ps) := by rw [toPy_ref hg, h1]; rfl
  have e2 : toPy S (.ref e) = some (.list []) := by rw [toPy_ref he]; rfl
  unfold neD
  rw [e1, e2]
  dsimp only
  have s1 : SeqAt.shaped (.list ps) = true := by
    show (PyData.canLayAll0 ps && decide (PyData.depthAll ps + 1 ≤ 64)) = true
    rw [h3, Bool.true_and]
    exact decide_eq_true (by omega)
  rw [if_pos ⟨s1, rfl⟩]
  congr 2
  cases ps with
  | nil =>
    have : xs = [] := by
      cases xs with
      | nil => rfl
      | cons x xs => simp at h2
    simp [this, PyData.eqv, PyData.eqvAll]
  | cons p ps =>
    have : xs ≠ [] := by
      intro z
      rw [z] at h2
      simp at h2
    simp [this, PyData.eqv, PyData.eqvAll]
/-- a goal for each place -/
def Goals (h : Int) (gs : List D) : Prop := ∀ (i : Nat) (d : D), gs[i]? = some d → ∃ w p : Int, d = .tup [.int w, .int p] ∧ -4 < (i : Int) / h - w ∧ (i : Int) / h - w < 4 ∧ 0 ≤ p ∧ p < h
theorem Goals.pairs {h : Int} {gs : List D} (g : Goals h gs) : Pairs gs := fun d hd => by
  obtain ⟨i, hi⟩ := List.mem_iff_getElem?.mp hd
  obtain ⟨w, p, e, _⟩ := g i d hi
  exact ⟨w, p, e⟩
/-- a list of one's own, beside the sack -/
structure Own (n g : Nat) (S0 S : Sto) (xs : List D) : Prop where
  t : Tos n S0 S
  g0 : S0.length ≤ g
  at_ : S[g]? = some (.lst xs)
theorem Own.ne {n g : Nat} {S0 S : Sto} {xs : List D} (h0 : Sack S0 n) (o : Own n g S0 S xs) : g ≠ n := fun z => by
  have := h0.lt
  have := o.g0
  omega
theorem Own.put {n g : Nat} {S0 S : Sto} {xs ys : List D} (h0 : Sack S0 n) (o : Own n g S0 S xs) : Own n g S0 (S.set g (.lst ys)) ys := by
  have hl := (List.getElem?_eq_some_iff.mp o.at_).1
  refine ⟨⟨by rw [List.length_set]; exact o.t.len, fun i hi hn => ?_, ?_⟩, o.g0, by rw [List.getElem?_set_self hl]⟩
  · have := o.g0
    rw [List.getElem?_set_ne (by omega)]
    exact o.t.keep i hi hn
  · obtain ⟨a, b, q1, q2⟩ := o.t.sack
    exact ⟨a, b, by rw [List.getElem?_set_ne (o.ne h0)]; exact q1, q2⟩
theorem Own.tos {n g : Nat} {S0 S S' : Sto} {xs : List D} (h0 : Sack S0 n) (o : Own n g S0 S xs) (t : Tos n S S') : Own n g S0 S' xs :=
  ⟨o.t.trans t, o.g0, (t.keep g (List.getElem?_eq_some_iff.mp o.at_).1 (o.ne h0)).trans o.at_⟩
theorem Own.more {n g : Nat} {S0 S : Sto} {xs : List D} (h0 : Sack S0 n) (o : Own n g S0 S xs) (l : LO) : Own n g S0 (S ++ [l]) xs := o.tos h0 (Tos.more o.t.sack)
theorem Own.beside {n g f : Nat} {S0 S : Sto} {xs : List D} {l : LO} (o : Own n g S0 S xs) (hg : f ≠ g) (hn : f ≠ n) (hf : S0.length ≤ f) : Own n g S0 (S.set f l) xs := by
  refine ⟨⟨by rw [List.length_set]; exact o.t.len, fun i hi hn' => ?_, ?_⟩, o.g0, by rw [List.getElem?_set_ne hg]; exact o.at_⟩
  · rw [List.getElem?_set_ne (by omega)]
    exact o.t.keep i hi hn'
  · obtain ⟨a, b, q1, q2⟩ := o.t.sack
    exact ⟨a, b, by rw [List.getElem?_set_ne hn]; exact q1, q2⟩
theorem enum_at {xs : List D} {lk : List (Nat × List D)} {j : Nat} {d : D} (h : (enumW ⟨xs, lk⟩).items[j]? = some d) : ∃ y, xs[j]? = some y ∧ d = .tup [.int (j : Nat), y] := by
  simp only [enumW, List.getElem?_map, List.getElem?_zipIdx, Option.map_eq_some_iff] at h
  obtain ⟨q, ⟨y, hy, rfl⟩, rfl⟩ := h
  exact ⟨y, hy, by simp⟩
theorem enum_len {xs : List D} {lk : List (Nat × List D)} : (enumW ⟨xs, lk⟩).items.length = xs.length := by simp [enumW]
theorem cut_in {xs : List D} {a b : Nat} (hab : a ≤ b) (hb : b ≤ xs.length) : cutD xs (some (a : Int)) (some (b : Int)) = (xs.drop a).take (b - a) := by
  unfold cutD
  rw [HT.sIx_nat, HT.sIx_nat, Nat.min_eq_left hb, Nat.min_eq_left (Nat.le_trans hab hb)]
theorem even_ {n k : Nat} {S : Sto} {hn : Int} (h : Sack S n) (hh : hn = 1 ∨ hn = 2) (hk : k < 10) : wpR (d__law_even [.ref n, .int hn, .int k] S) (fun v S2 => Part hn k v ∧ Tos n S S2) noX := by
  have hh1 : 0 < hn := by omega
  obtain ⟨hN, rfl⟩ := Int.eq_ofNat_of_zero_le (show 0 ≤ hn by omega)
  have hmul : ((k : Int) * (hN : Int)) = ((k * hN : Nat) : Int) := by push_cast; rfl
  have hkm : k * hN < 20 := by
    have : hN ≤ 2 := by omega
    calc k * hN ≤ k * 2 := Nat.mul_le_mul_left _ this
      _ < 20 := by omega
  have o1 : Own n S.length S (S ++ [.lst []]) [] := ⟨Tos.more h, Nat.le_refl _, by rw [List.getElem?_append_right (Nat.le_refl _), Nat.sub_self]; rfl⟩
  have l2 : ((hN : Int)).natAbs.log2 < 20 := log2_lt' (by omega) (k := 19) (by
    have : (2 : Int) < 2 ^ 19 := by decide
    omega)
  have l1 : ((k : Int)).natAbs.log2 < 20 := log2_lt' (by omega) (k := 19) (by
    have : (10 : Int) < 2 ^ 19 := by decide
    omega)
  unfold d__law_even
  refine den_wp rfl ?_
  unfold m__law_even
  rw [w_cons, w_asg]
  simp only [w_var, w_con, w_bin, w_neg, w_not, w_and, w_or, w_ite, w_cmp, w_chain, w_isN, w_tup, w_lst, w_idx, wO_none, wO_some, w_slc, w_blt, w_nilE, w_consE, wTy_some, w_isi, wApp_ref, w_app, wStr_str, w_mt1, w_told, w_calls, wCall_some, MEs.len, d_lenC, d_lenT, wVar_some, wBl_bl, wIt_int, wK_nx, wK_rt, wK_bk, wK_ct, wTg_some, wRt_rt, wRt_nx, wNx_nx, wNx_ct, BK.f, CK.f, FK.f, MK.f, d_addI, d_subI, d_mulI, d_fdivI, d_modI, d_powI, d_addT, d_addS, d_eqI, d_neI, d_ltI, d_leI, d_gtI, d_geI, d_negI, d_int, d_absI, d_idxT, d_idxC, wIx_0, wIx_1, wIx_2, wIx_3, setTg_nm, setTg_tp, setTgs_nil, setTgs_nm, setTgs_tp, Option.bind_some, List.map_cons, List.map_nil, List.cons_append, List.nil_append, List.getElem?_cons_zero, List.getElem?_cons_succ, List.set_cons_zero, List.set_cons_succ, List.replicate_succ, List.replicate_zero, Nat.reduceSub, Nat.reduceAdd, if_true, if_false, Bool.false_eq_true, List.length_cons, List.length_nil, decide_eq_true_eq, Nat.reduceLeDiff, true_and]
  rw [w_cons, w_for, w_range1]
  simp only [w_var, w_con, w_bin, w_neg, w_not, w_and, w_or, w_ite, w_cmp, w_chain, w_isN, w_tup, w_lst, w_idx, wO_none, wO_some, w_slc, w_blt, w_nilE, w_consE, wTy_some, w_isi, wApp_ref, w_app, wStr_str, w_mt1, w_told, w_calls, wCall_some, MEs.len, d_lenC, d_lenT, wVar_some, wBl_bl, wIt_int, wK_nx, wK_rt, wK_bk, wK_ct, wTg_some, wRt_rt, wRt_nx, wNx_nx, wNx_ct, BK.f, CK.f, FK.f, MK.f, d_addI, d_subI, d_mulI, d_fdivI, d_modI, d_powI, d_addT, d_addS, d_eqI, d_neI, d_ltI, d_leI, d_gtI, d_geI, d_negI, d_int, d_absI, d_idxT, d_idxC, wIx_0, wIx_1, wIx_2, wIx_3, setTg_nm, setTg_tp, setTgs_nil, setTgs_nm, setTgs_tp, Option.bind_some, List.map_cons, List.map_nil, List.cons_append, List.nil_append, List.getElem?_cons_zero, List.getElem?_cons_succ, List.set_cons_zero, List.set_cons_succ, List.replicate_succ, List.replicate_zero, Nat.reduceSub, Nat.reduceAdd, if_true, if_false, Bool.false_eq_true, List.length_cons, List.length_nil, decide_eq_true_eq, Nat.reduceLeDiff, true_and]
  refine ⟨by omega, ⟨by rw [hmul]; omega, by rw [hmul]; omega⟩, ?_⟩
  -- the goals are laid
  refine (forD_inv (fun j σ S' => ∃ x gs, σ = [some (.ref n), some (.int hN), some (.int k), some (.ref S.length), x, none, none, none, none, none, none, none, none, none] ∧ Own n S.length S S' gs ∧ gs.length = j ∧ Goals hN gs) _ 0 _ _ ⟨none, [], rfl, o1, rfl, fun i d hi => by simp at hi⟩ (fun j σ S' _ p hp => by cases hp) fun j d σ S' hj hI => ?_).mono fun fl S1 hfl => ?_
  · obtain ⟨x, gs, rfl, o, hl, hG⟩ := hI
    obtain ⟨hj1, rfl⟩ := range_at hj
    have hj2 : j < k * hN := by
      rw [hmul] at hj1
      exact hj1
    refine ⟨_, rfl, ?_⟩
    simp only [w_var, w_con, w_bin, w_neg, w_not, w_and, w_or, w_ite, w_cmp, w_chain, w_isN, w_tup, w_lst, w_idx, wO_none, wO_some, w_slc, w_blt, w_nilE, w_consE, wTy_some, w_isi, wApp_ref, w_app, wStr_str, w_mt1, w_told, w_calls, wCall_some, MEs.len, d_lenC, d_lenT, w_nil, w_cons, w_asg, w_sub, w_par, w_expr, w_ret, w_if, w_raise, w_pass, w_brk, w_cont, wVar_some, wBl_bl, wIt_int, wK_nx, wK_rt, wK_bk, wK_ct, wTg_some, wRt_rt, wRt_nx, wNx_nx, wNx_ct, BK.f, CK.f, FK.f, MK.f, d_addI, d_subI, d_mulI, d_fdivI, d_modI, d_powI, d_addT, d_addS, d_eqI, d_neI, d_ltI, d_leI, d_gtI, d_geI, d_negI, d_int, d_absI, d_idxT, d_idxC, wIx_0, wIx_1, wIx_2, wIx_3, setTg_nm, setTg_tp, setTgs_nil, setTgs_nm, setTgs_tp, Option.bind_some, List.map_cons, List.map_nil, List.cons_append, List.nil_append, List.getElem?_cons_zero, List.getElem?_cons_succ, List.set_cons_zero, List.set_cons_succ, List.replicate_succ, List.replicate_zero, Nat.reduceSub, Nat.reduceAdd, if_true, if_false, Bool.false_eq_true, List.length_cons, List.length_nil, decide_eq_true_eq, Nat.reduceLeDiff, true_and, d_app o.at_ (show gs.length < 16777216 by omega)]
    refine ⟨⟨hh1, by omega⟩, hh1, _, _, rfl, o.put h, by simp [hl], fun i d hi => ?_⟩
    rcases Nat.lt_or_ge i gs.length with q | q
    · rw [List.getElem?_append_left q] at hi
      exact hG i d hi
    · rw [List.getElem?_append_right q] at hi
      have e0 : i - gs.length = 0 := by
        rcases Nat.eq_zero_or_pos (i - gs.length) with z | z
        · exact z
        · rw [List.getElem?_eq_none (by simp; omega)] at hi
          cases hi
      rw [e0] at hi
      cases hi
      have ei : i = j := by omega
      subst ei
      refine ⟨_, _, rfl, ?_, ?_, ?_, ?_⟩
      · simp
      · simp
      · exact Int.emod_nonneg _ (by omega)
      · exact Int.emod_lt_of_pos _ hh1
  obtain ⟨σ1, rfl, x, gs, rfl, o, hl, hG⟩ := hfl
  have hlen : gs.length = k * hN := by
    rw [hl, range_len, hmul, Int.toNat_natCast, Nat.zero_add]
  clear hl
  rw [wK_nx, w_cons, w_for, w_range1]
  -- throws are exchanged
  have loop2 : ∀ (r : Int) (S2 : Sto), 0 ≤ r → r < 6 → (gs = [] → r = 0) → Own n S.length S S2 gs → okR r ∧ wpR (forD (rangeW 0 r.toNat).lock (.nm 5) (evSs Φ__law_even [.par 7 8 (.call "_law_toss" (.cons (.var 0) (.cons (.blt .len (.cons (.var 3) .nil)) .nil))) (.call "_law_toss" (.cons (.var 0) (.cons (.blt .len (.cons (.var 3) .nil)) .nil))),
  .par 9 10 (.idx (.var 3) (.var 7)) (.idx (.var 3) (.var 8)),
  .ifS (.cmp .lt (.blt .max (.cons (.blt .abs (.cons (.bin .sub (.bin .fdiv (.var 7) (.var 1)) (.idx (.var 10) (.con (.int 0)))) .nil)) (.cons (.blt .abs (.cons (.bin .sub (.bin .fdiv (.var 8) (.var 1)) (.idx (.var 9) (.con (.int 0)))) .nil)) .nil))) (.con (.int 4))) [.sub2 (.var 3) (.var 7) (.var 3) (.var 8) (.tup (.cons (.var 10) (.cons (.var 9) .nil)))] []]) (rangeW 0 r.toNat).items [some (.ref n), some (.int hN), some (.int k), some (.ref S.length), x, none, none, none, none, none, none, none, none, none] S2)
      (fun fl S' => ∃ σ, fl = .nx σ ∧ ∃ x5 x7 x8 x9 x10 gs, σ = [some (.ref n), some (.int hN), some (.int k), some (.ref S.length), x, x5, none, x7, x8, x9, x10, none, none, none] ∧ Own n S.length S S' gs ∧ gs.length = k * hN ∧ Goals hN gs) noX := by
    intro r S2 hr0 hr6 hr o2
    refine ⟨⟨by omega, by omega⟩, (forD_inv (fun j σ S' => ∃ x5 x7 x8 x9 x10 gs', σ = [some (.ref n), some (.int hN), some (.int k), some (.ref S.length), x, x5, none, x7, x8, x9, x10, none, none, none] ∧ Own n S.length S S' gs' ∧ gs'.length = k * hN ∧ Goals hN gs') _ 0 _ _ ⟨none, none, none, none, none, gs, rfl, o2, hlen, hG⟩ (fun j σ S' _ p hp => by cases hp) fun j d σ S' hj hI => ?_).mono fun fl S' hf => ?_⟩
    · obtain ⟨x5, x7, x8, x9, x10, gs', rfl, o', hl', hG'⟩ := hI
      obtain ⟨hj1, rfl⟩ := range_at hj
      have hpos : 0 < gs'.length := by
        rcases Nat.eq_zero_or_pos gs'.length with z | z
        · exfalso
          have : gs = [] := List.eq_nil_of_length_eq_zero (by omega)
          have := hr this
          omega
        · exact z
      refine ⟨_, rfl, ?_⟩
      have lt200 : ((gs'.length : Nat) : Int) < 2 ^ 200 := by
        have e : (20 : Int) < 2 ^ 200 := by decide
        omega
      simp only [w_var, w_con, w_bin, w_neg, w_not, w_and, w_or, w_ite, w_cmp, w_chain, w_isN, w_tup, w_lst, w_idx, wO_none, wO_some, w_slc, w_blt, w_nilE, w_consE, wTy_some, w_isi, wApp_ref, w_app, wStr_str, w_mt1, w_told, w_calls, wCall_some, MEs.len, d_lenC, d_lenT, w_nil, w_cons, w_asg, w_sub, w_par, w_expr, w_ret, w_if, w_raise, w_pass, w_brk, w_cont, wVar_some, wBl_bl, wIt_int, wK_nx, wK_rt, wK_bk, wK_ct, wTg_some, wRt_rt, wRt_nx, wNx_nx, wNx_ct, BK.f, CK.f, FK.f, MK.f, d_addI, d_subI, d_mulI, d_fdivI, d_modI, d_powI, d_addT, d_addS, d_eqI, d_neI, d_ltI, d_leI, d_gtI, d_geI, d_negI, d_int, d_absI, d_idxT, d_idxC, wIx_0, wIx_1, wIx_2, wIx_3, setTg_nm, setTg_tp, setTgs_nil, setTgs_nm, setTgs_tp, Option.bind_some, List.map_cons, List.map_nil, List.cons_append, List.nil_append, List.getElem?_cons_zero, List.getElem?_cons_succ, List.set_cons_zero, List.set_cons_succ, List.replicate_succ, List.replicate_zero, Nat.reduceSub, Nat.reduceAdd, if_true, if_false, Bool.false_eq_true, List.length_cons, List.length_nil, decide_eq_true_eq, Nat.reduceLeDiff, true_and, q__law_even__law_toss, d_lenR o'.at_]
      refine (toss o'.t.sack (by omega) lt200).mono fun v1 S3 hv1 => ?_
      obtain ⟨r1, rfl, a1, a2, t3⟩ := hv1
      have o3 := o'.tos h t3
      simp only [w_var, w_con, w_bin, w_neg, w_not, w_and, w_or, w_ite, w_cmp, w_chain, w_isN, w_tup, w_lst, w_idx, wO_none, wO_some, w_slc, w_blt, w_nilE, w_consE, wTy_some, w_isi, wApp_ref, w_app, wStr_str, w_mt1, w_told, w_calls, wCall_some, MEs.len, d_lenC, d_lenT, w_nil, w_cons, w_asg, w_sub, w_par, w_expr, w_ret, w_if, w_raise, w_pass, w_brk, w_cont, wVar_some, wBl_bl, wIt_int, wK_nx, wK_rt, wK_bk, wK_ct, wTg_some, wRt_rt, wRt_nx, wNx_nx, wNx_ct, BK.f, CK.f, FK.f, MK.f, d_addI, d_subI, d_mulI, d_fdivI, d_modI, d_powI, d_addT, d_addS, d_eqI, d_neI, d_ltI, d_leI, d_gtI, d_geI, d_negI, d_int, d_absI, d_idxT, d_idxC, wIx_0, wIx_1, wIx_2, wIx_3, setTg_nm, setTg_tp, setTgs_nil, setTgs_nm, setTgs_tp, Option.bind_some, List.map_cons, List.map_nil, List.cons_append, List.nil_append, List.getElem?_cons_zero, List.getElem?_cons_succ, List.set_cons_zero, List.set_cons_succ, List.replicate_succ, List.replicate_zero, Nat.reduceSub, Nat.reduceAdd, if_true, if_false, Bool.false_eq_true, List.length_cons, List.length_nil, decide_eq_true_eq, Nat.reduceLeDiff, true_and, q__law_even__law_toss, d_lenR o3.at_]
      refine (toss o3.t.sack (by omega) lt200).mono fun v2 S4 hv2 => ?_
      obtain ⟨r2, rfl, b1, b2, t4⟩ := hv2
      have o4 := o3.tos h t4
      obtain ⟨r1, rfl⟩ := Int.eq_ofNat_of_zero_le a1
      obtain ⟨r2, rfl⟩ := Int.eq_ofNat_of_zero_le b1
      have g1 := List.getElem?_eq_getElem (show r1 < gs'.length by omega)
      have g2 := List.getElem?_eq_getElem (show r2 < gs'.length by omega)
      obtain ⟨w1, p1, e1, c1, c2, c3, c4⟩ := hG' r1 _ g1
      obtain ⟨w2, p2, e2, d1, d2, d3, d4⟩ := hG' r2 _ g2
      rw [e1] at g1
      rw [e2] at g2
      simp only [w_var, w_con, w_bin, w_neg, w_not, w_and, w_or, w_ite, w_cmp, w_chain, w_isN, w_tup, w_lst, w_idx, wO_none, wO_some, w_slc, w_blt, w_nilE, w_consE, wTy_some, w_isi, wApp_ref, w_app, wStr_str, w_mt1, w_told, w_calls, wCall_some, MEs.len, d_lenC, d_lenT, w_nil, w_cons, w_asg, w_sub, w_par, w_expr, w_ret, w_if, w_raise, w_pass, w_brk, w_cont, wVar_some, wBl_bl, wIt_int, wK_nx, wK_rt, wK_bk, wK_ct, wTg_some, wRt_rt, wRt_nx, wNx_nx, wNx_ct, BK.f, CK.f, FK.f, MK.f, d_addI, d_subI, d_mulI, d_fdivI, d_modI, d_powI, d_addT, d_addS, d_eqI, d_neI, d_ltI, d_leI, d_gtI, d_geI, d_negI, d_int, d_absI, d_idxT, d_idxC, wIx_0, wIx_1, wIx_2, wIx_3, setTg_nm, setTg_tp, setTgs_nil, setTgs_nm, setTgs_tp, Option.bind_some, List.map_cons, List.map_nil, List.cons_append, List.nil_append, List.getElem?_cons_zero, List.getElem?_cons_succ, List.set_cons_zero, List.set_cons_succ, List.replicate_succ, List.replicate_zero, Nat.reduceSub, Nat.reduceAdd, if_true, if_false, Bool.false_eq_true, List.length_cons, List.length_nil, decide_eq_true_eq, Nat.reduceLeDiff, true_and, d_idxR o4.at_, wIx_nat g1, wIx_nat g2, d_max]
      refine ⟨⟨hh1, by omega⟩, ⟨hh1, by omega⟩, ?_⟩
      refine iteI (fun hc => ?_) fun hc => ?_
      · have hc1 : -4 < (r2 : Int) / hN - w1 ∧ (r2 : Int) / hN - w1 < 4 ∧ -4 < (r1 : Int) / hN - w2 ∧ (r1 : Int) / hN - w2 < 4 := by
          generalize (r2 : Int) / hN - w1 = u at hc ⊢
          generalize (r1 : Int) / hN - w2 = v at hc ⊢
          omega
        rw [w_sub2]
        have q1 := o4.put (ys := gs'.set r1 (.tup [.int w2, .int p2])) h
        have k1 : r1 < gs'.length := by omega
        have k2 : r2 < (gs'.set r1 (.tup [.int w2, .int p2])).length := by rw [List.length_set]; omega
        simp only [w_var, w_con, w_bin, w_neg, w_not, w_and, w_or, w_ite, w_cmp, w_chain, w_isN, w_tup, w_lst, w_idx, wO_none, wO_some, w_slc, w_blt, w_nilE, w_consE, wTy_some, w_isi, wApp_ref, w_app, wStr_str, w_mt1, w_told, w_calls, wCall_some, MEs.len, d_lenC, d_lenT, w_nil, w_cons, w_asg, w_sub, w_par, w_expr, w_ret, w_if, w_raise, w_pass, w_brk, w_cont, wVar_some, wBl_bl, wIt_int, wK_nx, wK_rt, wK_bk, wK_ct, wTg_some, wRt_rt, wRt_nx, wNx_nx, wNx_ct, BK.f, CK.f, FK.f, MK.f, d_addI, d_subI, d_mulI, d_fdivI, d_modI, d_powI, d_addT, d_addS, d_eqI, d_neI, d_ltI, d_leI, d_gtI, d_geI, d_negI, d_int, d_absI, d_idxT, d_idxC, wIx_0, wIx_1, wIx_2, wIx_3, setTg_nm, setTg_tp, setTgs_nil, setTgs_nm, setTgs_tp, Option.bind_some, List.map_cons, List.map_nil, List.cons_append, List.nil_append, List.getElem?_cons_zero, List.getElem?_cons_succ, List.set_cons_zero, List.set_cons_succ, List.replicate_succ, List.replicate_zero, Nat.reduceSub, Nat.reduceAdd, if_true, if_false, Bool.false_eq_true, List.length_cons, List.length_nil, decide_eq_true_eq, Nat.reduceLeDiff, true_and, wPair_tup, d_setR o4.at_ k1, d_setR q1.at_ k2]
        refine ⟨_, _, _, _, _, _, rfl, q1.put h, by simp [hl'], fun i d hi => ?_⟩
        by_cases i2 : i = r2
        · subst i2
          rw [List.getElem?_set_self k2] at hi
          cases hi
          exact ⟨w1, p1, rfl, hc1.1, hc1.2.1, c3, c4⟩
        · rw [List.getElem?_set_ne (Ne.symm i2)] at hi
          by_cases i1 : i = r1
          · subst i1
            rw [List.getElem?_set_self k1] at hi
            cases hi
            exact ⟨w2, p2, rfl, hc1.2.2.1, hc1.2.2.2, d3, d4⟩
          · rw [List.getElem?_set_ne (Ne.symm i1)] at hi
            exact hG' i d hi
      · exact ⟨_, _, _, _, _, _, rfl, o4, hl', hG'⟩
    · obtain ⟨σ, rfl, x5, x7, x8, x9, x10, gs', e, h1, h2, h3⟩ := hf
      exact ⟨σ, rfl, x5, x7, x8, x9, x10, gs', e, h1, h2, h3⟩
  -- behind the exchange
  have rest : ∀ (fl : Fl) (S' : Sto), (∃ σ, fl = .nx σ ∧ ∃ x5 x7 x8 x9 x10 gs, σ = [some (.ref n), some (.int hN), some (.int k), some (.ref S.length), x, x5, none, x7, x8, x9, x10, none, none, none] ∧ Own n S.length S S' gs ∧ gs.length = k * hN ∧ Goals hN gs) → wK Φ__law_even [.asg (.nm 6) (.lst .nil),
  .forS (.tp [(.nm 4), (.tp [(.nm 11), (.nm 12)])]) (.enum (.var 3)) [.expr (.app (.var 6) (.tup (.cons (.bin .sub (.var 11) (.bin .fdiv (.var 4) (.var 1))) (.cons (.cmp .ne (.var 12) (.bin .mod (.var 4) (.var 1))) .nil))))],
  .ret (.blt .tuple (.cons (.comp (.range1 (.var 2)) (.nm 13) [13] .none (.blt .tuple (.cons (.slc (.var 6) (.some (.bin .mul (.var 13) (.var 1))) (.some (.bin .add (.bin .mul (.var 13) (.var 1)) (.var 1)))) .nil))) .nil))] (wRt fun v S2 => Part hN k v ∧ Tos n S S2) noX fl S' := by
    rintro fl S' ⟨σ, rfl, x5, x7, x8, x9, x10, gs, rfl, o, hlen, hG⟩
    rw [wK_nx, w_cons, w_asg]
    simp only [w_var, w_con, w_bin, w_neg, w_not, w_and, w_or, w_ite, w_cmp, w_chain, w_isN, w_tup, w_lst, w_idx, wO_none, wO_some, w_slc, w_blt, w_nilE, w_consE, wTy_some, w_isi, wApp_ref, w_app, wStr_str, w_mt1, w_told, w_calls, wCall_some, MEs.len, d_lenC, d_lenT, wVar_some, wBl_bl, wIt_int, wK_nx, wK_rt, wK_bk, wK_ct, wTg_some, wRt_rt, wRt_nx, wNx_nx, wNx_ct, BK.f, CK.f, FK.f, MK.f, d_addI, d_subI, d_mulI, d_fdivI, d_modI, d_powI, d_addT, d_addS, d_eqI, d_neI, d_ltI, d_leI, d_gtI, d_geI, d_negI, d_int, d_absI, d_idxT, d_idxC, wIx_0, wIx_1, wIx_2, wIx_3, setTg_nm, setTg_tp, setTgs_nil, setTgs_nm, setTgs_tp, Option.bind_some, List.map_cons, List.map_nil, List.cons_append, List.nil_append, List.getElem?_cons_zero, List.getElem?_cons_succ, List.set_cons_zero, List.set_cons_succ, List.replicate_succ, List.replicate_zero, Nat.reduceSub, Nat.reduceAdd, if_true, if_false, Bool.false_eq_true, List.length_cons, List.length_nil, decide_eq_true_eq, Nat.reduceLeDiff, true_and]
    rw [w_cons, w_for, w_enum]
    have oo := o.more h (.lst [])
    have of : Own n S'.length S (S' ++ [LO.lst []]) [] := ⟨oo.t, o.t.len, by rw [List.getElem?_append_right (Nat.le_refl _), Nat.sub_self]; rfl⟩
    have hgl : S.length < S'.length := (List.getElem?_eq_some_iff.mp o.at_).1
    simp only [w_var, w_con, w_bin, w_neg, w_not, w_and, w_or, w_ite, w_cmp, w_chain, w_isN, w_tup, w_lst, w_idx, wO_none, wO_some, w_slc, w_blt, w_nilE, w_consE, wTy_some, w_isi, wApp_ref, w_app, wStr_str, w_mt1, w_told, w_calls, wCall_some, MEs.len, d_lenC, d_lenT, wVar_some, wBl_bl, wIt_int, wK_nx, wK_rt, wK_bk, wK_ct, wTg_some, wRt_rt, wRt_nx, wNx_nx, wNx_ct, BK.f, CK.f, FK.f, MK.f, d_addI, d_subI, d_mulI, d_fdivI, d_modI, d_powI, d_addT, d_addS, d_eqI, d_neI, d_ltI, d_leI, d_gtI, d_geI, d_negI, d_int, d_absI, d_idxT, d_idxC, wIx_0, wIx_1, wIx_2, wIx_3, setTg_nm, setTg_tp, setTgs_nil, setTgs_nm, setTgs_tp, Option.bind_some, List.map_cons, List.map_nil, List.cons_append, List.nil_append, List.getElem?_cons_zero, List.getElem?_cons_succ, List.set_cons_zero, List.set_cons_succ, List.replicate_succ, List.replicate_zero, Nat.reduceSub, Nat.reduceAdd, if_true, if_false, Bool.false_eq_true, List.length_cons, List.length_nil, decide_eq_true_eq, Nat.reduceLeDiff, true_and, d_enumR oo.at_]
    refine (forD_inv (fun j σ S'' => ∃ x4 x11 x12 fs, σ = [some (.ref n), some (.int hN), some (.int k), some (.ref S.length), x4, x5, some (.ref S'.length), x7, x8, x9, x10, x11, x12, none] ∧ Own n S.length S S'' gs ∧ Own n S'.length S S'' fs ∧ fs.length = j ∧ ∀ c ∈ fs, Cell hN c) _ 0 _ _ ⟨_, _, _, [], rfl, oo, of, rfl, fun c hc => by simp at hc⟩ (fun j σ S'' hI p hp => ?_) fun j d σ S'' hj hI => ?_).mono fun fl S'' hf => ?_
    · obtain ⟨x4, x11, x12, fs, rfl, q1, q2, _⟩ := hI
      have hp : p ∈ [(S.length, gs)] := hp
      rw [List.mem_singleton.mp hp]
      exact q1.at_
    · obtain ⟨x4, x11, x12, fs, rfl, q1, q2, hfl, hc⟩ := hI
      obtain ⟨y, hy, rfl⟩ := enum_at hj
      obtain ⟨w, p, rfl, c1, c2, c3, c4⟩ := hG j y hy
      have hj2 : j < gs.length := (List.getElem?_eq_some_iff.mp hy).1
      refine ⟨_, rfl, ?_⟩
      simp only [w_var, w_con, w_bin, w_neg, w_not, w_and, w_or, w_ite, w_cmp, w_chain, w_isN, w_tup, w_lst, w_idx, wO_none, wO_some, w_slc, w_blt, w_nilE, w_consE, wTy_some, w_isi, wApp_ref, w_app, wStr_str, w_mt1, w_told, w_calls, wCall_some, MEs.len, d_lenC, d_lenT, w_nil, w_cons, w_asg, w_sub, w_par, w_expr, w_ret, w_if, w_raise, w_pass, w_brk, w_cont, wVar_some, wBl_bl, wIt_int, wK_nx, wK_rt, wK_bk, wK_ct, wTg_some, wRt_rt, wRt_nx, wNx_nx, wNx_ct, BK.f, CK.f, FK.f, MK.f, d_addI, d_subI, d_mulI, d_fdivI, d_modI, d_powI, d_addT, d_addS, d_eqI, d_neI, d_ltI, d_leI, d_gtI, d_geI, d_negI, d_int, d_absI, d_idxT, d_idxC, wIx_0, wIx_1, wIx_2, wIx_3, setTg_nm, setTg_tp, setTgs_nil, setTgs_nm, setTgs_tp, Option.bind_some, List.map_cons, List.map_nil, List.cons_append, List.nil_append, List.getElem?_cons_zero, List.getElem?_cons_succ, List.set_cons_zero, List.set_cons_succ, List.replicate_succ, List.replicate_zero, Nat.reduceSub, Nat.reduceAdd, if_true, if_false, Bool.false_eq_true, List.length_cons, List.length_nil, decide_eq_true_eq, Nat.reduceLeDiff, true_and, d_app q2.at_ (show fs.length < 16777216 by omega)]
      refine ⟨⟨hh1, by omega⟩, hh1, _, _, _, _, rfl, q1.beside (by omega) (q2.ne h) q2.g0, q2.put h, by simp [hfl], fun c hcm => ?_⟩
      rcases List.mem_append.mp hcm with z | z
      · exact hc c z
      · rw [List.mem_singleton.mp z]
        refine .inr ⟨_, _, rfl, by omega, by omega, fun z => ?_⟩
        rw [z]
        simp
        omega
    · obtain ⟨σ, rfl, x4, x11, x12, fs, rfl, q1, q2, hfl, hc⟩ := hf
      rw [enum_len, Nat.zero_add] at hfl
      rw [wK_nx, w_cons, w_ret, w_blt, w_consE]
      refine (comp_tos (P := fun _ y => Beat hN y) k q1.t.sack ?_).mono fun v S3 hv => ?_
      · rw [w_range1]
        simp only [w_var, w_con, w_bin, w_neg, w_not, w_and, w_or, w_ite, w_cmp, w_chain, w_isN, w_tup, w_lst, w_idx, wO_none, wO_some, w_slc, w_blt, w_nilE, w_consE, wTy_some, w_isi, wApp_ref, w_app, wStr_str, w_mt1, w_told, w_calls, wCall_some, MEs.len, d_lenC, d_lenT, wVar_some, wBl_bl, wIt_int, wK_nx, wK_rt, wK_bk, wK_ct, wTg_some, wRt_rt, wRt_nx, wNx_nx, wNx_ct, BK.f, CK.f, FK.f, MK.f, d_addI, d_subI, d_mulI, d_fdivI, d_modI, d_powI, d_addT, d_addS, d_eqI, d_neI, d_ltI, d_leI, d_gtI, d_geI, d_negI, d_int, d_absI, d_idxT, d_idxC, wIx_0, wIx_1, wIx_2, wIx_3, setTg_nm, setTg_tp, setTgs_nil, setTgs_nm, setTgs_tp, Option.bind_some, List.map_cons, List.map_nil, List.cons_append, List.nil_append, List.getElem?_cons_zero, List.getElem?_cons_succ, List.set_cons_zero, List.set_cons_succ, List.replicate_succ, List.replicate_zero, Nat.reduceSub, Nat.reduceAdd, if_true, if_false, Bool.false_eq_true, List.length_cons, List.length_nil, decide_eq_true_eq, Nat.reduceLeDiff, true_and]
        refine ⟨⟨by omega, by omega⟩, Tos.refl q1.t.sack, fun S2 _ p hp => (by cases hp), by rw [range_len]; omega, by omega, fun j d S2 hj t2 => ⟨_, rfl, ?_⟩⟩
        obtain ⟨hj1, rfl⟩ := range_at hj
        have hj1 : j < k := by omega
        have q3 := q2.tos h t2
        simp only [w_var, w_con, w_bin, w_neg, w_not, w_and, w_or, w_ite, w_cmp, w_chain, w_isN, w_tup, w_lst, w_idx, wO_none, wO_some, w_slc, w_blt, w_nilE, w_consE, wTy_some, w_isi, wApp_ref, w_app, wStr_str, w_mt1, w_told, w_calls, wCall_some, MEs.len, d_lenC, d_lenT, wVar_some, wBl_bl, wIt_int, wK_nx, wK_rt, wK_bk, wK_ct, wTg_some, wRt_rt, wRt_nx, wNx_nx, wNx_ct, BK.f, CK.f, FK.f, MK.f, d_addI, d_subI, d_mulI, d_fdivI, d_modI, d_powI, d_addT, d_addS, d_eqI, d_neI, d_ltI, d_leI, d_gtI, d_geI, d_negI, d_int, d_absI, d_idxT, d_idxC, wIx_0, wIx_1, wIx_2, wIx_3, setTg_nm, setTg_tp, setTgs_nil, setTgs_nm, setTgs_tp, Option.bind_some, List.map_cons, List.map_nil, List.cons_append, List.nil_append, List.getElem?_cons_zero, List.getElem?_cons_succ, List.set_cons_zero, List.set_cons_succ, List.replicate_succ, List.replicate_zero, Nat.reduceSub, Nat.reduceAdd, if_true, if_false, Bool.false_eq_true, List.length_cons, List.length_nil, decide_eq_true_eq, Nat.reduceLeDiff, true_and, wipeD, d_slR q3.at_]
        have e1 : ((0 : Int) + (j : Nat)) * (hN : Int) = ((j * hN : Nat) : Int) := by rw [Int.zero_add]; push_cast; rfl
        have e2 : ((0 : Int) + (j : Nat)) * (hN : Int) + (hN : Int) = ((j * hN + hN : Nat) : Int) := by rw [Int.zero_add]; push_cast; rfl
        have hle : j * hN + hN ≤ fs.length := by
          rw [hfl, hlen]
          have : (j + 1) * hN ≤ k * hN := Nat.mul_le_mul_right _ hj1
          rw [Nat.succ_mul] at this
          exact this
        have lj : ((0 : Int) + (j : Nat)).natAbs.log2 < 20 := log2_lt' (by omega) (k := 19) (by
          have : (10 : Int) < 2 ^ 19 := by decide
          omega)
        have hm2 : ∀ l : LO, (S2 ++ [l])[S2.length]? = some l := fun l => by
          rw [List.getElem?_append_right (Nat.le_refl _), Nat.sub_self]
          rfl
        rw [e2, e1, cut_in (Nat.le_add_right _ _) hle, d_tupR (hm2 _)]
        refine ⟨by omega, by omega, ⟨_, rfl, ?_, fun c hcm => hc c (List.mem_of_mem_drop (List.mem_of_mem_take hcm))⟩, Tos.more t2.sack⟩
        rw [List.length_take, List.length_drop]
        simp
        omega
      · obtain ⟨m, acc, rfl, _, ha, hl, hP, t3⟩ := hv
        simp only [w_nilE, FK.f, d_tupR ha, wK_rt, wRt_rt]
        exact ⟨⟨acc, rfl, hl, all_at hP⟩, q1.t.trans t3⟩
  simp only [w_var, w_con, w_bin, w_neg, w_not, w_and, w_or, w_ite, w_cmp, w_chain, w_isN, w_tup, w_lst, w_idx, wO_none, wO_some, w_slc, w_blt, w_nilE, w_consE, wTy_some, w_isi, wApp_ref, w_app, wStr_str, w_mt1, w_told, w_calls, wCall_some, MEs.len, d_lenC, d_lenT, wVar_some, wBl_bl, wIt_int, wK_nx, wK_rt, wK_bk, wK_ct, wTg_some, wRt_rt, wRt_nx, wNx_nx, wNx_ct, BK.f, CK.f, FK.f, MK.f, d_addI, d_subI, d_mulI, d_fdivI, d_modI, d_powI, d_addT, d_addS, d_eqI, d_neI, d_ltI, d_leI, d_gtI, d_geI, d_negI, d_int, d_absI, d_idxT, d_idxC, wIx_0, wIx_1, wIx_2, wIx_3, setTg_nm, setTg_tp, setTgs_nil, setTgs_nm, setTgs_tp, Option.bind_some, List.map_cons, List.map_nil, List.cons_append, List.nil_append, List.getElem?_cons_zero, List.getElem?_cons_succ, List.set_cons_zero, List.set_cons_succ, List.replicate_succ, List.replicate_zero, Nat.reduceSub, Nat.reduceAdd, if_true, if_false, Bool.false_eq_true, List.length_cons, List.length_nil, decide_eq_true_eq, Nat.reduceLeDiff, true_and]
  have hm : (S1 ++ [LO.lst []])[S1.length]? = some (.lst []) := by
    rw [List.getElem?_append_right (Nat.le_refl _), Nat.sub_self]
    rfl
  have o2 := o.more h (.lst [])
  rw [neD_nil o2.at_ hm hG.pairs, wpR_ok]
  simp only [w_var, w_con, w_bin, w_neg, w_not, w_and, w_or, w_ite, w_cmp, w_chain, w_isN, w_tup, w_lst, w_idx, wO_none, wO_some, w_slc, w_blt, w_nilE, w_consE, wTy_some, w_isi, wApp_ref, w_app, wStr_str, w_mt1, w_told, w_calls, wCall_some, MEs.len, d_lenC, d_lenT, wVar_some, wBl_bl, wIt_int, wK_nx, wK_rt, wK_bk, wK_ct, wTg_some, wRt_rt, wRt_nx, wNx_nx, wNx_ct, BK.f, CK.f, FK.f, MK.f, d_addI, d_subI, d_mulI, d_fdivI, d_modI, d_powI, d_addT, d_addS, d_eqI, d_neI, d_ltI, d_leI, d_gtI, d_geI, d_negI, d_int, d_absI, d_idxT, d_idxC, wIx_0, wIx_1, wIx_2, wIx_3, setTg_nm, setTg_tp, setTgs_nil, setTgs_nm, setTgs_tp, Option.bind_some, List.map_cons, List.map_nil, List.cons_append, List.nil_append, List.getElem?_cons_zero, List.getElem?_cons_succ, List.set_cons_zero, List.set_cons_succ, List.replicate_succ, List.replicate_zero, Nat.reduceSub, Nat.reduceAdd, if_true, if_false, Bool.false_eq_true, List.length_cons, List.length_nil, decide_eq_true_eq, Nat.reduceLeDiff, true_and, q__law_even__law_toss]
  split
  · rename_i hne
    refine (toss o2.t.sack (by decide) (by decide)).mono fun v S2 hv => ?_
    obtain ⟨r, rfl, a1, a2, t⟩ := hv
    obtain ⟨w1, w2⟩ := loop2 r S2 a1 a2 (fun z => absurd z hne) (o2.tos h t)
    exact ⟨w1, w2.mono rest⟩
  · rename_i hne
    obtain ⟨w1, w2⟩ := loop2 0 _ (by decide) (by decide) (fun _ => rfl) o2
    exact ⟨w1, w2.mono rest⟩
end T

end
section
set_option Elab.async false
set_option linter.all false
set_option maxRecDepth 100000
set_option maxHeartbeats 4000000
set_option autoImplicit false
/-! Plain laws, part D: plans drawn. -/
namespace T
open PySem DV
section
variable {Φ : Tab} {σ : DV.Env} {S : Sto} {Q : D → Sto → Prop} {X : Str → Option (Str × D) → Sto → Prop} {QF : Fl → Sto → Prop}
theorem d_in2 {w a b : Int} : wpR (inB false (.int w) (.tup [.int a, .int b]) S) Q X = Q (.bl (decide (a = w) || decide (b = w))) S := by
  have e : inB false (.int w) (.tup [.int a, .int b]) S = .ok (.bl (decide (a = w) || decide (b = w))) S := by
    show (if (SeqAt.shaped (.int w) = true ∧ SeqAt.shaped (.tuple [.int a, .int b]) = true) then Res.ok (D.bl (xor false ([PyData.int a, .int b].any fun z => PyData.eqv z (.int w)))) S else .bad) = _
    rw [if_pos ⟨rfl, rfl⟩]
    have e1 : ∀ x y : Int, PyData.eqv (.int x) (.int y) = decide (x = y) := fun x y => by
      show (x == y) = _
      by_cases h : x = y <;> simp [h]
    simp only [List.any_cons, List.any_nil, e1, Bool.or_false, Bool.false_xor]
  rw [e, wpR_ok]
theorem d_setL1 {n : Nat} {xs : List D} {d : D} {Q : Unit → Sto → Prop} (h : S[n]? = some (.lst xs)) (hk : 1 < xs.length) : wpR (setD (.ref n) (.int 1) d S) Q X = Q () (S.set n (.lst (xs.set 1 d))) := d_setR (k := 1) h hk
theorem d_setL2 {n : Nat} {xs : List D} {d : D} {Q : Unit → Sto → Prop} (h : S[n]? = some (.lst xs)) (hk : 2 < xs.length) : wpR (setD (.ref n) (.int 2) d S) Q X = Q () (S.set n (.lst (xs.set 2 d))) := d_setR (k := 2) h hk
theorem d_idxL2 {n : Nat} {xs : List D} {y : D} (h : S[n]? = some (.lst xs)) (hy : xs[2]? = some y) : wpR (idxD (.ref n) (.int 2) S) Q X = Q y S := by
  rw [d_idxR h]
  exact wIx_nat (k := 2) hy
theorem d_mulT {xs : List D} {k : Int} (h1 : 1 ≤ k) (h2 : k ≤ 1000) (hx : xs ≠ []) (hl : xs.length ≤ 1000) : wpR (mulD (.tup xs) (.int k) S) Q X = Q (.tup (List.replicate k.toNat xs).flatten) S := by
  show wpR (if k = 1 then Res.ok (D.tup xs) S else if 2 ≤ k ∧ k ≤ 1000 ∧ xs.length ≤ 1000 ∧ xs ≠ [] then Res.ok (D.tup (List.replicate k.toNat xs).flatten) S else if k ≤ 0 ∧ -1000 ≤ k then .ok (.tup []) S else .bad) Q X = _
  by_cases h : k = 1
  · subst h
    rw [if_pos rfl, wpR_ok]
    simp
  · rw [if_neg h, if_pos ⟨by omega, h2, hl, hx⟩, wpR_ok]
end
def PartL (h : Int) (lo hi : Nat) (d : D) : Prop := ∃ k, lo ≤ k ∧ k ≤ hi ∧ Part h k d
def PlanD (d : D) : Prop := ∃ (hn : Int) (a b c : D), d = .tup [.int hn, a, b, c] ∧ (hn = 1 ∨ hn = 2) ∧ PartL hn 0 5 a ∧ PartL hn 1 5 b ∧ PartL hn 0 5 c
theorem beat_rep {hn : Int} {c : D} (hh : hn = 1 ∨ hn = 2) (hc : Cell hn c) : Beat hn (.tup (List.replicate hn.toNat [c]).flatten) := by
  refine ⟨_, rfl, ?_, fun x hx => ?_⟩
  · rcases hh with rfl | rfl <;> rfl
  · have : x = c := by
      rcases hh with rfl | rfl <;> simpa using hx
    rw [this]
    exact hc
theorem part_of {h : Int} {bs : List D} (hb : ∀ b ∈ bs, Beat h b) : Part h bs.length (.tup bs) := ⟨bs, rfl, rfl, hb⟩
theorem cut_last {xs : List D} : cutD xs none (some (-1)) = xs.take (xs.length - 1) := by
  unfold cutD
  rw [HT.sIx_none, List.drop_zero]
  have e : HT.sIx xs.length xs.length (some (-1)) = xs.length - 1 := by
    show (if (-1 : Int) < 0 then ((-1 : Int) + (xs.length : Int)).toNat else min (-1 : Int).toNat xs.length) = _
    rw [if_pos (by decide)]
    omega
  rw [e]
  rfl
/-- the parts stay parts -/
structure Parts (h : Int) (xs : List D) : Prop where
  ex : ∃ a b c, xs = [a, b, c] ∧ PartL h 0 5 a ∧ PartL h 1 5 b ∧ PartL h 0 5 c
theorem Parts.set {h : Int} {xs : List D} (p : Parts h xs) {i : Nat} {y : D} (hi : i < 3) (hy : PartL h 1 5 y) : Parts h (xs.set i y) := by
  obtain ⟨a, b, c, rfl, p1, p2, p3⟩ := p.ex
  have hy0 : PartL h 0 5 y := by
    obtain ⟨k, k1, k2, k3⟩ := hy
    exact ⟨k, Nat.zero_le _, k2, k3⟩
  match i, hi with
  | 0, _ => exact ⟨y, b, c, rfl, hy0, p2, p3⟩
  | 1, _ => exact ⟨a, y, c, rfl, p1, hy, p3⟩
  | 2, _ => exact ⟨a, b, y, rfl, p1, p2, hy0⟩
theorem Parts.at_ {h : Int} {xs : List D} (p : Parts h xs) {i : Nat} (hi : i < 3) : ∃ y, xs[i]? = some y ∧ PartL h 0 5 y := by
  obtain ⟨a, b, c, rfl, p1, ⟨k, _, k2, k3⟩, p3⟩ := p.ex
  match i, hi with
  | 0, _ => exact ⟨a, rfl, p1⟩
  | 1, _ => exact ⟨b, rfl, k, Nat.zero_le _, k2, k3⟩
  | 2, _ => exact ⟨c, rfl, p3⟩
theorem Parts.len {h : Int} {xs : List D} (p : Parts h xs) : xs.length = 3 := by
  obtain ⟨a, b, c, rfl, _⟩ := p.ex
  rfl
/-- the parts, by a def that makes a part of each size -/
theorem parts_comp {Φ : Tab} {x : Str} {den : Den} {n l : Nat} {S0 S : Sto} {hn : Int} {s0 s1 s2 : Nat} {x2 x3 x5 x6 : Option D} (hq : Tab.of Φ 3 x = some den) (h0 : Sack S0 n) (h1 : s0 < 4) (h2 : 1 ≤ s1) (h3 : s1 < 5) (h4 : s2 < 4)
    (hd : ∀ (k : Nat) (S : Sto), k < 10 → Sack S n → wpR (den [.ref n, .int hn, .int k] S) (fun v S2 => Part hn k v ∧ Tos n S S2) noX) (o : Own n l S0 S [.int s0, .int s1, .int s2]) :
    wpR (evE Φ (.comp (.val (.var 1)) (.nm 6) [6] .none (.call x (.cons (.var 0) (.cons (.var 4) (.cons (.var 6) .nil))))) [some (.ref n), some (.ref l), x2, x3, some (.int hn), x5, x6] S)
      (fun v S' => ∃ m ps, v = .ref m ∧ m ≠ l ∧ Own n l S0 S' [.int s0, .int s1, .int s2] ∧ Own n m S0 S' ps ∧ Parts hn ps) noX := by
  have hlt : l < S.length := (List.getElem?_eq_some_iff.mp o.at_).1
  refine (comp_tos (P := fun j y => ∃ k, [s0, s1, s2][j]? = some k ∧ Part hn k y) 3 o.t.sack ?_).mono fun v S' hv => ?_
  · rw [w_val]
    simp only [w_var, w_con, w_bin, w_neg, w_not, w_and, w_or, w_ite, w_cmp, w_chain, w_isN, w_tup, w_lst, w_idx, wO_none, wO_some, w_slc, w_blt, w_nilE, w_consE, wTy_some, w_isi, wApp_ref, w_app, wStr_str, w_mt1, w_told, w_calls, wCall_some, MEs.len, d_lenC, d_lenT, wVar_some, wBl_bl, wIt_int, wK_nx, wK_rt, wK_bk, wK_ct, wTg_some, wRt_rt, wRt_nx, wNx_nx, wNx_ct, BK.f, CK.f, FK.f, MK.f, d_addI, d_subI, d_mulI, d_fdivI, d_modI, d_powI, d_addT, d_addS, d_eqI, d_neI, d_ltI, d_leI, d_gtI, d_geI, d_negI, d_int, d_absI, d_idxT, d_idxC, wIx_0, wIx_1, wIx_2, wIx_3, setTg_nm, setTg_tp, setTgs_nil, setTgs_nm, setTgs_tp, Option.bind_some, List.map_cons, List.map_nil, List.cons_append, List.nil_append, List.getElem?_cons_zero, List.getElem?_cons_succ, List.set_cons_zero, List.set_cons_succ, List.replicate_succ, List.replicate_zero, Nat.reduceSub, Nat.reduceAdd, if_true, if_false, Bool.false_eq_true, List.length_cons, List.length_nil, decide_eq_true_eq, Nat.reduceLeDiff, true_and, d_walkR o.at_]
    refine ⟨Tos.refl o.t.sack, fun S2 t2 p hp => ?_, by decide, fun j d S2 hj t2 => ⟨_, rfl, ?_⟩⟩
    · have hp : p ∈ [(l, [D.int s0, .int s1, .int s2])] := hp
      rw [List.mem_singleton.mp hp]
      exact (o.tos h0 t2).at_
    · simp only [w_var, w_con, w_bin, w_neg, w_not, w_and, w_or, w_ite, w_cmp, w_chain, w_isN, w_tup, w_lst, w_idx, wO_none, wO_some, w_slc, w_blt, w_nilE, w_consE, wTy_some, w_isi, wApp_ref, w_app, wStr_str, w_mt1, w_told, w_calls, wCall_some, MEs.len, d_lenC, d_lenT, wVar_some, wBl_bl, wIt_int, wK_nx, wK_rt, wK_bk, wK_ct, wTg_some, wRt_rt, wRt_nx, wNx_nx, wNx_ct, BK.f, CK.f, FK.f, MK.f, d_addI, d_subI, d_mulI, d_fdivI, d_modI, d_powI, d_addT, d_addS, d_eqI, d_neI, d_ltI, d_leI, d_gtI, d_geI, d_negI, d_int, d_absI, d_idxT, d_idxC, wIx_0, wIx_1, wIx_2, wIx_3, setTg_nm, setTg_tp, setTgs_nil, setTgs_nm, setTgs_tp, Option.bind_some, List.map_cons, List.map_nil, List.cons_append, List.nil_append, List.getElem?_cons_zero, List.getElem?_cons_succ, List.set_cons_zero, List.set_cons_succ, List.replicate_succ, List.replicate_zero, Nat.reduceSub, Nat.reduceAdd, if_true, if_false, Bool.false_eq_true, List.length_cons, List.length_nil, decide_eq_true_eq, Nat.reduceLeDiff, true_and, wipeD, hq]
      have key : ∃ k, [s0, s1, s2][j]? = some k ∧ k < 10 ∧ d = .int k := by
        match j, hj with
        | 0, hj => cases hj; exact ⟨s0, rfl, by omega, rfl⟩
        | 1, hj => cases hj; exact ⟨s1, rfl, by omega, rfl⟩
        | 2, hj => cases hj; exact ⟨s2, rfl, by omega, rfl⟩
        | j + 3, hj => simp at hj
      obtain ⟨k, hk, hk2, rfl⟩ := key
      exact (hd k S2 hk2 t2.sack).mono fun v S3 hv => ⟨⟨k, hk, hv.1⟩, hv.2⟩
  · obtain ⟨m, acc, rfl, hm, ha, hl, hP, t⟩ := hv
    have hml : m ≠ l := by omega
    refine ⟨m, acc, rfl, hml, o.tos h0 t, ⟨o.t.trans t, Nat.le_trans o.t.len hm, ha⟩, ?_⟩
    match acc, hl with
    | [a, b, c], _ =>
      obtain ⟨k0, e0, p0⟩ := hP 0 a rfl
      obtain ⟨k1, e1, p1⟩ := hP 1 b rfl
      obtain ⟨k2, e2, p2⟩ := hP 2 c rfl
      cases e0
      cases e1
      cases e2
      exact ⟨a, b, c, rfl, ⟨_, Nat.zero_le _, by omega, p0⟩, ⟨_, h2, by omega, p1⟩, ⟨_, Nat.zero_le _, by omega, p2⟩⟩
theorem drawn_ {n : Nat} {S : Sto} (h : Sack S n) : wpR (d__law_drawn [.ref n] S) (fun v S2 => PlanD v ∧ Tos n S S2) noX := by
  unfold d__law_drawn
  refine den_wp rfl ?_
  unfold m__law_drawn
  rw [w_cons, w_asg]
  try simp only [w_var, w_con, w_bin, w_neg, w_not, w_and, w_or, w_ite, w_cmp, w_chain, w_isN, w_tup, w_lst, w_idx, wO_none, wO_some, w_slc, w_blt, w_nilE, w_consE, wTy_some, w_isi, wApp_ref, w_app, wStr_str, w_mt1, w_told, w_calls, wCall_some, MEs.len, d_lenC, d_lenT, wVar_some, wBl_bl, wIt_int, wK_nx, wK_rt, wK_bk, wK_ct, wTg_some, wRt_rt, wRt_nx, wNx_nx, wNx_ct, BK.f, CK.f, FK.f, MK.f, d_addI, d_subI, d_mulI, d_fdivI, d_modI, d_powI, d_addT, d_addS, d_eqI, d_neI, d_ltI, d_leI, d_gtI, d_geI, d_negI, d_int, d_absI, d_idxT, d_idxC, wIx_0, wIx_1, wIx_2, wIx_3, setTg_nm, setTg_tp, setTgs_nil, setTgs_nm, setTgs_tp, Option.bind_some, List.map_cons, List.map_nil, List.cons_append, List.nil_append, List.getElem?_cons_zero, List.getElem?_cons_succ, List.set_cons_zero, List.set_cons_succ, List.replicate_succ, List.replicate_zero, Nat.reduceSub, Nat.reduceAdd, if_true, if_false, Bool.false_eq_true, List.length_cons, List.length_nil, decide_eq_true_eq, Nat.reduceLeDiff, true_and, q__law_drawn__law_toss]
  refine (toss h (by decide) (by decide)).mono fun v S1 hv => ?_
  obtain ⟨h0, rfl, a1, a2, t1⟩ := hv
  try simp only [w_var, w_con, w_bin, w_neg, w_not, w_and, w_or, w_ite, w_cmp, w_chain, w_isN, w_tup, w_lst, w_idx, wO_none, wO_some, w_slc, w_blt, w_nilE, w_consE, wTy_some, w_isi, wApp_ref, w_app, wStr_str, w_mt1, w_told, w_calls, wCall_some, MEs.len, d_lenC, d_lenT, wVar_some, wBl_bl, wIt_int, wK_nx, wK_rt, wK_bk, wK_ct, wTg_some, wRt_rt, wRt_nx, wNx_nx, wNx_ct, BK.f, CK.f, FK.f, MK.f, d_addI, d_subI, d_mulI, d_fdivI, d_modI, d_powI, d_addT, d_addS, d_eqI, d_neI, d_ltI, d_leI, d_gtI, d_geI, d_negI, d_int, d_absI, d_idxT, d_idxC, wIx_0, wIx_1, wIx_2, wIx_3, setTg_nm, setTg_tp, setTgs_nil, setTgs_nm, setTgs_tp, Option.bind_some, List.map_cons, List.map_nil, List.cons_append, List.nil_append, List.getElem?_cons_zero, List.getElem?_cons_succ, List.set_cons_zero, List.set_cons_succ, List.replicate_succ, List.replicate_zero, Nat.reduceSub, Nat.reduceAdd, if_true, if_false, Bool.false_eq_true, List.length_cons, List.length_nil, decide_eq_true_eq, Nat.reduceLeDiff, true_and, q__law_drawn__law_toss]
  refine (toss t1.sack (by decide) (by decide)).mono fun v S2 hv => ?_
  obtain ⟨way, rfl, a3, a4, t2⟩ := hv
  have hh : 1 + h0 = 1 ∨ 1 + h0 = 2 := by omega
  generalize 1 + h0 = hn at hh ⊢
  have T2 := t1.trans t2
  rw [w_cons, w_asg]
  try simp only [w_var, w_con, w_bin, w_neg, w_not, w_and, w_or, w_ite, w_cmp, w_chain, w_isN, w_tup, w_lst, w_idx, wO_none, wO_some, w_slc, w_blt, w_nilE, w_consE, wTy_some, w_isi, wApp_ref, w_app, wStr_str, w_mt1, w_told, w_calls, wCall_some, MEs.len, d_lenC, d_lenT, wVar_some, wBl_bl, wIt_int, wK_nx, wK_rt, wK_bk, wK_ct, wTg_some, wRt_rt, wRt_nx, wNx_nx, wNx_ct, BK.f, CK.f, FK.f, MK.f, d_addI, d_subI, d_mulI, d_fdivI, d_modI, d_powI, d_addT, d_addS, d_eqI, d_neI, d_ltI, d_leI, d_gtI, d_geI, d_negI, d_int, d_absI, d_idxT, d_idxC, wIx_0, wIx_1, wIx_2, wIx_3, setTg_nm, setTg_tp, setTgs_nil, setTgs_nm, setTgs_tp, Option.bind_some, List.map_cons, List.map_nil, List.cons_append, List.nil_append, List.getElem?_cons_zero, List.getElem?_cons_succ, List.set_cons_zero, List.set_cons_succ, List.replicate_succ, List.replicate_zero, Nat.reduceSub, Nat.reduceAdd, if_true, if_false, Bool.false_eq_true, List.length_cons, List.length_nil, decide_eq_true_eq, Nat.reduceLeDiff, true_and, q__law_drawn__law_toss]
  refine (toss T2.sack (by decide) (by decide)).mono fun v S3 hv => ?_
  obtain ⟨r0, rfl, b1, b2, t3⟩ := hv
  try simp only [w_var, w_con, w_bin, w_neg, w_not, w_and, w_or, w_ite, w_cmp, w_chain, w_isN, w_tup, w_lst, w_idx, wO_none, wO_some, w_slc, w_blt, w_nilE, w_consE, wTy_some, w_isi, wApp_ref, w_app, wStr_str, w_mt1, w_told, w_calls, wCall_some, MEs.len, d_lenC, d_lenT, wVar_some, wBl_bl, wIt_int, wK_nx, wK_rt, wK_bk, wK_ct, wTg_some, wRt_rt, wRt_nx, wNx_nx, wNx_ct, BK.f, CK.f, FK.f, MK.f, d_addI, d_subI, d_mulI, d_fdivI, d_modI, d_powI, d_addT, d_addS, d_eqI, d_neI, d_ltI, d_leI, d_gtI, d_geI, d_negI, d_int, d_absI, d_idxT, d_idxC, wIx_0, wIx_1, wIx_2, wIx_3, setTg_nm, setTg_tp, setTgs_nil, setTgs_nm, setTgs_tp, Option.bind_some, List.map_cons, List.map_nil, List.cons_append, List.nil_append, List.getElem?_cons_zero, List.getElem?_cons_succ, List.set_cons_zero, List.set_cons_succ, List.replicate_succ, List.replicate_zero, Nat.reduceSub, Nat.reduceAdd, if_true, if_false, Bool.false_eq_true, List.length_cons, List.length_nil, decide_eq_true_eq, Nat.reduceLeDiff, true_and, q__law_drawn__law_toss]
  refine (toss t3.sack (by decide) (by decide)).mono fun v S4 hv => ?_
  obtain ⟨r1, rfl, c1, c2, t4⟩ := hv
  try simp only [w_var, w_con, w_bin, w_neg, w_not, w_and, w_or, w_ite, w_cmp, w_chain, w_isN, w_tup, w_lst, w_idx, wO_none, wO_some, w_slc, w_blt, w_nilE, w_consE, wTy_some, w_isi, wApp_ref, w_app, wStr_str, w_mt1, w_told, w_calls, wCall_some, MEs.len, d_lenC, d_lenT, wVar_some, wBl_bl, wIt_int, wK_nx, wK_rt, wK_bk, wK_ct, wTg_some, wRt_rt, wRt_nx, wNx_nx, wNx_ct, BK.f, CK.f, FK.f, MK.f, d_addI, d_subI, d_mulI, d_fdivI, d_modI, d_powI, d_addT, d_addS, d_eqI, d_neI, d_ltI, d_leI, d_gtI, d_geI, d_negI, d_int, d_absI, d_idxT, d_idxC, wIx_0, wIx_1, wIx_2, wIx_3, setTg_nm, setTg_tp, setTgs_nil, setTgs_nm, setTgs_tp, Option.bind_some, List.map_cons, List.map_nil, List.cons_append, List.nil_append, List.getElem?_cons_zero, List.getElem?_cons_succ, List.set_cons_zero, List.set_cons_succ, List.replicate_succ, List.replicate_zero, Nat.reduceSub, Nat.reduceAdd, if_true, if_false, Bool.false_eq_true, List.length_cons, List.length_nil, decide_eq_true_eq, Nat.reduceLeDiff, true_and, q__law_drawn__law_toss]
  refine (toss t4.sack (by decide) (by decide)).mono fun v S5 hv => ?_
  obtain ⟨r2, rfl, d1, d2, t5⟩ := hv
  obtain ⟨s0, rfl⟩ := Int.eq_ofNat_of_zero_le b1
  obtain ⟨s1, e1⟩ := Int.eq_ofNat_of_zero_le (show 0 ≤ 1 + r1 by omega)
  obtain ⟨s2, rfl⟩ := Int.eq_ofNat_of_zero_le d1
  rw [e1]
  try simp only [w_var, w_con, w_bin, w_neg, w_not, w_and, w_or, w_ite, w_cmp, w_chain, w_isN, w_tup, w_lst, w_idx, wO_none, wO_some, w_slc, w_blt, w_nilE, w_consE, wTy_some, w_isi, wApp_ref, w_app, wStr_str, w_mt1, w_told, w_calls, wCall_some, MEs.len, d_lenC, d_lenT, wVar_some, wBl_bl, wIt_int, wK_nx, wK_rt, wK_bk, wK_ct, wTg_some, wRt_rt, wRt_nx, wNx_nx, wNx_ct, BK.f, CK.f, FK.f, MK.f, d_addI, d_subI, d_mulI, d_fdivI, d_modI, d_powI, d_addT, d_addS, d_eqI, d_neI, d_ltI, d_leI, d_gtI, d_geI, d_negI, d_int, d_absI, d_idxT, d_idxC, wIx_0, wIx_1, wIx_2, wIx_3, setTg_nm, setTg_tp, setTgs_nil, setTgs_nm, setTgs_tp, Option.bind_some, List.map_cons, List.map_nil, List.cons_append, List.nil_append, List.getElem?_cons_zero, List.getElem?_cons_succ, List.set_cons_zero, List.set_cons_succ, List.replicate_succ, List.replicate_zero, Nat.reduceSub, Nat.reduceAdd, if_true, if_false, Bool.false_eq_true, List.length_cons, List.length_nil, decide_eq_true_eq, Nat.reduceLeDiff, true_and]
  have T5 := ((T2.trans t3).trans t4).trans t5
  have o1 : Own n S5.length S (S5 ++ [.lst [.int s0, .int s1, .int s2]]) [.int s0, .int s1, .int s2] := ⟨T5.trans (Tos.more T5.sack), T5.len, by rw [List.getElem?_append_right (Nat.le_refl _), Nat.sub_self]; rfl⟩
  rw [w_cons, w_asg]
  refine (parts_comp (Φ := Φ__law_drawn) (x3 := none) q__law_drawn__law_even h (by omega) (by omega) (by omega) (by omega) (fun k S hk hS => even_ hS hh hk) o1).mono fun v S6 hv => ?_
  obtain ⟨m, ps, rfl, hml, o2, p2, P2⟩ := hv
  try simp only [w_var, w_con, w_bin, w_neg, w_not, w_and, w_or, w_ite, w_cmp, w_chain, w_isN, w_tup, w_lst, w_idx, wO_none, wO_some, w_slc, w_blt, w_nilE, w_consE, wTy_some, w_isi, wApp_ref, w_app, wStr_str, w_mt1, w_told, w_calls, wCall_some, MEs.len, d_lenC, d_lenT, wVar_some, wBl_bl, wIt_int, wK_nx, wK_rt, wK_bk, wK_ct, wTg_some, wRt_rt, wRt_nx, wNx_nx, wNx_ct, BK.f, CK.f, FK.f, MK.f, d_addI, d_subI, d_mulI, d_fdivI, d_modI, d_powI, d_addT, d_addS, d_eqI, d_neI, d_ltI, d_leI, d_gtI, d_geI, d_negI, d_int, d_absI, d_idxT, d_idxC, wIx_0, wIx_1, wIx_2, wIx_3, setTg_nm, setTg_tp, setTgs_nil, setTgs_nm, setTgs_tp, Option.bind_some, List.map_cons, List.map_nil, List.cons_append, List.nil_append, List.getElem?_cons_zero, List.getElem?_cons_succ, List.set_cons_zero, List.set_cons_succ, List.replicate_succ, List.replicate_zero, Nat.reduceSub, Nat.reduceAdd, if_true, if_false, Bool.false_eq_true, List.length_cons, List.length_nil, decide_eq_true_eq, Nat.reduceLeDiff, true_and]
  -- the last steps
  have three : ∀ {i : Int}, 0 ≤ i → i < 3 → ∃ k : Nat, i = k ∧ k < 3 := fun {i} h1 h2 => by
    obtain ⟨k, rfl⟩ := Int.eq_ofNat_of_zero_le h1
    exact ⟨k, rfl, by omega⟩
  have fin : ∀ (m : Nat) (ps : List D) (S' : Sto) (x3 : Option D), Own n m S S' ps → Parts hn ps → wpR (evSs Φ__law_drawn [.ret (.tup (.cons (.var 4) (.cons (.idx (.var 2) (.con (.int 0))) (.cons (.idx (.var 2) (.con (.int 1))) (.cons (.idx (.var 2) (.con (.int 2))) .nil)))))] [some (.ref n), some (.ref S5.length), some (.ref m), x3, some (.int hn), some (.int way), none] S') (wRt fun v S2 => PlanD v ∧ Tos n S S2) noX := by
    intro m ps S' x3 o p
    obtain ⟨a, b, c, rfl, p1, p2, p3⟩ := p.ex
    simp only [w_var, w_con, w_bin, w_neg, w_not, w_and, w_or, w_ite, w_cmp, w_chain, w_isN, w_tup, w_lst, w_idx, wO_none, wO_some, w_slc, w_blt, w_nilE, w_consE, wTy_some, w_isi, wApp_ref, w_app, wStr_str, w_mt1, w_told, w_calls, wCall_some, MEs.len, d_lenC, d_lenT, w_nil, w_cons, w_asg, w_sub, w_par, w_expr, w_ret, w_if, w_raise, w_pass, w_brk, w_cont, wVar_some, wBl_bl, wIt_int, wK_nx, wK_rt, wK_bk, wK_ct, wTg_some, wRt_rt, wRt_nx, wNx_nx, wNx_ct, BK.f, CK.f, FK.f, MK.f, d_addI, d_subI, d_mulI, d_fdivI, d_modI, d_powI, d_addT, d_addS, d_eqI, d_neI, d_ltI, d_leI, d_gtI, d_geI, d_negI, d_int, d_absI, d_idxT, d_idxC, wIx_0, wIx_1, wIx_2, wIx_3, setTg_nm, setTg_tp, setTgs_nil, setTgs_nm, setTgs_tp, Option.bind_some, List.map_cons, List.map_nil, List.cons_append, List.nil_append, List.getElem?_cons_zero, List.getElem?_cons_succ, List.set_cons_zero, List.set_cons_succ, List.replicate_succ, List.replicate_zero, Nat.reduceSub, Nat.reduceAdd, if_true, if_false, Bool.false_eq_true, List.length_cons, List.length_nil, decide_eq_true_eq, Nat.reduceLeDiff, true_and, d_idxR o.at_]
    exact ⟨⟨hn, a, b, c, rfl, hh, p1, p2, p3⟩, o.t⟩
  have hn1 : 1 ≤ hn ∧ hn ≤ 2 := by omega
  have mP : ∀ S Q, wpR (mulD (.tup [.tup [.int 1, .bl false]]) (.int hn) S) Q noX = Q (.tup (List.replicate hn.toNat [D.tup [.int 1, .bl false]]).flatten) S := fun S Q => d_mulT hn1.1 (by omega) (by simp) (by simp)
  have mN : ∀ S Q, wpR (mulD (.tup [.non]) (.int hn) S) Q noX = Q (.tup (List.replicate hn.toNat [D.non]).flatten) S := fun S Q => d_mulT hn1.1 (by omega) (by simp) (by simp)
  have m4 : ∀ y S Q, wpR (mulD (.tup [y]) (.int 4) S) Q noX = Q (.tup [y, y, y, y]) S := fun y S Q => d_mulT (by decide) (by decide) (by simp) (by simp)
  have bP : Beat hn (.tup (List.replicate hn.toNat [D.tup [.int 1, .bl false]]).flatten) := beat_rep hh (.inr ⟨1, false, rfl, by decide, by decide, fun _ => rfl⟩)
  have bN : Beat hn (.tup (List.replicate hn.toNat [D.non]).flatten) := beat_rep hh (.inl rfl)
  generalize hvP : D.tup (List.replicate hn.toNat [D.tup [.int 1, .bl false]]).flatten = vP at mP bP
  generalize hvN : D.tup (List.replicate hn.toNat [D.non]).flatten = vN at mN bN
  have szl : ∀ k : Nat, k ≤ 1000 → k ≤ sizeLine := fun k hk => Nat.le_trans hk (by rw [sizeLine_eq]; decide)
  have step5 : ∀ (m : Nat) (ps : List D) (S' : Sto) (x3 : Option D), Own n m S S' ps → Parts hn ps → wpR (evSs Φ__law_drawn [.ifS (.cmp .eq (.var 5) (.con (.int 5))) [.sub (.var 2) (.con (.int 1)) (.bin .add (.bin .mul (.tup (.cons (.bin .mul (.tup (.cons (.tup (.cons (.con (.int 1)) (.cons (.con (.bl false)) .nil))) .nil)) (.var 4)) .nil)) (.con (.int 4))) (.tup (.cons (.bin .mul (.tup (.cons (.con .non) .nil)) (.var 4)) .nil)))] [],
  .ret (.tup (.cons (.var 4) (.cons (.idx (.var 2) (.con (.int 0))) (.cons (.idx (.var 2) (.con (.int 1))) (.cons (.idx (.var 2) (.con (.int 2))) .nil)))))] [some (.ref n), some (.ref S5.length), some (.ref m), x3, some (.int hn), some (.int way), none] S') (wRt fun v S2 => PlanD v ∧ Tos n S S2) noX := by
    intro m ps S' x3 o p
    rw [w_cons, w_if]
    simp only [w_var, w_con, w_bin, w_neg, w_not, w_and, w_or, w_ite, w_cmp, w_chain, w_isN, w_tup, w_lst, w_idx, wO_none, wO_some, w_slc, w_blt, w_nilE, w_consE, wTy_some, w_isi, wApp_ref, w_app, wStr_str, w_mt1, w_told, w_calls, wCall_some, MEs.len, d_lenC, d_lenT, wVar_some, wBl_bl, wIt_int, wK_nx, wK_rt, wK_bk, wK_ct, wTg_some, wRt_rt, wRt_nx, wNx_nx, wNx_ct, BK.f, CK.f, FK.f, MK.f, d_addI, d_subI, d_mulI, d_fdivI, d_modI, d_powI, d_addT, d_addS, d_eqI, d_neI, d_ltI, d_leI, d_gtI, d_geI, d_negI, d_int, d_absI, d_idxT, d_idxC, wIx_0, wIx_1, wIx_2, wIx_3, setTg_nm, setTg_tp, setTgs_nil, setTgs_nm, setTgs_tp, Option.bind_some, List.map_cons, List.map_nil, List.cons_append, List.nil_append, List.getElem?_cons_zero, List.getElem?_cons_succ, List.set_cons_zero, List.set_cons_succ, List.replicate_succ, List.replicate_zero, Nat.reduceSub, Nat.reduceAdd, if_true, if_false, Bool.false_eq_true, List.length_cons, List.length_nil, decide_eq_true_eq, Nat.reduceLeDiff, true_and]
    refine iteI (fun _ => ?_) fun _ => ?_
    · rw [w_cons, w_sub]
      simp only [w_var, w_con, w_bin, w_neg, w_not, w_and, w_or, w_ite, w_cmp, w_chain, w_isN, w_tup, w_lst, w_idx, wO_none, wO_some, w_slc, w_blt, w_nilE, w_consE, wTy_some, w_isi, wApp_ref, w_app, wStr_str, w_mt1, w_told, w_calls, wCall_some, MEs.len, d_lenC, d_lenT, wVar_some, wBl_bl, wIt_int, wK_nx, wK_rt, wK_bk, wK_ct, wTg_some, wRt_rt, wRt_nx, wNx_nx, wNx_ct, BK.f, CK.f, FK.f, MK.f, d_addI, d_subI, d_mulI, d_fdivI, d_modI, d_powI, d_addT, d_addS, d_eqI, d_neI, d_ltI, d_leI, d_gtI, d_geI, d_negI, d_int, d_absI, d_idxT, d_idxC, wIx_0, wIx_1, wIx_2, wIx_3, setTg_nm, setTg_tp, setTgs_nil, setTgs_nm, setTgs_tp, Option.bind_some, List.map_cons, List.map_nil, List.cons_append, List.nil_append, List.getElem?_cons_zero, List.getElem?_cons_succ, List.set_cons_zero, List.set_cons_succ, List.replicate_succ, List.replicate_zero, Nat.reduceSub, Nat.reduceAdd, if_true, if_false, Bool.false_eq_true, List.length_cons, List.length_nil, decide_eq_true_eq, Nat.reduceLeDiff, true_and, mP, mN, m4]
      refine ⟨szl _ (by decide), ?_⟩
      rw [d_setL1 o.at_ (by rw [p.len]; decide), w_nil, wK_nx]
      exact fin m _ _ x3 (o.put h) (p.set (i := 1) (by decide) ⟨5, by decide, by decide, part_of (bs := [vP, vP, vP, vP, vN]) (fun b hb => by
        simp only [List.mem_cons, List.not_mem_nil, or_false] at hb
        rcases hb with rfl | rfl | rfl | rfl | rfl <;> assumption)⟩)
    · rw [w_nil, wK_nx]
      exact fin m ps S' x3 o p
  have sl1 : ∀ {d : D} {S : Sto} {Q : D → Sto → Prop}, PartL hn 0 5 d → (∀ bs : List D, (∀ b ∈ bs, Beat hn b) → bs.length ≤ 4 → Q (.tup bs) S) → wpR (slD d none (some (-1)) S) Q noX := by
    intro d S Q hd hQ
    obtain ⟨k, _, hk, bs, rfl, hl, hb⟩ := hd
    rw [d_slT, cut_last]
    exact hQ _ (fun b hb' => hb b (List.mem_of_mem_take hb')) (by rw [List.length_take]; omega)
  have step4 : ∀ (m : Nat) (ps : List D) (S' : Sto) (x3 : Option D), m ≠ S5.length → Own n S5.length S S' [.int s0, .int s1, .int s2] → Own n m S S' ps → Parts hn ps → wpR (evSs Φ__law_drawn [.ifS (.and (.cmp .isin (.var 5) (.tup (.cons (.con (.int 3)) (.cons (.con (.int 4)) .nil)))) (.cmp .gt (.idx (.var 1) (.con (.int 2))) (.con (.int 0)))) [.sub (.var 2) (.con (.int 2)) (.bin .add (.slc (.idx (.var 2) (.con (.int 2))) .none (.some (.neg (.con (.int 1))))) (.tup (.cons (.bin .mul (.tup (.cons (.con .non) .nil)) (.var 4)) .nil))),
  .sub (.var 2) (.con (.int 1)) (.tup (.cons (.bin .mul (.tup (.cons (.tup (.cons (.con (.int 1)) (.cons (.con (.bl false)) .nil))) .nil)) (.var 4)) .nil))] [],
  .ifS (.cmp .eq (.var 5) (.con (.int 5))) [.sub (.var 2) (.con (.int 1)) (.bin .add (.bin .mul (.tup (.cons (.bin .mul (.tup (.cons (.tup (.cons (.con (.int 1)) (.cons (.con (.bl false)) .nil))) .nil)) (.var 4)) .nil)) (.con (.int 4))) (.tup (.cons (.bin .mul (.tup (.cons (.con .non) .nil)) (.var 4)) .nil)))] [],
  .ret (.tup (.cons (.var 4) (.cons (.idx (.var 2) (.con (.int 0))) (.cons (.idx (.var 2) (.con (.int 1))) (.cons (.idx (.var 2) (.con (.int 2))) .nil)))))] [some (.ref n), some (.ref S5.length), some (.ref m), x3, some (.int hn), some (.int way), none] S') (wRt fun v S2 => PlanD v ∧ Tos n S S2) noX := by
    intro m ps S' x3 hml ol o p
    rw [w_cons, w_if]
    simp only [w_var, w_con, w_bin, w_neg, w_not, w_and, w_or, w_ite, w_cmp, w_chain, w_isN, w_tup, w_lst, w_idx, wO_none, wO_some, w_slc, w_blt, w_nilE, w_consE, wTy_some, w_isi, wApp_ref, w_app, wStr_str, w_mt1, w_told, w_calls, wCall_some, MEs.len, d_lenC, d_lenT, wVar_some, wBl_bl, wIt_int, wK_nx, wK_rt, wK_bk, wK_ct, wTg_some, wRt_rt, wRt_nx, wNx_nx, wNx_ct, BK.f, CK.f, FK.f, MK.f, d_addI, d_subI, d_mulI, d_fdivI, d_modI, d_powI, d_addT, d_addS, d_eqI, d_neI, d_ltI, d_leI, d_gtI, d_geI, d_negI, d_int, d_absI, d_idxT, d_idxC, wIx_0, wIx_1, wIx_2, wIx_3, setTg_nm, setTg_tp, setTgs_nil, setTgs_nm, setTgs_tp, Option.bind_some, List.map_cons, List.map_nil, List.cons_append, List.nil_append, List.getElem?_cons_zero, List.getElem?_cons_succ, List.set_cons_zero, List.set_cons_succ, List.replicate_succ, List.replicate_zero, Nat.reduceSub, Nat.reduceAdd, if_true, if_false, Bool.false_eq_true, List.length_cons, List.length_nil, decide_eq_true_eq, Nat.reduceLeDiff, true_and, d_in2, d_idxR ol.at_]
    have no : wpR (evSs Φ__law_drawn [] [some (.ref n), some (.ref S5.length), some (.ref m), x3, some (.int hn), some (.int way), none] S') (wK Φ__law_drawn [.ifS (.cmp .eq (.var 5) (.con (.int 5))) [.sub (.var 2) (.con (.int 1)) (.bin .add (.bin .mul (.tup (.cons (.bin .mul (.tup (.cons (.tup (.cons (.con (.int 1)) (.cons (.con (.bl false)) .nil))) .nil)) (.var 4)) .nil)) (.con (.int 4))) (.tup (.cons (.bin .mul (.tup (.cons (.con .non) .nil)) (.var 4)) .nil)))] [],
  .ret (.tup (.cons (.var 4) (.cons (.idx (.var 2) (.con (.int 0))) (.cons (.idx (.var 2) (.con (.int 1))) (.cons (.idx (.var 2) (.con (.int 2))) .nil)))))] (wRt fun v S2 => PlanD v ∧ Tos n S S2) noX) noX := by
      rw [w_nil, wK_nx]
      exact step5 m ps S' x3 o p
    refine iteI (fun _ => iteI (fun _ => ?_) fun _ => no) fun _ => no
    obtain ⟨y, hy, py⟩ := p.at_ (i := 2) (by decide)
    rw [w_cons, w_sub]
    simp only [w_var, w_con, w_bin, w_neg, w_not, w_and, w_or, w_ite, w_cmp, w_chain, w_isN, w_tup, w_lst, w_idx, wO_none, wO_some, w_slc, w_blt, w_nilE, w_consE, wTy_some, w_isi, wApp_ref, w_app, wStr_str, w_mt1, w_told, w_calls, wCall_some, MEs.len, d_lenC, d_lenT, wVar_some, wBl_bl, wIt_int, wK_nx, wK_rt, wK_bk, wK_ct, wTg_some, wRt_rt, wRt_nx, wNx_nx, wNx_ct, BK.f, CK.f, FK.f, MK.f, d_addI, d_subI, d_mulI, d_fdivI, d_modI, d_powI, d_addT, d_addS, d_eqI, d_neI, d_ltI, d_leI, d_gtI, d_geI, d_negI, d_int, d_absI, d_idxT, d_idxC, wIx_0, wIx_1, wIx_2, wIx_3, setTg_nm, setTg_tp, setTgs_nil, setTgs_nm, setTgs_tp, Option.bind_some, List.map_cons, List.map_nil, List.cons_append, List.nil_append, List.getElem?_cons_zero, List.getElem?_cons_succ, List.set_cons_zero, List.set_cons_succ, List.replicate_succ, List.replicate_zero, Nat.reduceSub, Nat.reduceAdd, if_true, if_false, Bool.false_eq_true, List.length_cons, List.length_nil, decide_eq_true_eq, Nat.reduceLeDiff, true_and, mP, mN, d_idxL2 o.at_ hy]
    refine sl1 py fun bs hbs hbl => ?_
    simp only [w_var, w_con, w_bin, w_neg, w_not, w_and, w_or, w_ite, w_cmp, w_chain, w_isN, w_tup, w_lst, w_idx, wO_none, wO_some, w_slc, w_blt, w_nilE, w_consE, wTy_some, w_isi, wApp_ref, w_app, wStr_str, w_mt1, w_told, w_calls, wCall_some, MEs.len, d_lenC, d_lenT, wVar_some, wBl_bl, wIt_int, wK_nx, wK_rt, wK_bk, wK_ct, wTg_some, wRt_rt, wRt_nx, wNx_nx, wNx_ct, BK.f, CK.f, FK.f, MK.f, d_addI, d_subI, d_mulI, d_fdivI, d_modI, d_powI, d_addT, d_addS, d_eqI, d_neI, d_ltI, d_leI, d_gtI, d_geI, d_negI, d_int, d_absI, d_idxT, d_idxC, wIx_0, wIx_1, wIx_2, wIx_3, setTg_nm, setTg_tp, setTgs_nil, setTgs_nm, setTgs_tp, Option.bind_some, List.map_cons, List.map_nil, List.cons_append, List.nil_append, List.getElem?_cons_zero, List.getElem?_cons_succ, List.set_cons_zero, List.set_cons_succ, List.replicate_succ, List.replicate_zero, Nat.reduceSub, Nat.reduceAdd, if_true, if_false, Bool.false_eq_true, List.length_cons, List.length_nil, decide_eq_true_eq, Nat.reduceLeDiff, true_and]
    refine ⟨szl _ (by omega), ?_⟩
    rw [d_setL2 o.at_ (by rw [p.len]; decide), w_cons, w_sub]
    have o4 := o.put (ys := ps.set 2 (D.tup (bs ++ [vN]))) h
    have p4 := p.set (i := 2) (y := D.tup (bs ++ [vN])) (by decide) ⟨(bs ++ [vN]).length, by simp, by simp; omega, part_of fun b hb => by
      rcases List.mem_append.mp hb with z | z
      · exact hbs b z
      · rw [List.mem_singleton.mp z]
        exact bN⟩
    simp only [w_var, w_con, w_bin, w_neg, w_not, w_and, w_or, w_ite, w_cmp, w_chain, w_isN, w_tup, w_lst, w_idx, wO_none, wO_some, w_slc, w_blt, w_nilE, w_consE, wTy_some, w_isi, wApp_ref, w_app, wStr_str, w_mt1, w_told, w_calls, wCall_some, MEs.len, d_lenC, d_lenT, wVar_some, wBl_bl, wIt_int, wK_nx, wK_rt, wK_bk, wK_ct, wTg_some, wRt_rt, wRt_nx, wNx_nx, wNx_ct, BK.f, CK.f, FK.f, MK.f, d_addI, d_subI, d_mulI, d_fdivI, d_modI, d_powI, d_addT, d_addS, d_eqI, d_neI, d_ltI, d_leI, d_gtI, d_geI, d_negI, d_int, d_absI, d_idxT, d_idxC, wIx_0, wIx_1, wIx_2, wIx_3, setTg_nm, setTg_tp, setTgs_nil, setTgs_nm, setTgs_tp, Option.bind_some, List.map_cons, List.map_nil, List.cons_append, List.nil_append, List.getElem?_cons_zero, List.getElem?_cons_succ, List.set_cons_zero, List.set_cons_succ, List.replicate_succ, List.replicate_zero, Nat.reduceSub, Nat.reduceAdd, if_true, if_false, Bool.false_eq_true, List.length_cons, List.length_nil, decide_eq_true_eq, Nat.reduceLeDiff, true_and, mP, mN]
    rw [d_setL1 o4.at_ (by rw [p4.len]; decide), w_nil, wK_nx]
    exact step5 m _ _ x3 (o4.put h) (p4.set (i := 1) (by decide) ⟨1, by decide, by decide, part_of (bs := [vP]) (fun b hb => by rw [List.mem_singleton.mp hb]; exact bP)⟩)
  have step3 : ∀ (m : Nat) (ps : List D) (S' : Sto) (x3 : Option D), m ≠ S5.length → Own n S5.length S S' [.int s0, .int s1, .int s2] → Own n m S S' ps → Parts hn ps → wpR (evSs Φ__law_drawn [.asg (.nm 3) (.call "_law_toss" (.cons (.var 0) (.cons (.con (.int 3)) .nil))),
  .ifS (.and (.cmp .isin (.var 5) (.tup (.cons (.con (.int 1)) (.cons (.con (.int 2)) .nil)))) (.cmp .gt (.idx (.var 1) (.var 3)) (.con (.int 0)))) [.sub (.var 2) (.var 3) (.bin .add (.slc (.idx (.var 2) (.var 3)) .none (.some (.neg (.con (.int 1))))) (.call "_law_row" (.cons (.var 0) (.cons (.var 4) (.cons (.con (.int 1)) .nil)))))] [],
  .ifS (.and (.cmp .isin (.var 5) (.tup (.cons (.con (.int 3)) (.cons (.con (.int 4)) .nil)))) (.cmp .gt (.idx (.var 1) (.con (.int 2))) (.con (.int 0)))) [.sub (.var 2) (.con (.int 2)) (.bin .add (.slc (.idx (.var 2) (.con (.int 2))) .none (.some (.neg (.con (.int 1))))) (.tup (.cons (.bin .mul (.tup (.cons (.con .non) .nil)) (.var 4)) .nil))),
  .sub (.var 2) (.con (.int 1)) (.tup (.cons (.bin .mul (.tup (.cons (.tup (.cons (.con (.int 1)) (.cons (.con (.bl false)) .nil))) .nil)) (.var 4)) .nil))] [],
  .ifS (.cmp .eq (.var 5) (.con (.int 5))) [.sub (.var 2) (.con (.int 1)) (.bin .add (.bin .mul (.tup (.cons (.bin .mul (.tup (.cons (.tup (.cons (.con (.int 1)) (.cons (.con (.bl false)) .nil))) .nil)) (.var 4)) .nil)) (.con (.int 4))) (.tup (.cons (.bin .mul (.tup (.cons (.con .non) .nil)) (.var 4)) .nil)))] [],
  .ret (.tup (.cons (.var 4) (.cons (.idx (.var 2) (.con (.int 0))) (.cons (.idx (.var 2) (.con (.int 1))) (.cons (.idx (.var 2) (.con (.int 2))) .nil)))))] [some (.ref n), some (.ref S5.length), some (.ref m), x3, some (.int hn), some (.int way), none] S') (wRt fun v S2 => PlanD v ∧ Tos n S S2) noX := by
    intro m ps S' x3 hml ol o p
    rw [w_cons, w_asg]
    simp only [w_var, w_con, w_bin, w_neg, w_not, w_and, w_or, w_ite, w_cmp, w_chain, w_isN, w_tup, w_lst, w_idx, wO_none, wO_some, w_slc, w_blt, w_nilE, w_consE, wTy_some, w_isi, wApp_ref, w_app, wStr_str, w_mt1, w_told, w_calls, wCall_some, MEs.len, d_lenC, d_lenT, wVar_some, wBl_bl, wIt_int, wK_nx, wK_rt, wK_bk, wK_ct, wTg_some, wRt_rt, wRt_nx, wNx_nx, wNx_ct, BK.f, CK.f, FK.f, MK.f, d_addI, d_subI, d_mulI, d_fdivI, d_modI, d_powI, d_addT, d_addS, d_eqI, d_neI, d_ltI, d_leI, d_gtI, d_geI, d_negI, d_int, d_absI, d_idxT, d_idxC, wIx_0, wIx_1, wIx_2, wIx_3, setTg_nm, setTg_tp, setTgs_nil, setTgs_nm, setTgs_tp, Option.bind_some, List.map_cons, List.map_nil, List.cons_append, List.nil_append, List.getElem?_cons_zero, List.getElem?_cons_succ, List.set_cons_zero, List.set_cons_succ, List.replicate_succ, List.replicate_zero, Nat.reduceSub, Nat.reduceAdd, if_true, if_false, Bool.false_eq_true, List.length_cons, List.length_nil, decide_eq_true_eq, Nat.reduceLeDiff, true_and, q__law_drawn__law_toss]
    refine (toss o.t.sack (by decide) (by decide)).mono fun v S7 hv => ?_
    obtain ⟨r, rfl, r1, r2, t7⟩ := hv
    obtain ⟨k, rfl, hk⟩ := three r1 r2
    have ol := ol.tos h t7
    have o := o.tos h t7
    rw [w_cons, w_if]
    have hsz : ∃ z : Int, [D.int s0, .int s1, .int s2][k]? = some (.int z) := by
      match k, hk with
      | 0, _ => exact ⟨_, rfl⟩
      | 1, _ => exact ⟨_, rfl⟩
      | 2, _ => exact ⟨_, rfl⟩
    obtain ⟨z, hz⟩ := hsz
    simp only [w_var, w_con, w_bin, w_neg, w_not, w_and, w_or, w_ite, w_cmp, w_chain, w_isN, w_tup, w_lst, w_idx, wO_none, wO_some, w_slc, w_blt, w_nilE, w_consE, wTy_some, w_isi, wApp_ref, w_app, wStr_str, w_mt1, w_told, w_calls, wCall_some, MEs.len, d_lenC, d_lenT, wVar_some, wBl_bl, wIt_int, wK_nx, wK_rt, wK_bk, wK_ct, wTg_some, wRt_rt, wRt_nx, wNx_nx, wNx_ct, BK.f, CK.f, FK.f, MK.f, d_addI, d_subI, d_mulI, d_fdivI, d_modI, d_powI, d_addT, d_addS, d_eqI, d_neI, d_ltI, d_leI, d_gtI, d_geI, d_negI, d_int, d_absI, d_idxT, d_idxC, wIx_0, wIx_1, wIx_2, wIx_3, setTg_nm, setTg_tp, setTgs_nil, setTgs_nm, setTgs_tp, Option.bind_some, List.map_cons, List.map_nil, List.cons_append, List.nil_append, List.getElem?_cons_zero, List.getElem?_cons_succ, List.set_cons_zero, List.set_cons_succ, List.replicate_succ, List.replicate_zero, Nat.reduceSub, Nat.reduceAdd, if_true, if_false, Bool.false_eq_true, List.length_cons, List.length_nil, decide_eq_true_eq, Nat.reduceLeDiff, true_and, d_in2, d_idxR ol.at_, wIx_nat hz]
    have no : wpR (evSs Φ__law_drawn [] [some (.ref n), some (.ref S5.length), some (.ref m), some (.int k), some (.int hn), some (.int way), none] S7) (wK Φ__law_drawn [.ifS (.and (.cmp .isin (.var 5) (.tup (.cons (.con (.int 3)) (.cons (.con (.int 4)) .nil)))) (.cmp .gt (.idx (.var 1) (.con (.int 2))) (.con (.int 0)))) [.sub (.var 2) (.con (.int 2)) (.bin .add (.slc (.idx (.var 2) (.con (.int 2))) .none (.some (.neg (.con (.int 1))))) (.tup (.cons (.bin .mul (.tup (.cons (.con .non) .nil)) (.var 4)) .nil))),
  .sub (.var 2) (.con (.int 1)) (.tup (.cons (.bin .mul (.tup (.cons (.tup (.cons (.con (.int 1)) (.cons (.con (.bl false)) .nil))) .nil)) (.var 4)) .nil))] [],
  .ifS (.cmp .eq (.var 5) (.con (.int 5))) [.sub (.var 2) (.con (.int 1)) (.bin .add (.bin .mul (.tup (.cons (.bin .mul (.tup (.cons (.tup (.cons (.con (.int 1)) (.cons (.con (.bl false)) .nil))) .nil)) (.var 4)) .nil)) (.con (.int 4))) (.tup (.cons (.bin .mul (.tup (.cons (.con .non) .nil)) (.var 4)) .nil)))] [],
  .ret (.tup (.cons (.var 4) (.cons (.idx (.var 2) (.con (.int 0))) (.cons (.idx (.var 2) (.con (.int 1))) (.cons (.idx (.var 2) (.con (.int 2))) .nil)))))] (wRt fun v S2 => PlanD v ∧ Tos n S S2) noX) noX := by
      rw [w_nil, wK_nx]
      exact step4 m ps S7 _ hml ol o p
    refine iteI (fun _ => iteI (fun _ => ?_) fun _ => no) fun _ => no
    obtain ⟨y, hy, py⟩ := p.at_ hk
    rw [w_cons, w_sub]
    simp only [w_var, w_con, w_bin, w_neg, w_not, w_and, w_or, w_ite, w_cmp, w_chain, w_isN, w_tup, w_lst, w_idx, wO_none, wO_some, w_slc, w_blt, w_nilE, w_consE, wTy_some, w_isi, wApp_ref, w_app, wStr_str, w_mt1, w_told, w_calls, wCall_some, MEs.len, d_lenC, d_lenT, wVar_some, wBl_bl, wIt_int, wK_nx, wK_rt, wK_bk, wK_ct, wTg_some, wRt_rt, wRt_nx, wNx_nx, wNx_ct, BK.f, CK.f, FK.f, MK.f, d_addI, d_subI, d_mulI, d_fdivI, d_modI, d_powI, d_addT, d_addS, d_eqI, d_neI, d_ltI, d_leI, d_gtI, d_geI, d_negI, d_int, d_absI, d_idxT, d_idxC, wIx_0, wIx_1, wIx_2, wIx_3, setTg_nm, setTg_tp, setTgs_nil, setTgs_nm, setTgs_tp, Option.bind_some, List.map_cons, List.map_nil, List.cons_append, List.nil_append, List.getElem?_cons_zero, List.getElem?_cons_succ, List.set_cons_zero, List.set_cons_succ, List.replicate_succ, List.replicate_zero, Nat.reduceSub, Nat.reduceAdd, if_true, if_false, Bool.false_eq_true, List.length_cons, List.length_nil, decide_eq_true_eq, Nat.reduceLeDiff, true_and, d_idxR o.at_, wIx_nat hy, q__law_drawn__law_row]
    refine sl1 py fun bs hbs hbl => ?_
    refine (row_ (k := 1) o.t.sack hh (by decide)).mono fun v S8 hv => ?_
    obtain ⟨⟨b1, rfl, hb1, hbb⟩, t8⟩ := hv
    have ol := ol.tos h t8
    have o := o.tos h t8
    simp only [w_var, w_con, w_bin, w_neg, w_not, w_and, w_or, w_ite, w_cmp, w_chain, w_isN, w_tup, w_lst, w_idx, wO_none, wO_some, w_slc, w_blt, w_nilE, w_consE, wTy_some, w_isi, wApp_ref, w_app, wStr_str, w_mt1, w_told, w_calls, wCall_some, MEs.len, d_lenC, d_lenT, wVar_some, wBl_bl, wIt_int, wK_nx, wK_rt, wK_bk, wK_ct, wTg_some, wRt_rt, wRt_nx, wNx_nx, wNx_ct, BK.f, CK.f, FK.f, MK.f, d_addI, d_subI, d_mulI, d_fdivI, d_modI, d_powI, d_addT, d_addS, d_eqI, d_neI, d_ltI, d_leI, d_gtI, d_geI, d_negI, d_int, d_absI, d_idxT, d_idxC, wIx_0, wIx_1, wIx_2, wIx_3, setTg_nm, setTg_tp, setTgs_nil, setTgs_nm, setTgs_tp, Option.bind_some, List.map_cons, List.map_nil, List.cons_append, List.nil_append, List.getElem?_cons_zero, List.getElem?_cons_succ, List.set_cons_zero, List.set_cons_succ, List.replicate_succ, List.replicate_zero, Nat.reduceSub, Nat.reduceAdd, if_true, if_false, Bool.false_eq_true, List.length_cons, List.length_nil, decide_eq_true_eq, Nat.reduceLeDiff, true_and]
    refine ⟨szl _ (by omega), ?_⟩
    rw [d_setR o.at_ (by rw [p.len]; exact hk), w_nil, wK_nx]
    refine step4 m _ _ _ hml (ol.beside hml (o.ne h) o.g0) (o.put h) (p.set hk ⟨(bs ++ b1).length, by simp; omega, by simp; omega, part_of fun b hb => ?_⟩)
    rcases List.mem_append.mp hb with q | q
    · exact hbs b q
    · exact hbb b q
  rw [w_cons, w_if]
  simp only [w_var, w_con, w_bin, w_neg, w_not, w_and, w_or, w_ite, w_cmp, w_chain, w_isN, w_tup, w_lst, w_idx, wO_none, wO_some, w_slc, w_blt, w_nilE, w_consE, wTy_some, w_isi, wApp_ref, w_app, wStr_str, w_mt1, w_told, w_calls, wCall_some, MEs.len, d_lenC, d_lenT, wVar_some, wBl_bl, wIt_int, wK_nx, wK_rt, wK_bk, wK_ct, wTg_some, wRt_rt, wRt_nx, wNx_nx, wNx_ct, BK.f, CK.f, FK.f, MK.f, d_addI, d_subI, d_mulI, d_fdivI, d_modI, d_powI, d_addT, d_addS, d_eqI, d_neI, d_ltI, d_leI, d_gtI, d_geI, d_negI, d_int, d_absI, d_idxT, d_idxC, wIx_0, wIx_1, wIx_2, wIx_3, setTg_nm, setTg_tp, setTgs_nil, setTgs_nm, setTgs_tp, Option.bind_some, List.map_cons, List.map_nil, List.cons_append, List.nil_append, List.getElem?_cons_zero, List.getElem?_cons_succ, List.set_cons_zero, List.set_cons_succ, List.replicate_succ, List.replicate_zero, Nat.reduceSub, Nat.reduceAdd, if_true, if_false, Bool.false_eq_true, List.length_cons, List.length_nil, decide_eq_true_eq, Nat.reduceLeDiff, true_and]
  refine iteI (fun _ => ?_) fun _ => ?_
  · rw [w_cons, w_asg]
    refine (parts_comp (Φ := Φ__law_drawn) (x3 := none) q__law_drawn__law_row h (by omega) (by omega) (by omega) (by omega) (fun k S hk hS => row_ hS hh (by omega)) o2).mono fun v S7 hv => ?_
    obtain ⟨m, ps, rfl, hml, o3, p3, P3⟩ := hv
    simp only [w_var, w_con, w_bin, w_neg, w_not, w_and, w_or, w_ite, w_cmp, w_chain, w_isN, w_tup, w_lst, w_idx, wO_none, wO_some, w_slc, w_blt, w_nilE, w_consE, wTy_some, w_isi, wApp_ref, w_app, wStr_str, w_mt1, w_told, w_calls, wCall_some, MEs.len, d_lenC, d_lenT, wVar_some, wBl_bl, wIt_int, wK_nx, wK_rt, wK_bk, wK_ct, wTg_some, wRt_rt, wRt_nx, wNx_nx, wNx_ct, BK.f, CK.f, FK.f, MK.f, d_addI, d_subI, d_mulI, d_fdivI, d_modI, d_powI, d_addT, d_addS, d_eqI, d_neI, d_ltI, d_leI, d_gtI, d_geI, d_negI, d_int, d_absI, d_idxT, d_idxC, wIx_0, wIx_1, wIx_2, wIx_3, setTg_nm, setTg_tp, setTgs_nil, setTgs_nm, setTgs_tp, Option.bind_some, List.map_cons, List.map_nil, List.cons_append, List.nil_append, List.getElem?_cons_zero, List.getElem?_cons_succ, List.set_cons_zero, List.set_cons_succ, List.replicate_succ, List.replicate_zero, Nat.reduceSub, Nat.reduceAdd, if_true, if_false, Bool.false_eq_true, List.length_cons, List.length_nil, decide_eq_true_eq, Nat.reduceLeDiff, true_and]
    rw [w_nil, wK_nx]
    exact step3 m ps S7 _ hml o3 p3 P3
  · rw [w_nil, wK_nx]
    exact step3 _ _ S6 _ hml o2 p2 P2
end T

end
section
set_option Elab.async false
set_option linter.all false
set_option maxRecDepth 100000
set_option maxHeartbeats 4000000
set_option autoImplicit false
/-! Plain laws, part E: the sack. -/
namespace T
open PySem DV
/-- the script -/
def Scr (S : Sto) (d : D) (ns : List Int) : Prop := d = .lstc (ns.map .int) ∨ ∃ m, d = .ref m ∧ S[m]? = some (.lst (ns.map .int))
theorem Scr.len {S : Sto} {d : D} {ns : List Int} {Q : D → Sto → Prop} {X : Str → Option (Str × D) → Sto → Prop} (h : Scr S d ns) : wpR (lenD [d] S) Q X = Q (.int ns.length) S := by
  rcases h with rfl | ⟨m, rfl, hm⟩
  · rw [d_lenC, List.length_map]
  · rw [d_lenR hm, List.length_map]
theorem Scr.idx {S : Sto} {d : D} {ns : List Int} {k : Nat} {Q : D → Sto → Prop} {X : Str → Option (Str × D) → Sto → Prop} (h : Scr S d ns) (hk : k < ns.length) : wpR (idxD d (.int k) S) Q X = Q (.int ns[k]) S := by
  have e : (ns.map D.int)[k]? = some (.int ns[k]) := by rw [List.getElem?_map, List.getElem?_eq_getElem hk]; rfl
  rcases h with rfl | ⟨m, rfl, hm⟩
  · rw [d_idxC, wIx_nat e]
  · rw [d_idxR hm, wIx_nat e]
theorem Scr.keep {S S' : Sto} {d : D} {ns : List Int} (h : Scr S d ns) (k : ∀ i, i < S.length → S'[i]? = S[i]?) : Scr S' d ns := by
  rcases h with rfl | ⟨m, rfl, hm⟩
  · exact .inl rfl
  · exact .inr ⟨m, rfl, (k m (List.getElem?_eq_some_iff.mp hm).1).trans hm⟩
theorem sack_ {S : Sto} {d : D} {ns : List Int} {k : Nat} (h : Scr S d ns) (hk : k < 1000) : wpR (d__law_sack [d, .int k] S) (fun v S2 => v = .ref S.length ∧ ∃ a b : Int, S2 = S ++ [.lst [.int a, .int b]] ∧ 0 ≤ a ∧ 0 ≤ b ∧ b ≤ 2147482937) noX := by
  have lk : ((k : Int)).natAbs.log2 < 12 := log2_lt' (by omega) (k := 11) (by
    have e : (1000 : Int) < 2 ^ 11 := by decide
    omega)
  have c1 : ((27007 : Int)).natAbs.log2 < 20 := by decide
  have c2 : ((97 : Int)).natAbs.log2 < 20 := by decide
  have c3 : ((19 : Int)).natAbs.log2 < 20 := by decide
  have fin : ∀ (c : Int), 0 ≤ c → wpR (evSs Φ__law_sack [.ret (.lst (.cons (.ite (.cmp .ge (.var 2) (.bin .pow (.con (.int 10)) (.con (.int 18)))) (.var 2) (.con (.int 0))) (.cons (.bin .add (.bin .mod (.blt .int (.cons (.bin .add (.bin .add (.bin .mul (.bin .mod (.var 2) (.con (.int 2147482937))) (.con (.int 19))) (.bin .mul (.con (.int 97)) (.var 1))) (.con (.int 47))) .nil)) (.con (.int 2147482937))) (.con (.int 1))) .nil)))] [some d, some (.int k), some (.int c)] S)
      (wRt fun v S2 => v = .ref S.length ∧ ∃ a b : Int, S2 = S ++ [.lst [.int a, .int b]] ∧ 0 ≤ a ∧ 0 ≤ b ∧ b ≤ 2147482937) noX := by
    intro c hc
    have m1 := Int.emod_nonneg c (show (2147482937 : Int) ≠ 0 by decide)
    have m2 := Int.emod_lt_of_pos c (show (0 : Int) < 2147482937 by decide)
    have l1 : (c % 2147482937).natAbs.log2 < 33 := log2_lt' m1 (k := 32) (by omega)
    simp only [w_var, w_con, w_bin, w_neg, w_not, w_and, w_or, w_ite, w_cmp, w_chain, w_isN, w_tup, w_lst, w_idx, wO_none, wO_some, w_slc, w_blt, w_nilE, w_consE, wTy_some, w_isi, wApp_ref, w_app, wStr_str, w_mt1, w_told, w_calls, wCall_some, MEs.len, d_lenC, d_lenT, w_nil, w_cons, w_asg, w_sub, w_par, w_expr, w_ret, w_if, w_raise, w_pass, w_brk, w_cont, wVar_some, wBl_bl, wIt_int, wK_nx, wK_rt, wK_bk, wK_ct, wTg_some, wRt_rt, wRt_nx, wNx_nx, wNx_ct, BK.f, CK.f, FK.f, MK.f, d_addI, d_subI, d_mulI, d_fdivI, d_modI, d_powI, d_addT, d_addS, d_eqI, d_neI, d_ltI, d_leI, d_gtI, d_geI, d_negI, d_int, d_absI, d_idxT, d_idxC, wIx_0, wIx_1, wIx_2, wIx_3, setTg_nm, setTg_tp, setTgs_nil, setTgs_nm, setTgs_tp, Option.bind_some, List.map_cons, List.map_nil, List.cons_append, List.nil_append, List.getElem?_cons_zero, List.getElem?_cons_succ, List.set_cons_zero, List.set_cons_succ, List.replicate_succ, List.replicate_zero, Nat.reduceSub, Nat.reduceAdd, if_true, if_false, Bool.false_eq_true, List.length_cons, List.length_nil, decide_eq_true_eq, Nat.reduceLeDiff, true_and]
    refine ⟨⟨by decide, by decide, by decide⟩, ?_⟩
    have m3 := fun z => Int.emod_nonneg z (show (2147482937 : Int) ≠ 0 by decide)
    have m4 := fun z => Int.emod_lt_of_pos z (show (0 : Int) < 2147482937 by decide)
    refine iteI (fun _ => ?_) fun _ => ?_
    · refine ⟨by decide, by omega, by omega, by decide, _, _, rfl, hc, ?_, ?_⟩
      · have := m3 (c % 2147482937 * 19 + 97 * (k : Int) + 47)
        omega
      · have := m4 (c % 2147482937 * 19 + 97 * (k : Int) + 47)
        omega
    · refine ⟨by decide, by omega, by omega, by decide, _, _, rfl, Int.le_refl 0, ?_, ?_⟩
      · have := m3 (c % 2147482937 * 19 + 97 * (k : Int) + 47)
        omega
      · have := m4 (c % 2147482937 * 19 + 97 * (k : Int) + 47)
        omega
  have habs : ∀ x : Int, 0 ≤ (if x < 0 then -x else x) := fun x => by split <;> omega
  unfold d__law_sack
  refine den_wp rfl ?_
  unfold m__law_sack
  rw [w_cons, w_asg]
  simp only [w_var, w_con, w_bin, w_neg, w_not, w_and, w_or, w_ite, w_cmp, w_chain, w_isN, w_tup, w_lst, w_idx, wO_none, wO_some, w_slc, w_blt, w_nilE, w_consE, wTy_some, w_isi, wApp_ref, w_app, wStr_str, w_mt1, w_told, w_calls, wCall_some, MEs.len, d_lenC, d_lenT, wVar_some, wBl_bl, wIt_int, wK_nx, wK_rt, wK_bk, wK_ct, wTg_some, wRt_rt, wRt_nx, wNx_nx, wNx_ct, BK.f, CK.f, FK.f, MK.f, d_addI, d_subI, d_mulI, d_fdivI, d_modI, d_powI, d_addT, d_addS, d_eqI, d_neI, d_ltI, d_leI, d_gtI, d_geI, d_negI, d_int, d_absI, d_idxT, d_idxC, wIx_0, wIx_1, wIx_2, wIx_3, setTg_nm, setTg_tp, setTgs_nil, setTgs_nm, setTgs_tp, Option.bind_some, List.map_cons, List.map_nil, List.cons_append, List.nil_append, List.getElem?_cons_zero, List.getElem?_cons_succ, List.set_cons_zero, List.set_cons_succ, List.replicate_succ, List.replicate_zero, Nat.reduceSub, Nat.reduceAdd, if_true, if_false, Bool.false_eq_true, List.length_cons, List.length_nil, decide_eq_true_eq, Nat.reduceLeDiff, true_and]
  refine ⟨by omega, ?_⟩
  rw [w_cons, w_if]
  simp only [w_var, w_con, w_bin, w_neg, w_not, w_and, w_or, w_ite, w_cmp, w_chain, w_isN, w_tup, w_lst, w_idx, wO_none, wO_some, w_slc, w_blt, w_nilE, w_consE, wTy_some, w_isi, wApp_ref, w_app, wStr_str, w_mt1, w_told, w_calls, wCall_some, MEs.len, d_lenC, d_lenT, wVar_some, wBl_bl, wIt_int, wK_nx, wK_rt, wK_bk, wK_ct, wTg_some, wRt_rt, wRt_nx, wNx_nx, wNx_ct, BK.f, CK.f, FK.f, MK.f, d_addI, d_subI, d_mulI, d_fdivI, d_modI, d_powI, d_addT, d_addS, d_eqI, d_neI, d_ltI, d_leI, d_gtI, d_geI, d_negI, d_int, d_absI, d_idxT, d_idxC, wIx_0, wIx_1, wIx_2, wIx_3, setTg_nm, setTg_tp, setTgs_nil, setTgs_nm, setTgs_tp, Option.bind_some, List.map_cons, List.map_nil, List.cons_append, List.nil_append, List.getElem?_cons_zero, List.getElem?_cons_succ, List.set_cons_zero, List.set_cons_succ, List.replicate_succ, List.replicate_zero, Nat.reduceSub, Nat.reduceAdd, if_true, if_false, Bool.false_eq_true, List.length_cons, List.length_nil, decide_eq_true_eq, Nat.reduceLeDiff, true_and, h.len]
  refine iteI (fun hlt => ?_) fun hlt => ?_
  · have hlt : k < ns.length := by omega
    rw [w_cons, w_asg]
    simp only [w_var, w_con, w_bin, w_neg, w_not, w_and, w_or, w_ite, w_cmp, w_chain, w_isN, w_tup, w_lst, w_idx, wO_none, wO_some, w_slc, w_blt, w_nilE, w_consE, wTy_some, w_isi, wApp_ref, w_app, wStr_str, w_mt1, w_told, w_calls, wCall_some, MEs.len, d_lenC, d_lenT, wVar_some, wBl_bl, wIt_int, wK_nx, wK_rt, wK_bk, wK_ct, wTg_some, wRt_rt, wRt_nx, wNx_nx, wNx_ct, BK.f, CK.f, FK.f, MK.f, d_addI, d_subI, d_mulI, d_fdivI, d_modI, d_powI, d_addT, d_addS, d_eqI, d_neI, d_ltI, d_leI, d_gtI, d_geI, d_negI, d_int, d_absI, d_idxT, d_idxC, wIx_0, wIx_1, wIx_2, wIx_3, setTg_nm, setTg_tp, setTgs_nil, setTgs_nm, setTgs_tp, Option.bind_some, List.map_cons, List.map_nil, List.cons_append, List.nil_append, List.getElem?_cons_zero, List.getElem?_cons_succ, List.set_cons_zero, List.set_cons_succ, List.replicate_succ, List.replicate_zero, Nat.reduceSub, Nat.reduceAdd, if_true, if_false, Bool.false_eq_true, List.length_cons, List.length_nil, decide_eq_true_eq, Nat.reduceLeDiff, true_and, h.idx hlt]
    repeat (first | refine ⟨⟨by decide, by decide, by decide⟩, ?_⟩ | refine ⟨by decide +kernel, ?_⟩)
    try rw [w_nil, wK_nx]
    refine fin _ ?_
    exact Int.emod_nonneg _ (by decide +kernel)
  · rw [w_cons, w_if]
    simp only [w_var, w_con, w_bin, w_neg, w_not, w_and, w_or, w_ite, w_cmp, w_chain, w_isN, w_tup, w_lst, w_idx, wO_none, wO_some, w_slc, w_blt, w_nilE, w_consE, wTy_some, w_isi, wApp_ref, w_app, wStr_str, w_mt1, w_told, w_calls, wCall_some, MEs.len, d_lenC, d_lenT, wVar_some, wBl_bl, wIt_int, wK_nx, wK_rt, wK_bk, wK_ct, wTg_some, wRt_rt, wRt_nx, wNx_nx, wNx_ct, BK.f, CK.f, FK.f, MK.f, d_addI, d_subI, d_mulI, d_fdivI, d_modI, d_powI, d_addT, d_addS, d_eqI, d_neI, d_ltI, d_leI, d_gtI, d_geI, d_negI, d_int, d_absI, d_idxT, d_idxC, wIx_0, wIx_1, wIx_2, wIx_3, setTg_nm, setTg_tp, setTgs_nil, setTgs_nm, setTgs_tp, Option.bind_some, List.map_cons, List.map_nil, List.cons_append, List.nil_append, List.getElem?_cons_zero, List.getElem?_cons_succ, List.set_cons_zero, List.set_cons_succ, List.replicate_succ, List.replicate_zero, Nat.reduceSub, Nat.reduceAdd, if_true, if_false, Bool.false_eq_true, List.length_cons, List.length_nil, decide_eq_true_eq, Nat.reduceLeDiff, true_and, h.len]
    refine iteI (fun hpos => ?_) fun hpos => ?_
    · have hpos : 0 < ns.length := by omega
      have hi := fun Q X => Scr.idx (Q := Q) (X := X) (k := 0) h hpos
      rw [w_cons, w_asg]
      simp only [w_var, w_con, w_bin, w_neg, w_not, w_and, w_or, w_ite, w_cmp, w_chain, w_isN, w_tup, w_lst, w_idx, wO_none, wO_some, w_slc, w_blt, w_nilE, w_consE, wTy_some, w_isi, wApp_ref, w_app, wStr_str, w_mt1, w_told, w_calls, wCall_some, MEs.len, d_lenC, d_lenT, wVar_some, wBl_bl, wIt_int, wK_nx, wK_rt, wK_bk, wK_ct, wTg_some, wRt_rt, wRt_nx, wNx_nx, wNx_ct, BK.f, CK.f, FK.f, MK.f, d_addI, d_subI, d_mulI, d_fdivI, d_modI, d_powI, d_addT, d_addS, d_eqI, d_neI, d_ltI, d_leI, d_gtI, d_geI, d_negI, d_int, d_absI, d_idxT, d_idxC, wIx_0, wIx_1, wIx_2, wIx_3, setTg_nm, setTg_tp, setTgs_nil, setTgs_nm, setTgs_tp, Option.bind_some, List.map_cons, List.map_nil, List.cons_append, List.nil_append, List.getElem?_cons_zero, List.getElem?_cons_succ, List.set_cons_zero, List.set_cons_succ, List.replicate_succ, List.replicate_zero, Nat.reduceSub, Nat.reduceAdd, if_true, if_false, Bool.false_eq_true, List.length_cons, List.length_nil, decide_eq_true_eq, Nat.reduceLeDiff, true_and]
      rw [show (0 : Int) = ((0 : Nat) : Int) from rfl, h.idx hpos]
      simp only [w_var, w_con, w_bin, w_neg, w_not, w_and, w_or, w_ite, w_cmp, w_chain, w_isN, w_tup, w_lst, w_idx, wO_none, wO_some, w_slc, w_blt, w_nilE, w_consE, wTy_some, w_isi, wApp_ref, w_app, wStr_str, w_mt1, w_told, w_calls, wCall_some, MEs.len, d_lenC, d_lenT, wVar_some, wBl_bl, wIt_int, wK_nx, wK_rt, wK_bk, wK_ct, wTg_some, wRt_rt, wRt_nx, wNx_nx, wNx_ct, BK.f, CK.f, FK.f, MK.f, d_addI, d_subI, d_mulI, d_fdivI, d_modI, d_powI, d_addT, d_addS, d_eqI, d_neI, d_ltI, d_leI, d_gtI, d_geI, d_negI, d_int, d_absI, d_idxT, d_idxC, wIx_0, wIx_1, wIx_2, wIx_3, setTg_nm, setTg_tp, setTgs_nil, setTgs_nm, setTgs_tp, Option.bind_some, List.map_cons, List.map_nil, List.cons_append, List.nil_append, List.getElem?_cons_zero, List.getElem?_cons_succ, List.set_cons_zero, List.set_cons_succ, List.replicate_succ, List.replicate_zero, Nat.reduceSub, Nat.reduceAdd, if_true, if_false, Bool.false_eq_true, List.length_cons, List.length_nil, decide_eq_true_eq, Nat.reduceLeDiff, true_and]
      refine ⟨by decide, ?_⟩
      rw [w_nil, wK_nx, w_nil, wK_nx]
      refine fin _ ?_
      have := Int.emod_nonneg (if ns[0] < 0 then -ns[0] else ns[0]) (show (1000403 : Int) ≠ 0 by decide)
      omega
    · rw [w_nil, wK_nx, w_nil, wK_nx]
      exact fin _ (by omega)
end T

end
section
set_option Elab.async false
set_option linter.all false
set_option maxRecDepth 100000
set_option maxHeartbeats 4000000
set_option autoImplicit false
/-! Plain laws, part F: is_plan. -/
namespace T
open PySem DV
/-- nothing that was there is changed -/
structure Keep (S S' : Sto) : Prop where
  len : S.length ≤ S'.length
  at_ : ∀ i, i < S.length → S'[i]? = S[i]?
theorem Keep.refl (S : Sto) : Keep S S := ⟨Nat.le_refl _, fun _ _ => rfl⟩
theorem Keep.trans {S S1 S2 : Sto} (a : Keep S S1) (b : Keep S1 S2) : Keep S S2 := ⟨Nat.le_trans a.len b.len, fun i hi => (b.at_ i (Nat.lt_of_lt_of_le hi a.len)).trans (a.at_ i hi)⟩
theorem Keep.more {S : Sto} {o : LO} : Keep S (S ++ [o]) := ⟨by simp, fun i hi => List.getElem?_append_left hi⟩
theorem Keep.tos {S S' : Sto} {n : Nat} (k : Keep S S') (h : Sack S n) : Tos n S S' := ⟨k.len, fun i hi _ => k.at_ i hi, by
  obtain ⟨a, b, h1, h2⟩ := h
  exact ⟨a, b, (k.at_ n (List.getElem?_eq_some_iff.mp h1).1).trans h1, h2⟩⟩
/-- a comprehension whose body keeps all: p: what is taken, g: what it gives -/
theorem comp_fm {Φ : Tab} {w : MW} {t : Tg} {vs : List Nat} {c : MO} {e : ME} {σ : DV.Env} {S : Sto} (items : List D) (p : D → Bool) (g : D → D)
    (hw : wpR (evW Φ w σ S) (fun wk S1 => Keep S S1 ∧ (∀ S2, Keep S1 S2 → Locked S2 wk.lock) ∧ wk.items = items ∧ items.length < 100000 ∧ ∀ d S2, d ∈ items → Keep S1 S2 → ∃ σ1, setTg t d (wipeD σ vs) = some σ1 ∧ wpR (evC Φ c σ1 S2) (fun b S3 => b = p d ∧ Keep S2 S3 ∧ (b = true → wpR (evE Φ e σ1 S3) (fun y S4 => y = g d ∧ Keep S3 S4) noX)) noX) noX) :
    wpR (evE Φ (.comp w t vs c e) σ S) (fun v S' => ∃ m, v = .ref m ∧ S.length ≤ m ∧ S'[m]? = some (.lst ((items.filter p).map g)) ∧ Keep S S') noX := by
  rw [w_comp]
  refine hw.mono fun wk S1 h => ?_
  obtain ⟨h1, h2, rfl, h4, h5⟩ := h
  refine (compD_inv (fun j acc S2 => Keep S1 S2 ∧ acc = ((wk.items.take j).filter p).map g) (fun j acc S2 h _ => h2 S2 h.1) wk.items 0 [] (S1 ++ [.lst []]) ⟨Keep.more, by simp⟩ (by
    rw [List.getElem?_append_right (Nat.le_refl _), Nat.sub_self]
    rfl) (by simp; omega) fun j d acc S2 hj hI ha => ?_).mono fun v S2 hv => ?_
  · obtain ⟨t1, t2⟩ := hI
    rw [Nat.zero_add] at t2
    obtain ⟨σ1, e1, w1⟩ := h5 d S2 (List.mem_of_getElem? hj) t1
    have hlt : j < wk.items.length := (List.getElem?_eq_some_iff.mp hj).1
    have ed : wk.items[j] = d := (List.getElem?_eq_some_iff.mp hj).2
    have tk : wk.items.take (j + 1) = wk.items.take j ++ [d] := by rw [List.take_succ, hj]; rfl
    have hm : S1.length < S2.length := (List.getElem?_eq_some_iff.mp ha).1
    refine ⟨σ1, e1, w1.mono fun b S3 hb => ?_⟩
    obtain ⟨rfl, k3, hb⟩ := hb
    have e3 : S3[S1.length]? = some (.lst acc) := by rw [k3.at_ _ hm]; exact ha
    refine ⟨fun hz => ⟨e3, t1.trans k3, ?_⟩, fun hz => (hb hz).mono fun y S4 hy => ?_⟩
    · rw [Nat.zero_add, tk, List.filter_append, t2]
      simp [hz]
    · obtain ⟨rfl, k4⟩ := hy
      have hm3 : S1.length < S3.length := (List.getElem?_eq_some_iff.mp e3).1
      refine ⟨by rw [k4.at_ _ hm3]; exact e3, ⟨by rw [List.length_set]; exact ((t1.trans k3).trans k4).len, fun i hi => ?_⟩, ?_⟩
      · rw [List.getElem?_set_ne (by omega)]
        exact ((t1.trans k3).trans k4).at_ i hi
      · rw [Nat.zero_add, tk, List.filter_append, t2]
        simp [hz]
  · obtain ⟨rfl, acc, ha, t1, t2⟩ := hv
    rw [Nat.zero_add, List.take_length] at t2
    rw [t2] at ha
    exact ⟨_, rfl, h1.len, ha, h1.trans t1⟩
theorem comp_map {Φ : Tab} {w : MW} {t : Tg} {vs : List Nat} {e : ME} {σ : DV.Env} {S : Sto} (items : List D) (g : D → D)
    (hw : wpR (evW Φ w σ S) (fun wk S1 => Keep S S1 ∧ (∀ S2, Keep S1 S2 → Locked S2 wk.lock) ∧ wk.items = items ∧ items.length < 100000 ∧ ∀ d S2, d ∈ items → Keep S1 S2 → ∃ σ1, setTg t d (wipeD σ vs) = some σ1 ∧ wpR (evE Φ e σ1 S2) (fun y S4 => y = g d ∧ Keep S2 S4) noX) noX) :
    wpR (evE Φ (.comp w t vs .none e) σ S) (fun v S' => ∃ m, v = .ref m ∧ S.length ≤ m ∧ S'[m]? = some (.lst (items.map g)) ∧ Keep S S') noX := by
  have z := comp_fm (Φ := Φ) (w := w) (t := t) (vs := vs) (c := .none) (e := e) (σ := σ) (S := S) items (fun _ => true) g (hw.mono fun wk S1 h => by
    obtain ⟨h1, h2, h3, h4, h5⟩ := h
    refine ⟨h1, h2, h3, h4, fun d S2 hd hk => ?_⟩
    obtain ⟨σ1, e1, w1⟩ := h5 d S2 hd hk
    exact ⟨σ1, e1, .ok ⟨rfl, Keep.refl _, fun _ => w1⟩⟩)
  have e : items.filter (fun _ => true) = items := List.filter_eq_self.mpr (by simp)
  rw [e] at z
  exact z
theorem is_int_ {i lo hi : Int} {S : Sto} {Q : D → Sto → Prop} {X : Str → Option (Str × D) → Sto → Prop} : wpR (d_is_int [.int i, .int lo, .int hi] S) Q X = Q (.bl (decide (lo ≤ i ∧ i ≤ hi))) S := by
  unfold d_is_int
  rw [w_den (np := 3) rfl]
  unfold m_is_int
  simp only [w_var, w_con, w_bin, w_neg, w_not, w_and, w_or, w_ite, w_cmp, w_chain, w_isN, w_tup, w_lst, w_idx, wO_none, wO_some, w_slc, w_blt, w_nilE, w_consE, wTy_some, w_isi, wApp_ref, w_app, wStr_str, w_mt1, w_told, w_calls, wCall_some, MEs.len, d_lenC, d_lenT, w_nil, w_cons, w_asg, w_sub, w_par, w_expr, w_ret, w_if, w_raise, w_pass, w_brk, w_cont, wVar_some, wBl_bl, wIt_int, wK_nx, wK_rt, wK_bk, wK_ct, wTg_some, wRt_rt, wRt_nx, wNx_nx, wNx_ct, BK.f, CK.f, FK.f, MK.f, d_addI, d_subI, d_mulI, d_fdivI, d_modI, d_powI, d_addT, d_addS, d_eqI, d_neI, d_ltI, d_leI, d_gtI, d_geI, d_negI, d_int, d_absI, d_idxT, d_idxC, wIx_0, wIx_1, wIx_2, wIx_3, setTg_nm, setTg_tp, setTgs_nil, setTgs_nm, setTgs_tp, Option.bind_some, List.map_cons, List.map_nil, List.cons_append, List.nil_append, List.getElem?_cons_zero, List.getElem?_cons_succ, List.set_cons_zero, List.set_cons_succ, List.replicate_succ, List.replicate_zero, Nat.reduceSub, Nat.reduceAdd, if_true, if_false, Bool.false_eq_true, List.length_cons, List.length_nil, decide_eq_true_eq, Nat.reduceLeDiff, true_and, isTy]
  by_cases h1 : lo ≤ i <;> by_cases h2 : i ≤ hi <;> simp [h1, h2]
theorem asBools_map {α : Type} {f : α → Bool} : ∀ xs : List α, asBools (xs.map fun x => D.bl (f x)) = some (xs.map f)
  | [] => rfl
  | x :: xs => by
    simp only [List.map_cons, asBools, asBools_map xs, Option.map_some]
theorem d_all {S : Sto} {m : Nat} {xs : List D} {f : D → Bool} {Q : D → Sto → Prop} {X : Str → Option (Str × D) → Sto → Prop} (h : S[m]? = some (.lst (xs.map fun x => D.bl (f x)))) : wpR (allD [.ref m] S) Q X = Q (.bl (xs.all f)) S := by
  have e : allD [.ref m] S = .ok (.bl (xs.all f)) S := by
    show (match lstOf S (.ref m) with | some ys => (match asBools ys with | some ns => Res.ok (D.bl (ns.all id)) S | none => .bad) | none => .bad) = _
    simp only [lstOf, h, asBools_map, List.all_map]
    rfl
  rw [e, wpR_ok]
/-- what the program asks of a cell, a beat, a part -/
def cellB (h : Int) : D → Bool
  | .non => true
  | .tup [.int i, .bl b] => decide (-3 ≤ i ∧ i ≤ 6) && (decide (h = 2) || !b)
  | _ => false
theorem is_throw_ {h i : Int} {b : Bool} {S : Sto} : wpR (d_is_throw [.int h, .tup [.int i, .bl b]] S) (fun v S' => v = .bl (cellB h (.tup [.int i, .bl b])) ∧ S' = S) noX := by
  unfold d_is_throw
  refine den_wp rfl ?_
  unfold m_is_throw
  simp only [w_var, w_con, w_bin, w_neg, w_not, w_and, w_or, w_ite, w_cmp, w_chain, w_isN, w_tup, w_lst, w_idx, wO_none, wO_some, w_slc, w_blt, w_nilE, w_consE, wTy_some, w_isi, wApp_ref, w_app, wStr_str, w_mt1, w_told, w_calls, wCall_some, MEs.len, d_lenC, d_lenT, w_nil, w_cons, w_asg, w_sub, w_par, w_expr, w_ret, w_if, w_raise, w_pass, w_brk, w_cont, wVar_some, wBl_bl, wIt_int, wK_nx, wK_rt, wK_bk, wK_ct, wTg_some, wRt_rt, wRt_nx, wNx_nx, wNx_ct, BK.f, CK.f, FK.f, MK.f, d_addI, d_subI, d_mulI, d_fdivI, d_modI, d_powI, d_addT, d_addS, d_eqI, d_neI, d_ltI, d_leI, d_gtI, d_geI, d_negI, d_int, d_absI, d_idxT, d_idxC, wIx_0, wIx_1, wIx_2, wIx_3, setTg_nm, setTg_tp, setTgs_nil, setTgs_nm, setTgs_tp, Option.bind_some, List.map_cons, List.map_nil, List.cons_append, List.nil_append, List.getElem?_cons_zero, List.getElem?_cons_succ, List.set_cons_zero, List.set_cons_succ, List.replicate_succ, List.replicate_zero, Nat.reduceSub, Nat.reduceAdd, if_true, if_false, Bool.false_eq_true, List.length_cons, List.length_nil, decide_eq_true_eq, Nat.reduceLeDiff, true_and, isTy, q_is_throw_is_int, is_int_, Bool.not_true, Bool.not_false]
  rw [if_neg (by simp)]
  by_cases h1 : -3 ≤ i ∧ i ≤ 6
  · rw [if_pos h1]
    by_cases h2 : h = 2
    · rw [if_pos h2]
      simp [cellB, h1, h2]
    · rw [if_neg h2]
      simp [cellB, h1, h2]
  · rw [if_neg h1]
    have : decide (-3 ≤ i ∧ i ≤ 6) = false := decide_eq_false h1
    simp only [cellB, this, Bool.false_and, and_self]
theorem cell_ok {h : Int} {d : D} (hh : h = 1 ∨ h = 2) (c : Cell h d) : cellB h d = true := by
  rcases c with rfl | ⟨i, b, rfl, h1, h2, h3⟩
  · rfl
  · rcases hh with rfl | rfl
    · rw [h3 rfl]
      simp [cellB, h1, h2]
    · simp [cellB, h1, h2]
theorem is_beat_ {h : Int} {cs : List D} {S : Sto} (hh : h = 1 ∨ h = 2) (hl : cs.length < 1000) (hc : ∀ c ∈ cs, c = .non ∨ ∃ (i : Int) (b : Bool), c = .tup [.int i, .bl b]) :
    wpR (d_is_beat [.int h, .tup cs] S) (fun v S' => v = .bl (decide ((cs.length : Int) = h) && cs.all (cellB h)) ∧ Keep S S') noX := by
  unfold d_is_beat
  refine den_wp rfl ?_
  unfold m_is_beat
  rw [w_cons, w_if]
  simp only [w_var, w_con, w_bin, w_neg, w_not, w_and, w_or, w_ite, w_cmp, w_chain, w_isN, w_tup, w_lst, w_idx, wO_none, wO_some, w_slc, w_blt, w_nilE, w_consE, wTy_some, w_isi, wApp_ref, w_app, wStr_str, w_mt1, w_told, w_calls, wCall_some, MEs.len, d_lenC, d_lenT, wVar_some, wBl_bl, wIt_int, wK_nx, wK_rt, wK_bk, wK_ct, wTg_some, wRt_rt, wRt_nx, wNx_nx, wNx_ct, BK.f, CK.f, FK.f, MK.f, d_addI, d_subI, d_mulI, d_fdivI, d_modI, d_powI, d_addT, d_addS, d_eqI, d_neI, d_ltI, d_leI, d_gtI, d_geI, d_negI, d_int, d_absI, d_idxT, d_idxC, wIx_0, wIx_1, wIx_2, wIx_3, setTg_nm, setTg_tp, setTgs_nil, setTgs_nm, setTgs_tp, Option.bind_some, List.map_cons, List.map_nil, List.cons_append, List.nil_append, List.getElem?_cons_zero, List.getElem?_cons_succ, List.set_cons_zero, List.set_cons_succ, List.replicate_succ, List.replicate_zero, Nat.reduceSub, Nat.reduceAdd, if_true, if_false, Bool.false_eq_true, List.length_cons, List.length_nil, decide_eq_true_eq, Nat.reduceLeDiff, true_and, isTy, Bool.not_true, Bool.not_false]
  refine iteI (fun hne => ?_) fun hne => ?_
  · have hne : ¬ ((cs.length : Int) = h) := by simpa using hne
    rw [w_cons, w_ret]
    simp only [w_var, w_con, w_bin, w_neg, w_not, w_and, w_or, w_ite, w_cmp, w_chain, w_isN, w_tup, w_lst, w_idx, wO_none, wO_some, w_slc, w_blt, w_nilE, w_consE, wTy_some, w_isi, wApp_ref, w_app, wStr_str, w_mt1, w_told, w_calls, wCall_some, MEs.len, d_lenC, d_lenT, wVar_some, wBl_bl, wIt_int, wK_nx, wK_rt, wK_bk, wK_ct, wTg_some, wRt_rt, wRt_nx, wNx_nx, wNx_ct, BK.f, CK.f, FK.f, MK.f, d_addI, d_subI, d_mulI, d_fdivI, d_modI, d_powI, d_addT, d_addS, d_eqI, d_neI, d_ltI, d_leI, d_gtI, d_geI, d_negI, d_int, d_absI, d_idxT, d_idxC, wIx_0, wIx_1, wIx_2, wIx_3, setTg_nm, setTg_tp, setTgs_nil, setTgs_nm, setTgs_tp, Option.bind_some, List.map_cons, List.map_nil, List.cons_append, List.nil_append, List.getElem?_cons_zero, List.getElem?_cons_succ, List.set_cons_zero, List.set_cons_succ, List.replicate_succ, List.replicate_zero, Nat.reduceSub, Nat.reduceAdd, if_true, if_false, Bool.false_eq_true, List.length_cons, List.length_nil, decide_eq_true_eq, Nat.reduceLeDiff, true_and]
    exact ⟨by rw [decide_eq_false hne]; rfl, Keep.refl _⟩
  · have hne : (cs.length : Int) = h := by simpa using hne
    rw [w_nil, wK_nx, w_cons, w_ret, w_blt, w_consE]
    refine (comp_map cs (fun c => .bl (cellB h c)) ?_).mono fun v S1 hv => ?_
    · rw [w_val]
      simp only [w_var, w_con, w_bin, w_neg, w_not, w_and, w_or, w_ite, w_cmp, w_chain, w_isN, w_tup, w_lst, w_idx, wO_none, wO_some, w_slc, w_blt, w_nilE, w_consE, wTy_some, w_isi, wApp_ref, w_app, wStr_str, w_mt1, w_told, w_calls, wCall_some, MEs.len, d_lenC, d_lenT, wVar_some, wBl_bl, wIt_int, wK_nx, wK_rt, wK_bk, wK_ct, wTg_some, wRt_rt, wRt_nx, wNx_nx, wNx_ct, BK.f, CK.f, FK.f, MK.f, d_addI, d_subI, d_mulI, d_fdivI, d_modI, d_powI, d_addT, d_addS, d_eqI, d_neI, d_ltI, d_leI, d_gtI, d_geI, d_negI, d_int, d_absI, d_idxT, d_idxC, wIx_0, wIx_1, wIx_2, wIx_3, setTg_nm, setTg_tp, setTgs_nil, setTgs_nm, setTgs_tp, Option.bind_some, List.map_cons, List.map_nil, List.cons_append, List.nil_append, List.getElem?_cons_zero, List.getElem?_cons_succ, List.set_cons_zero, List.set_cons_succ, List.replicate_succ, List.replicate_zero, Nat.reduceSub, Nat.reduceAdd, if_true, if_false, Bool.false_eq_true, List.length_cons, List.length_nil, decide_eq_true_eq, Nat.reduceLeDiff, true_and, d_walkT]
      refine ⟨Keep.refl _, fun S2 _ p hp => (by cases hp), by omega, fun d S2 hd k2 => ⟨_, rfl, ?_⟩⟩
      simp only [wipeD, List.set_cons_succ, List.set_cons_zero]
      rcases hc d hd with rfl | ⟨i, b, rfl⟩
      · simp only [w_var, w_con, w_bin, w_neg, w_not, w_and, w_or, w_ite, w_cmp, w_chain, w_isN, w_tup, w_lst, w_idx, wO_none, wO_some, w_slc, w_blt, w_nilE, w_consE, wTy_some, w_isi, wApp_ref, w_app, wStr_str, w_mt1, w_told, w_calls, wCall_some, MEs.len, d_lenC, d_lenT, wVar_some, wBl_bl, wIt_int, wK_nx, wK_rt, wK_bk, wK_ct, wTg_some, wRt_rt, wRt_nx, wNx_nx, wNx_ct, BK.f, CK.f, FK.f, MK.f, d_addI, d_subI, d_mulI, d_fdivI, d_modI, d_powI, d_addT, d_addS, d_eqI, d_neI, d_ltI, d_leI, d_gtI, d_geI, d_negI, d_int, d_absI, d_idxT, d_idxC, wIx_0, wIx_1, wIx_2, wIx_3, setTg_nm, setTg_tp, setTgs_nil, setTgs_nm, setTgs_tp, Option.bind_some, List.map_cons, List.map_nil, List.cons_append, List.nil_append, List.getElem?_cons_zero, List.getElem?_cons_succ, List.set_cons_zero, List.set_cons_succ, List.replicate_succ, List.replicate_zero, Nat.reduceSub, Nat.reduceAdd, if_true, if_false, Bool.false_eq_true, List.length_cons, List.length_nil, decide_eq_true_eq, Nat.reduceLeDiff, true_and, isNonD]
        exact ⟨rfl, Keep.refl _⟩
      · simp only [w_var, w_con, w_bin, w_neg, w_not, w_and, w_or, w_ite, w_cmp, w_chain, w_isN, w_tup, w_lst, w_idx, wO_none, wO_some, w_slc, w_blt, w_nilE, w_consE, wTy_some, w_isi, wApp_ref, w_app, wStr_str, w_mt1, w_told, w_calls, wCall_some, MEs.len, d_lenC, d_lenT, wVar_some, wBl_bl, wIt_int, wK_nx, wK_rt, wK_bk, wK_ct, wTg_some, wRt_rt, wRt_nx, wNx_nx, wNx_ct, BK.f, CK.f, FK.f, MK.f, d_addI, d_subI, d_mulI, d_fdivI, d_modI, d_powI, d_addT, d_addS, d_eqI, d_neI, d_ltI, d_leI, d_gtI, d_geI, d_negI, d_int, d_absI, d_idxT, d_idxC, wIx_0, wIx_1, wIx_2, wIx_3, setTg_nm, setTg_tp, setTgs_nil, setTgs_nm, setTgs_tp, Option.bind_some, List.map_cons, List.map_nil, List.cons_append, List.nil_append, List.getElem?_cons_zero, List.getElem?_cons_succ, List.set_cons_zero, List.set_cons_succ, List.replicate_succ, List.replicate_zero, Nat.reduceSub, Nat.reduceAdd, if_true, if_false, Bool.false_eq_true, List.length_cons, List.length_nil, decide_eq_true_eq, Nat.reduceLeDiff, true_and, isNonD, q_is_beat_is_throw]
        refine is_throw_.mono fun v S3 hv => ?_
        obtain ⟨rfl, rfl⟩ := hv
        exact ⟨rfl, Keep.refl _⟩
    · obtain ⟨m, rfl, _, hm, k⟩ := hv
      simp only [w_nilE, FK.f, d_all hm, wK_rt, wRt_rt]
      exact ⟨by rw [decide_eq_true hne]; rfl, k⟩
def beatB (h : Int) : D → Bool
  | .tup cs => decide ((cs.length : Int) = h) && cs.all (cellB h)
  | _ => false
def ShapeC (c : D) : Prop := c = .non ∨ ∃ (i : Int) (b : Bool), c = .tup [.int i, .bl b]
def ShapeB (b : D) : Prop := ∃ cs, b = .tup cs ∧ cs.length < 1000 ∧ ∀ c ∈ cs, ShapeC c
theorem Cell.shape {h : Int} {d : D} (c : Cell h d) : ShapeC d := by
  rcases c with rfl | ⟨i, b, rfl, _⟩
  · exact .inl rfl
  · exact .inr ⟨i, b, rfl⟩
theorem Beat.shape {h : Int} {d : D} (hh : h = 1 ∨ h = 2) (b : Beat h d) : ShapeB d := by
  obtain ⟨cs, rfl, hl, hc⟩ := b
  exact ⟨cs, rfl, by omega, fun c hm => (hc c hm).shape⟩
theorem beat_ok {h : Int} {d : D} (hh : h = 1 ∨ h = 2) (b : Beat h d) : beatB h d = true := by
  obtain ⟨cs, rfl, hl, hc⟩ := b
  simp only [beatB, Bool.and_eq_true, decide_eq_true_eq, List.all_eq_true]
  exact ⟨by omega, fun c hm => cell_ok hh (hc c hm)⟩
theorem is_part_ {h : Int} {lo hi : Int} {bs : List D} {S : Sto} (hh : h = 1 ∨ h = 2) (hl : bs.length < 1000) (hb : ∀ b ∈ bs, ShapeB b) :
    wpR (d_is_part [.int h, .tup bs, .int lo, .int hi] S) (fun v S' => v = .bl (decide (lo ≤ (bs.length : Int) ∧ (bs.length : Int) ≤ hi) && bs.all (beatB h)) ∧ Keep S S') noX := by
  unfold d_is_part
  refine den_wp rfl ?_
  unfold m_is_part
  rw [w_cons, w_if]
  simp only [w_var, w_con, w_bin, w_neg, w_not, w_and, w_or, w_ite, w_cmp, w_chain, w_isN, w_tup, w_lst, w_idx, wO_none, wO_some, w_slc, w_blt, w_nilE, w_consE, wTy_some, w_isi, wApp_ref, w_app, wStr_str, w_mt1, w_told, w_calls, wCall_some, MEs.len, d_lenC, d_lenT, wVar_some, wBl_bl, wIt_int, wK_nx, wK_rt, wK_bk, wK_ct, wTg_some, wRt_rt, wRt_nx, wNx_nx, wNx_ct, BK.f, CK.f, FK.f, MK.f, d_addI, d_subI, d_mulI, d_fdivI, d_modI, d_powI, d_addT, d_addS, d_eqI, d_neI, d_ltI, d_leI, d_gtI, d_geI, d_negI, d_int, d_absI, d_idxT, d_idxC, wIx_0, wIx_1, wIx_2, wIx_3, setTg_nm, setTg_tp, setTgs_nil, setTgs_nm, setTgs_tp, Option.bind_some, List.map_cons, List.map_nil, List.cons_append, List.nil_append, List.getElem?_cons_zero, List.getElem?_cons_succ, List.set_cons_zero, List.set_cons_succ, List.replicate_succ, List.replicate_zero, Nat.reduceSub, Nat.reduceAdd, if_true, if_false, Bool.false_eq_true, List.length_cons, List.length_nil, decide_eq_true_eq, Nat.reduceLeDiff, true_and, isTy, Bool.not_true, Bool.not_false]
  have no : ¬ (lo ≤ (bs.length : Int) ∧ (bs.length : Int) ≤ hi) → wpR (evSs Φ_is_part [.ret (.con (.bl false))] [some (.int h), some (.tup bs), some (.int lo), some (.int hi), none] S)
      (wK Φ_is_part [.ret (.blt .all (.cons (.comp (.val (.var 1)) (.nm 4) [4] .none (.call "is_beat" (.cons (.var 0) (.cons (.var 4) .nil)))) .nil))] (wRt fun v S' => v = .bl (decide (lo ≤ (bs.length : Int) ∧ (bs.length : Int) ≤ hi) && bs.all (beatB h)) ∧ Keep S S') noX) noX := by
    intro hne
    simp only [w_var, w_con, w_bin, w_neg, w_not, w_and, w_or, w_ite, w_cmp, w_chain, w_isN, w_tup, w_lst, w_idx, wO_none, wO_some, w_slc, w_blt, w_nilE, w_consE, wTy_some, w_isi, wApp_ref, w_app, wStr_str, w_mt1, w_told, w_calls, wCall_some, MEs.len, d_lenC, d_lenT, w_nil, w_cons, w_asg, w_sub, w_par, w_expr, w_ret, w_if, w_raise, w_pass, w_brk, w_cont, wVar_some, wBl_bl, wIt_int, wK_nx, wK_rt, wK_bk, wK_ct, wTg_some, wRt_rt, wRt_nx, wNx_nx, wNx_ct, BK.f, CK.f, FK.f, MK.f, d_addI, d_subI, d_mulI, d_fdivI, d_modI, d_powI, d_addT, d_addS, d_eqI, d_neI, d_ltI, d_leI, d_gtI, d_geI, d_negI, d_int, d_absI, d_idxT, d_idxC, wIx_0, wIx_1, wIx_2, wIx_3, setTg_nm, setTg_tp, setTgs_nil, setTgs_nm, setTgs_tp, Option.bind_some, List.map_cons, List.map_nil, List.cons_append, List.nil_append, List.getElem?_cons_zero, List.getElem?_cons_succ, List.set_cons_zero, List.set_cons_succ, List.replicate_succ, List.replicate_zero, Nat.reduceSub, Nat.reduceAdd, if_true, if_false, Bool.false_eq_true, List.length_cons, List.length_nil, decide_eq_true_eq, Nat.reduceLeDiff, true_and]
    exact ⟨by rw [decide_eq_false hne]; rfl, Keep.refl _⟩
  refine iteI (fun h1 => ?_) fun h1 => ?_
  · by_cases h2 : (bs.length : Int) ≤ hi
    · rw [decide_eq_true h2, Bool.not_true, if_neg (by simp), w_nil, wK_nx, w_cons, w_ret, w_blt, w_consE]
      refine (comp_map bs (fun c => .bl (beatB h c)) ?_).mono fun v S1 hv => ?_
      · rw [w_val]
        simp only [w_var, w_con, w_bin, w_neg, w_not, w_and, w_or, w_ite, w_cmp, w_chain, w_isN, w_tup, w_lst, w_idx, wO_none, wO_some, w_slc, w_blt, w_nilE, w_consE, wTy_some, w_isi, wApp_ref, w_app, wStr_str, w_mt1, w_told, w_calls, wCall_some, MEs.len, d_lenC, d_lenT, wVar_some, wBl_bl, wIt_int, wK_nx, wK_rt, wK_bk, wK_ct, wTg_some, wRt_rt, wRt_nx, wNx_nx, wNx_ct, BK.f, CK.f, FK.f, MK.f, d_addI, d_subI, d_mulI, d_fdivI, d_modI, d_powI, d_addT, d_addS, d_eqI, d_neI, d_ltI, d_leI, d_gtI, d_geI, d_negI, d_int, d_absI, d_idxT, d_idxC, wIx_0, wIx_1, wIx_2, wIx_3, setTg_nm, setTg_tp, setTgs_nil, setTgs_nm, setTgs_tp, Option.bind_some, List.map_cons, List.map_nil, List.cons_append, List.nil_append, List.getElem?_cons_zero, List.getElem?_cons_succ, List.set_cons_zero, List.set_cons_succ, List.replicate_succ, List.replicate_zero, Nat.reduceSub, Nat.reduceAdd, if_true, if_false, Bool.false_eq_true, List.length_cons, List.length_nil, decide_eq_true_eq, Nat.reduceLeDiff, true_and, d_walkT]
        refine ⟨Keep.refl _, fun S2 _ p hp => (by cases hp), by omega, fun d S2 hd k2 => ⟨_, rfl, ?_⟩⟩
        obtain ⟨cs, rfl, hcl, hcc⟩ := hb d hd
        simp only [w_var, w_con, w_bin, w_neg, w_not, w_and, w_or, w_ite, w_cmp, w_chain, w_isN, w_tup, w_lst, w_idx, wO_none, wO_some, w_slc, w_blt, w_nilE, w_consE, wTy_some, w_isi, wApp_ref, w_app, wStr_str, w_mt1, w_told, w_calls, wCall_some, MEs.len, d_lenC, d_lenT, wVar_some, wBl_bl, wIt_int, wK_nx, wK_rt, wK_bk, wK_ct, wTg_some, wRt_rt, wRt_nx, wNx_nx, wNx_ct, BK.f, CK.f, FK.f, MK.f, d_addI, d_subI, d_mulI, d_fdivI, d_modI, d_powI, d_addT, d_addS, d_eqI, d_neI, d_ltI, d_leI, d_gtI, d_geI, d_negI, d_int, d_absI, d_idxT, d_idxC, wIx_0, wIx_1, wIx_2, wIx_3, setTg_nm, setTg_tp, setTgs_nil, setTgs_nm, setTgs_tp, Option.bind_some, List.map_cons, List.map_nil, List.cons_append, List.nil_append, List.getElem?_cons_zero, List.getElem?_cons_succ, List.set_cons_zero, List.set_cons_succ, List.replicate_succ, List.replicate_zero, Nat.reduceSub, Nat.reduceAdd, if_true, if_false, Bool.false_eq_true, List.length_cons, List.length_nil, decide_eq_true_eq, Nat.reduceLeDiff, true_and, wipeD, q_is_part_is_beat]
        exact is_beat_ hh hcl hcc
      · obtain ⟨m, rfl, _, hm, k⟩ := hv
        simp only [w_nilE, FK.f, d_all hm, wK_rt, wRt_rt]
        exact ⟨by rw [decide_eq_true ⟨h1, h2⟩]; rfl, k⟩
    · rw [decide_eq_false h2, Bool.not_false, if_pos rfl]
      exact no fun z => h2 z.2
  · exact no fun z => h1 z.1
/-- what the program asks of four parts -/
def partB (h : Int) (lo hi : Nat) (bs : List D) : Bool := decide ((lo : Int) ≤ (bs.length : Int) ∧ (bs.length : Int) ≤ (hi : Int)) && bs.all (beatB h)
def planB (h : Int) (a b c : List D) : Bool := partB h 0 5 a && (partB h 0 5 c && partB h 1 5 b)
theorem is_partN {h : Int} {lo hi : Nat} {l u : Int} {bs : List D} {S : Sto} (hh : h = 1 ∨ h = 2) (hl : bs.length < 1000) (hb : ∀ b ∈ bs, ShapeB b) (el : l = lo) (eu : u = hi) :
    wpR (d_is_part [.int h, .tup bs, .int l, .int u] S) (fun v S' => v = .bl (partB h lo hi bs) ∧ Keep S S') noX := by
  subst el eu
  exact is_part_ hh hl hb
theorem is_plan_ {h : Int} {a b c : List D} {S : Sto} (hh : h = 1 ∨ h = 2) (ha : a.length < 1000) (hb : b.length < 1000) (hc : c.length < 1000) (sa : ∀ x ∈ a, ShapeB x) (sb : ∀ x ∈ b, ShapeB x) (sc : ∀ x ∈ c, ShapeB x) :
    wpR (d_is_plan [.tup [.int h, .tup a, .tup b, .tup c]] S) (fun v S' => v = .bl (planB h a b c) ∧ Keep S S') noX := by
  unfold d_is_plan
  refine den_wp rfl ?_
  unfold m_is_plan
  rw [w_cons, w_if]
  simp only [w_var, w_con, w_bin, w_neg, w_not, w_and, w_or, w_ite, w_cmp, w_chain, w_isN, w_tup, w_lst, w_idx, wO_none, wO_some, w_slc, w_blt, w_nilE, w_consE, wTy_some, w_isi, wApp_ref, w_app, wStr_str, w_mt1, w_told, w_calls, wCall_some, MEs.len, d_lenC, d_lenT, wVar_some, wBl_bl, wIt_int, wK_nx, wK_rt, wK_bk, wK_ct, wTg_some, wRt_rt, wRt_nx, wNx_nx, wNx_ct, BK.f, CK.f, FK.f, MK.f, d_addI, d_subI, d_mulI, d_fdivI, d_modI, d_powI, d_addT, d_addS, d_eqI, d_neI, d_ltI, d_leI, d_gtI, d_geI, d_negI, d_int, d_absI, d_idxT, d_idxC, wIx_0, wIx_1, wIx_2, wIx_3, setTg_nm, setTg_tp, setTgs_nil, setTgs_nm, setTgs_tp, Option.bind_some, List.map_cons, List.map_nil, List.cons_append, List.nil_append, List.getElem?_cons_zero, List.getElem?_cons_succ, List.set_cons_zero, List.set_cons_succ, List.replicate_succ, List.replicate_zero, Nat.reduceSub, Nat.reduceAdd, if_true, if_false, Bool.false_eq_true, List.length_cons, List.length_nil, decide_eq_true_eq, Nat.reduceLeDiff, true_and, isTy, Bool.not_true, Bool.not_false, q_is_plan_is_int, is_int_]
  rw [if_neg (by simp), if_neg (by simp; omega), w_nil, wK_nx, w_cons, w_asg]
  simp only [w_var, w_con, w_bin, w_neg, w_not, w_and, w_or, w_ite, w_cmp, w_chain, w_isN, w_tup, w_lst, w_idx, wO_none, wO_some, w_slc, w_blt, w_nilE, w_consE, wTy_some, w_isi, wApp_ref, w_app, wStr_str, w_mt1, w_told, w_calls, wCall_some, MEs.len, d_lenC, d_lenT, wVar_some, wBl_bl, wIt_int, wK_nx, wK_rt, wK_bk, wK_ct, wTg_some, wRt_rt, wRt_nx, wNx_nx, wNx_ct, BK.f, CK.f, FK.f, MK.f, d_addI, d_subI, d_mulI, d_fdivI, d_modI, d_powI, d_addT, d_addS, d_eqI, d_neI, d_ltI, d_leI, d_gtI, d_geI, d_negI, d_int, d_absI, d_idxT, d_idxC, wIx_0, wIx_1, wIx_2, wIx_3, setTg_nm, setTg_tp, setTgs_nil, setTgs_nm, setTgs_tp, Option.bind_some, List.map_cons, List.map_nil, List.cons_append, List.nil_append, List.getElem?_cons_zero, List.getElem?_cons_succ, List.set_cons_zero, List.set_cons_succ, List.replicate_succ, List.replicate_zero, Nat.reduceSub, Nat.reduceAdd, if_true, if_false, Bool.false_eq_true, List.length_cons, List.length_nil, decide_eq_true_eq, Nat.reduceLeDiff, true_and]
  rw [w_cons, w_if]
  simp only [w_var, w_con, w_bin, w_neg, w_not, w_and, w_or, w_ite, w_cmp, w_chain, w_isN, w_tup, w_lst, w_idx, wO_none, wO_some, w_slc, w_blt, w_nilE, w_consE, wTy_some, w_isi, wApp_ref, w_app, wStr_str, w_mt1, w_told, w_calls, wCall_some, MEs.len, d_lenC, d_lenT, wVar_some, wBl_bl, wIt_int, wK_nx, wK_rt, wK_bk, wK_ct, wTg_some, wRt_rt, wRt_nx, wNx_nx, wNx_ct, BK.f, CK.f, FK.f, MK.f, d_addI, d_subI, d_mulI, d_fdivI, d_modI, d_powI, d_addT, d_addS, d_eqI, d_neI, d_ltI, d_leI, d_gtI, d_geI, d_negI, d_int, d_absI, d_idxT, d_idxC, wIx_0, wIx_1, wIx_2, wIx_3, setTg_nm, setTg_tp, setTgs_nil, setTgs_nm, setTgs_tp, Option.bind_some, List.map_cons, List.map_nil, List.cons_append, List.nil_append, List.getElem?_cons_zero, List.getElem?_cons_succ, List.set_cons_zero, List.set_cons_succ, List.replicate_succ, List.replicate_zero, Nat.reduceSub, Nat.reduceAdd, if_true, if_false, Bool.false_eq_true, List.length_cons, List.length_nil, decide_eq_true_eq, Nat.reduceLeDiff, true_and, q_is_plan_is_part]
  refine (is_partN (lo := 0) (hi := 5) hh ha sa rfl rfl).mono fun v S1 hv => ?_
  obtain ⟨rfl, k1⟩ := hv
  simp only [w_var, w_con, w_bin, w_neg, w_not, w_and, w_or, w_ite, w_cmp, w_chain, w_isN, w_tup, w_lst, w_idx, wO_none, wO_some, w_slc, w_blt, w_nilE, w_consE, wTy_some, w_isi, wApp_ref, w_app, wStr_str, w_mt1, w_told, w_calls, wCall_some, MEs.len, d_lenC, d_lenT, wVar_some, wBl_bl, wIt_int, wK_nx, wK_rt, wK_bk, wK_ct, wTg_some, wRt_rt, wRt_nx, wNx_nx, wNx_ct, BK.f, CK.f, FK.f, MK.f, d_addI, d_subI, d_mulI, d_fdivI, d_modI, d_powI, d_addT, d_addS, d_eqI, d_neI, d_ltI, d_leI, d_gtI, d_geI, d_negI, d_int, d_absI, d_idxT, d_idxC, wIx_0, wIx_1, wIx_2, wIx_3, setTg_nm, setTg_tp, setTgs_nil, setTgs_nm, setTgs_tp, Option.bind_some, List.map_cons, List.map_nil, List.cons_append, List.nil_append, List.getElem?_cons_zero, List.getElem?_cons_succ, List.set_cons_zero, List.set_cons_succ, List.replicate_succ, List.replicate_zero, Nat.reduceSub, Nat.reduceAdd, if_true, if_false, Bool.false_eq_true, List.length_cons, List.length_nil, decide_eq_true_eq, Nat.reduceLeDiff, true_and, q_is_plan_is_part]
  cases h1 : partB h 0 5 a with
  | false =>
    simp only [w_var, w_con, w_bin, w_neg, w_not, w_and, w_or, w_ite, w_cmp, w_chain, w_isN, w_tup, w_lst, w_idx, wO_none, wO_some, w_slc, w_blt, w_nilE, w_consE, wTy_some, w_isi, wApp_ref, w_app, wStr_str, w_mt1, w_told, w_calls, wCall_some, MEs.len, d_lenC, d_lenT, w_nil, w_cons, w_asg, w_sub, w_par, w_expr, w_ret, w_if, w_raise, w_pass, w_brk, w_cont, wVar_some, wBl_bl, wIt_int, wK_nx, wK_rt, wK_bk, wK_ct, wTg_some, wRt_rt, wRt_nx, wNx_nx, wNx_ct, BK.f, CK.f, FK.f, MK.f, d_addI, d_subI, d_mulI, d_fdivI, d_modI, d_powI, d_addT, d_addS, d_eqI, d_neI, d_ltI, d_leI, d_gtI, d_geI, d_negI, d_int, d_absI, d_idxT, d_idxC, wIx_0, wIx_1, wIx_2, wIx_3, setTg_nm, setTg_tp, setTgs_nil, setTgs_nm, setTgs_tp, Option.bind_some, List.map_cons, List.map_nil, List.cons_append, List.nil_append, List.getElem?_cons_zero, List.getElem?_cons_succ, List.set_cons_zero, List.set_cons_succ, List.replicate_succ, List.replicate_zero, Nat.reduceSub, Nat.reduceAdd, if_true, if_false, Bool.false_eq_true, List.length_cons, List.length_nil, decide_eq_true_eq, Nat.reduceLeDiff, true_and, Bool.not_false]
    exact ⟨by simp [planB, h1], k1⟩
  | true =>
    simp only [w_var, w_con, w_bin, w_neg, w_not, w_and, w_or, w_ite, w_cmp, w_chain, w_isN, w_tup, w_lst, w_idx, wO_none, wO_some, w_slc, w_blt, w_nilE, w_consE, wTy_some, w_isi, wApp_ref, w_app, wStr_str, w_mt1, w_told, w_calls, wCall_some, MEs.len, d_lenC, d_lenT, wVar_some, wBl_bl, wIt_int, wK_nx, wK_rt, wK_bk, wK_ct, wTg_some, wRt_rt, wRt_nx, wNx_nx, wNx_ct, BK.f, CK.f, FK.f, MK.f, d_addI, d_subI, d_mulI, d_fdivI, d_modI, d_powI, d_addT, d_addS, d_eqI, d_neI, d_ltI, d_leI, d_gtI, d_geI, d_negI, d_int, d_absI, d_idxT, d_idxC, wIx_0, wIx_1, wIx_2, wIx_3, setTg_nm, setTg_tp, setTgs_nil, setTgs_nm, setTgs_tp, Option.bind_some, List.map_cons, List.map_nil, List.cons_append, List.nil_append, List.getElem?_cons_zero, List.getElem?_cons_succ, List.set_cons_zero, List.set_cons_succ, List.replicate_succ, List.replicate_zero, Nat.reduceSub, Nat.reduceAdd, if_true, if_false, Bool.false_eq_true, List.length_cons, List.length_nil, decide_eq_true_eq, Nat.reduceLeDiff, true_and, Bool.not_true, q_is_plan_is_part]
    refine (is_partN (lo := 0) (hi := 5) hh hc sc rfl rfl).mono fun v S2 hv => ?_
    obtain ⟨rfl, k2⟩ := hv
    cases h2 : partB h 0 5 c with
    | false =>
      simp only [w_var, w_con, w_bin, w_neg, w_not, w_and, w_or, w_ite, w_cmp, w_chain, w_isN, w_tup, w_lst, w_idx, wO_none, wO_some, w_slc, w_blt, w_nilE, w_consE, wTy_some, w_isi, wApp_ref, w_app, wStr_str, w_mt1, w_told, w_calls, wCall_some, MEs.len, d_lenC, d_lenT, w_nil, w_cons, w_asg, w_sub, w_par, w_expr, w_ret, w_if, w_raise, w_pass, w_brk, w_cont, wVar_some, wBl_bl, wIt_int, wK_nx, wK_rt, wK_bk, wK_ct, wTg_some, wRt_rt, wRt_nx, wNx_nx, wNx_ct, BK.f, CK.f, FK.f, MK.f, d_addI, d_subI, d_mulI, d_fdivI, d_modI, d_powI, d_addT, d_addS, d_eqI, d_neI, d_ltI, d_leI, d_gtI, d_geI, d_negI, d_int, d_absI, d_idxT, d_idxC, wIx_0, wIx_1, wIx_2, wIx_3, setTg_nm, setTg_tp, setTgs_nil, setTgs_nm, setTgs_tp, Option.bind_some, List.map_cons, List.map_nil, List.cons_append, List.nil_append, List.getElem?_cons_zero, List.getElem?_cons_succ, List.set_cons_zero, List.set_cons_succ, List.replicate_succ, List.replicate_zero, Nat.reduceSub, Nat.reduceAdd, if_true, if_false, Bool.false_eq_true, List.length_cons, List.length_nil, decide_eq_true_eq, Nat.reduceLeDiff, true_and, Bool.not_false]
      exact ⟨by simp [planB, h1, h2], k1.trans k2⟩
    | true =>
      try simp only [w_var, w_con, w_bin, w_neg, w_not, w_and, w_or, w_ite, w_cmp, w_chain, w_isN, w_tup, w_lst, w_idx, wO_none, wO_some, w_slc, w_blt, w_nilE, w_consE, wTy_some, w_isi, wApp_ref, w_app, wStr_str, w_mt1, w_told, w_calls, wCall_some, MEs.len, d_lenC, d_lenT, w_nil, w_cons, w_asg, w_sub, w_par, w_expr, w_ret, w_if, w_raise, w_pass, w_brk, w_cont, wVar_some, wBl_bl, wIt_int, wK_nx, wK_rt, wK_bk, wK_ct, wTg_some, wRt_rt, wRt_nx, wNx_nx, wNx_ct, BK.f, CK.f, FK.f, MK.f, d_addI, d_subI, d_mulI, d_fdivI, d_modI, d_powI, d_addT, d_addS, d_eqI, d_neI, d_ltI, d_leI, d_gtI, d_geI, d_negI, d_int, d_absI, d_idxT, d_idxC, wIx_0, wIx_1, wIx_2, wIx_3, setTg_nm, setTg_tp, setTgs_nil, setTgs_nm, setTgs_tp, Option.bind_some, List.map_cons, List.map_nil, List.cons_append, List.nil_append, List.getElem?_cons_zero, List.getElem?_cons_succ, List.set_cons_zero, List.set_cons_succ, List.replicate_succ, List.replicate_zero, Nat.reduceSub, Nat.reduceAdd, if_true, if_false, Bool.false_eq_true, List.length_cons, List.length_nil, decide_eq_true_eq, Nat.reduceLeDiff, true_and, Bool.not_true, q_is_plan_is_part]
      refine (is_partN (lo := 1) (hi := 5) hh hb sb rfl rfl).mono fun v S3 hv => ?_
      obtain ⟨rfl, k3⟩ := hv
      try simp only [w_var, w_con, w_bin, w_neg, w_not, w_and, w_or, w_ite, w_cmp, w_chain, w_isN, w_tup, w_lst, w_idx, wO_none, wO_some, w_slc, w_blt, w_nilE, w_consE, wTy_some, w_isi, wApp_ref, w_app, wStr_str, w_mt1, w_told, w_calls, wCall_some, MEs.len, d_lenC, d_lenT, w_nil, w_cons, w_asg, w_sub, w_par, w_expr, w_ret, w_if, w_raise, w_pass, w_brk, w_cont, wVar_some, wBl_bl, wIt_int, wK_nx, wK_rt, wK_bk, wK_ct, wTg_some, wRt_rt, wRt_nx, wNx_nx, wNx_ct, BK.f, CK.f, FK.f, MK.f, d_addI, d_subI, d_mulI, d_fdivI, d_modI, d_powI, d_addT, d_addS, d_eqI, d_neI, d_ltI, d_leI, d_gtI, d_geI, d_negI, d_int, d_absI, d_idxT, d_idxC, wIx_0, wIx_1, wIx_2, wIx_3, setTg_nm, setTg_tp, setTgs_nil, setTgs_nm, setTgs_tp, Option.bind_some, List.map_cons, List.map_nil, List.cons_append, List.nil_append, List.getElem?_cons_zero, List.getElem?_cons_succ, List.set_cons_zero, List.set_cons_succ, List.replicate_succ, List.replicate_zero, Nat.reduceSub, Nat.reduceAdd, if_true, if_false, Bool.false_eq_true, List.length_cons, List.length_nil, decide_eq_true_eq, Nat.reduceLeDiff, true_and]
      exact ⟨by simp [planB, h1, h2], (k1.trans k2).trans k3⟩
theorem part_ok {h : Int} {lo hi : Nat} {bs : List D} (hh : h = 1 ∨ h = 2) (hl : lo ≤ bs.length) (hu : bs.length ≤ hi) (hb : ∀ b ∈ bs, Beat h b) : partB h lo hi bs = true := by
  simp only [partB, Bool.and_eq_true, decide_eq_true_eq, List.all_eq_true]
  exact ⟨⟨by omega, by omega⟩, fun b hm => beat_ok hh (hb b hm)⟩
/-- a plan, its parts open -/
theorem PlanD.open_ {d : D} (p : PlanD d) : ∃ (h : Int) (a b c : List D), d = .tup [.int h, .tup a, .tup b, .tup c] ∧ (h = 1 ∨ h = 2) ∧ a.length ≤ 5 ∧ (1 ≤ b.length ∧ b.length ≤ 5) ∧ c.length ≤ 5 ∧ (∀ x ∈ a, Beat h x) ∧ (∀ x ∈ b, Beat h x) ∧ (∀ x ∈ c, Beat h x) := by
  obtain ⟨h, _, _, _, rfl, hh, ⟨k1, _, l1, a, rfl, e1, p1⟩, ⟨k2, m2, l2, b, rfl, e2, p2⟩, ⟨k3, _, l3, c, rfl, e3, p3⟩⟩ := p
  exact ⟨h, a, b, c, rfl, hh, by omega, ⟨by omega, by omega⟩, by omega, p1, p2, p3⟩
theorem is_plan_ok {d : D} {S : Sto} (p : PlanD d) : wpR (d_is_plan [d] S) (fun v S' => v = .bl true ∧ Keep S S') noX := by
  obtain ⟨h, a, b, c, rfl, hh, la, lb, lc, pa, pb, pc⟩ := p.open_
  refine (is_plan_ hh (by omega) (by omega) (by omega) (fun x hx => (pa x hx).shape hh) (fun x hx => (pb x hx).shape hh) fun x hx => (pc x hx).shape hh).mono fun v S1 hv => ⟨?_, hv.2⟩
  rw [hv.1, planB, part_ok hh (Nat.zero_le _) la pa, part_ok hh (Nat.zero_le _) lc pc, part_ok hh lb.1 lb.2 pb]
  rfl
/-- values that are none -/
def BadP (S : Sto) (d : D) : Prop := (isTy .tup d = some false) ∨ (∃ xs, d = .tup xs ∧ xs.length ≠ 4) ∨ ∃ (i : Int) (xs : List D), d = .tup (.int i :: xs) ∧ ¬ (1 ≤ i ∧ i ≤ 2)
theorem is_plan_bad {d : D} {S : Sto} (b : BadP S d) : wpR (d_is_plan [d] S) (fun v S' => v = .bl false ∧ Keep S S') noX := by
  unfold d_is_plan
  refine den_wp rfl ?_
  unfold m_is_plan
  rw [w_cons, w_if]
  rcases b with h | ⟨xs, rfl, h⟩ | ⟨i, xs, rfl, h⟩
  · simp only [w_var, w_con, w_bin, w_neg, w_not, w_and, w_or, w_ite, w_cmp, w_chain, w_isN, w_tup, w_lst, w_idx, wO_none, wO_some, w_slc, w_blt, w_nilE, w_consE, wTy_some, w_isi, wApp_ref, w_app, wStr_str, w_mt1, w_told, w_calls, wCall_some, MEs.len, d_lenC, d_lenT, w_nil, w_cons, w_asg, w_sub, w_par, w_expr, w_ret, w_if, w_raise, w_pass, w_brk, w_cont, wVar_some, wBl_bl, wIt_int, wK_nx, wK_rt, wK_bk, wK_ct, wTg_some, wRt_rt, wRt_nx, wNx_nx, wNx_ct, BK.f, CK.f, FK.f, MK.f, d_addI, d_subI, d_mulI, d_fdivI, d_modI, d_powI, d_addT, d_addS, d_eqI, d_neI, d_ltI, d_leI, d_gtI, d_geI, d_negI, d_int, d_absI, d_idxT, d_idxC, wIx_0, wIx_1, wIx_2, wIx_3, setTg_nm, setTg_tp, setTgs_nil, setTgs_nm, setTgs_tp, Option.bind_some, List.map_cons, List.map_nil, List.cons_append, List.nil_append, List.getElem?_cons_zero, List.getElem?_cons_succ, List.set_cons_zero, List.set_cons_succ, List.replicate_succ, List.replicate_zero, Nat.reduceSub, Nat.reduceAdd, if_true, if_false, Bool.false_eq_true, List.length_cons, List.length_nil, decide_eq_true_eq, Nat.reduceLeDiff, true_and, h, Bool.not_false]
    exact Keep.refl _
  · simp only [w_var, w_con, w_bin, w_neg, w_not, w_and, w_or, w_ite, w_cmp, w_chain, w_isN, w_tup, w_lst, w_idx, wO_none, wO_some, w_slc, w_blt, w_nilE, w_consE, wTy_some, w_isi, wApp_ref, w_app, wStr_str, w_mt1, w_told, w_calls, wCall_some, MEs.len, d_lenC, d_lenT, wVar_some, wBl_bl, wIt_int, wK_nx, wK_rt, wK_bk, wK_ct, wTg_some, wRt_rt, wRt_nx, wNx_nx, wNx_ct, BK.f, CK.f, FK.f, MK.f, d_addI, d_subI, d_mulI, d_fdivI, d_modI, d_powI, d_addT, d_addS, d_eqI, d_neI, d_ltI, d_leI, d_gtI, d_geI, d_negI, d_int, d_absI, d_idxT, d_idxC, wIx_0, wIx_1, wIx_2, wIx_3, setTg_nm, setTg_tp, setTgs_nil, setTgs_nm, setTgs_tp, Option.bind_some, List.map_cons, List.map_nil, List.cons_append, List.nil_append, List.getElem?_cons_zero, List.getElem?_cons_succ, List.set_cons_zero, List.set_cons_succ, List.replicate_succ, List.replicate_zero, Nat.reduceSub, Nat.reduceAdd, if_true, if_false, Bool.false_eq_true, List.length_cons, List.length_nil, decide_eq_true_eq, Nat.reduceLeDiff, true_and, isTy, Bool.not_true]
    rw [if_pos (by simp; omega)]
    simp only [w_var, w_con, w_bin, w_neg, w_not, w_and, w_or, w_ite, w_cmp, w_chain, w_isN, w_tup, w_lst, w_idx, wO_none, wO_some, w_slc, w_blt, w_nilE, w_consE, wTy_some, w_isi, wApp_ref, w_app, wStr_str, w_mt1, w_told, w_calls, wCall_some, MEs.len, d_lenC, d_lenT, w_nil, w_cons, w_asg, w_sub, w_par, w_expr, w_ret, w_if, w_raise, w_pass, w_brk, w_cont, wVar_some, wBl_bl, wIt_int, wK_nx, wK_rt, wK_bk, wK_ct, wTg_some, wRt_rt, wRt_nx, wNx_nx, wNx_ct, BK.f, CK.f, FK.f, MK.f, d_addI, d_subI, d_mulI, d_fdivI, d_modI, d_powI, d_addT, d_addS, d_eqI, d_neI, d_ltI, d_leI, d_gtI, d_geI, d_negI, d_int, d_absI, d_idxT, d_idxC, wIx_0, wIx_1, wIx_2, wIx_3, setTg_nm, setTg_tp, setTgs_nil, setTgs_nm, setTgs_tp, Option.bind_some, List.map_cons, List.map_nil, List.cons_append, List.nil_append, List.getElem?_cons_zero, List.getElem?_cons_succ, List.set_cons_zero, List.set_cons_succ, List.replicate_succ, List.replicate_zero, Nat.reduceSub, Nat.reduceAdd, if_true, if_false, Bool.false_eq_true, List.length_cons, List.length_nil, decide_eq_true_eq, Nat.reduceLeDiff, true_and]
    exact Keep.refl _
  · simp only [w_var, w_con, w_bin, w_neg, w_not, w_and, w_or, w_ite, w_cmp, w_chain, w_isN, w_tup, w_lst, w_idx, wO_none, wO_some, w_slc, w_blt, w_nilE, w_consE, wTy_some, w_isi, wApp_ref, w_app, wStr_str, w_mt1, w_told, w_calls, wCall_some, MEs.len, d_lenC, d_lenT, wVar_some, wBl_bl, wIt_int, wK_nx, wK_rt, wK_bk, wK_ct, wTg_some, wRt_rt, wRt_nx, wNx_nx, wNx_ct, BK.f, CK.f, FK.f, MK.f, d_addI, d_subI, d_mulI, d_fdivI, d_modI, d_powI, d_addT, d_addS, d_eqI, d_neI, d_ltI, d_leI, d_gtI, d_geI, d_negI, d_int, d_absI, d_idxT, d_idxC, wIx_0, wIx_1, wIx_2, wIx_3, setTg_nm, setTg_tp, setTgs_nil, setTgs_nm, setTgs_tp, Option.bind_some, List.map_cons, List.map_nil, List.cons_append, List.nil_append, List.getElem?_cons_zero, List.getElem?_cons_succ, List.set_cons_zero, List.set_cons_succ, List.replicate_succ, List.replicate_zero, Nat.reduceSub, Nat.reduceAdd, if_true, if_false, Bool.false_eq_true, List.length_cons, List.length_nil, decide_eq_true_eq, Nat.reduceLeDiff, true_and, isTy, Bool.not_true, q_is_plan_is_int, is_int_]
    refine iteI (fun _ => ?_) fun _ => ?_
    · simp only [w_var, w_con, w_bin, w_neg, w_not, w_and, w_or, w_ite, w_cmp, w_chain, w_isN, w_tup, w_lst, w_idx, wO_none, wO_some, w_slc, w_blt, w_nilE, w_consE, wTy_some, w_isi, wApp_ref, w_app, wStr_str, w_mt1, w_told, w_calls, wCall_some, MEs.len, d_lenC, d_lenT, w_nil, w_cons, w_asg, w_sub, w_par, w_expr, w_ret, w_if, w_raise, w_pass, w_brk, w_cont, wVar_some, wBl_bl, wIt_int, wK_nx, wK_rt, wK_bk, wK_ct, wTg_some, wRt_rt, wRt_nx, wNx_nx, wNx_ct, BK.f, CK.f, FK.f, MK.f, d_addI, d_subI, d_mulI, d_fdivI, d_modI, d_powI, d_addT, d_addS, d_eqI, d_neI, d_ltI, d_leI, d_gtI, d_geI, d_negI, d_int, d_absI, d_idxT, d_idxC, wIx_0, wIx_1, wIx_2, wIx_3, setTg_nm, setTg_tp, setTgs_nil, setTgs_nm, setTgs_tp, Option.bind_some, List.map_cons, List.map_nil, List.cons_append, List.nil_append, List.getElem?_cons_zero, List.getElem?_cons_succ, List.set_cons_zero, List.set_cons_succ, List.replicate_succ, List.replicate_zero, Nat.reduceSub, Nat.reduceAdd, if_true, if_false, Bool.false_eq_true, List.length_cons, List.length_nil, decide_eq_true_eq, Nat.reduceLeDiff, true_and]
      exact Keep.refl _
    · rw [if_pos (by simp only [decide_eq_false h]; rfl)]
      simp only [w_var, w_con, w_bin, w_neg, w_not, w_and, w_or, w_ite, w_cmp, w_chain, w_isN, w_tup, w_lst, w_idx, wO_none, wO_some, w_slc, w_blt, w_nilE, w_consE, wTy_some, w_isi, wApp_ref, w_app, wStr_str, w_mt1, w_told, w_calls, wCall_some, MEs.len, d_lenC, d_lenT, w_nil, w_cons, w_asg, w_sub, w_par, w_expr, w_ret, w_if, w_raise, w_pass, w_brk, w_cont, wVar_some, wBl_bl, wIt_int, wK_nx, wK_rt, wK_bk, wK_ct, wTg_some, wRt_rt, wRt_nx, wNx_nx, wNx_ct, BK.f, CK.f, FK.f, MK.f, d_addI, d_subI, d_mulI, d_fdivI, d_modI, d_powI, d_addT, d_addS, d_eqI, d_neI, d_ltI, d_leI, d_gtI, d_geI, d_negI, d_int, d_absI, d_idxT, d_idxC, wIx_0, wIx_1, wIx_2, wIx_3, setTg_nm, setTg_tp, setTgs_nil, setTgs_nm, setTgs_tp, Option.bind_some, List.map_cons, List.map_nil, List.cons_append, List.nil_append, List.getElem?_cons_zero, List.getElem?_cons_succ, List.set_cons_zero, List.set_cons_succ, List.replicate_succ, List.replicate_zero, Nat.reduceSub, Nat.reduceAdd, if_true, if_false, Bool.false_eq_true, List.length_cons, List.length_nil, decide_eq_true_eq, Nat.reduceLeDiff, true_and]
      exact Keep.refl _
theorem need_ok {d : D} {S : Sto} (p : PlanD d) : wpR (d_need_plan [d] S) (fun v S' => v = .non ∧ Keep S S') noX := by
  unfold d_need_plan
  refine den_wp rfl ?_
  unfold m_need_plan
  rw [w_cons, w_if]
  simp only [w_var, w_con, w_bin, w_neg, w_not, w_and, w_or, w_ite, w_cmp, w_chain, w_isN, w_tup, w_lst, w_idx, wO_none, wO_some, w_slc, w_blt, w_nilE, w_consE, wTy_some, w_isi, wApp_ref, w_app, wStr_str, w_mt1, w_told, w_calls, wCall_some, MEs.len, d_lenC, d_lenT, wVar_some, wBl_bl, wIt_int, wK_nx, wK_rt, wK_bk, wK_ct, wTg_some, wRt_rt, wRt_nx, wNx_nx, wNx_ct, BK.f, CK.f, FK.f, MK.f, d_addI, d_subI, d_mulI, d_fdivI, d_modI, d_powI, d_addT, d_addS, d_eqI, d_neI, d_ltI, d_leI, d_gtI, d_geI, d_negI, d_int, d_absI, d_idxT, d_idxC, wIx_0, wIx_1, wIx_2, wIx_3, setTg_nm, setTg_tp, setTgs_nil, setTgs_nm, setTgs_tp, Option.bind_some, List.map_cons, List.map_nil, List.cons_append, List.nil_append, List.getElem?_cons_zero, List.getElem?_cons_succ, List.set_cons_zero, List.set_cons_succ, List.replicate_succ, List.replicate_zero, Nat.reduceSub, Nat.reduceAdd, if_true, if_false, Bool.false_eq_true, List.length_cons, List.length_nil, decide_eq_true_eq, Nat.reduceLeDiff, true_and, q_need_plan_is_plan]
  refine (is_plan_ok p).mono fun v S1 hv => ?_
  obtain ⟨rfl, k⟩ := hv
  simp only [w_var, w_con, w_bin, w_neg, w_not, w_and, w_or, w_ite, w_cmp, w_chain, w_isN, w_tup, w_lst, w_idx, wO_none, wO_some, w_slc, w_blt, w_nilE, w_consE, wTy_some, w_isi, wApp_ref, w_app, wStr_str, w_mt1, w_told, w_calls, wCall_some, MEs.len, d_lenC, d_lenT, w_nil, w_cons, w_asg, w_sub, w_par, w_expr, w_ret, w_if, w_raise, w_pass, w_brk, w_cont, wVar_some, wBl_bl, wIt_int, wK_nx, wK_rt, wK_bk, wK_ct, wTg_some, wRt_rt, wRt_nx, wNx_nx, wNx_ct, BK.f, CK.f, FK.f, MK.f, d_addI, d_subI, d_mulI, d_fdivI, d_modI, d_powI, d_addT, d_addS, d_eqI, d_neI, d_ltI, d_leI, d_gtI, d_geI, d_negI, d_int, d_absI, d_idxT, d_idxC, wIx_0, wIx_1, wIx_2, wIx_3, setTg_nm, setTg_tp, setTgs_nil, setTgs_nm, setTgs_tp, Option.bind_some, List.map_cons, List.map_nil, List.cons_append, List.nil_append, List.getElem?_cons_zero, List.getElem?_cons_succ, List.set_cons_zero, List.set_cons_succ, List.replicate_succ, List.replicate_zero, Nat.reduceSub, Nat.reduceAdd, if_true, if_false, Bool.false_eq_true, List.length_cons, List.length_nil, decide_eq_true_eq, Nat.reduceLeDiff, true_and, Bool.not_true]
  exact k
theorem need_bad {d : D} {S : Sto} (b : BadP S d) : wpR (d_need_plan [d] S) (fun _ _ => False) (fun x p S' => x = "InvalidPlan" ∧ p = none ∧ Keep S S') := by
  unfold d_need_plan
  refine den_wp rfl ?_
  unfold m_need_plan
  rw [w_cons, w_if]
  simp only [w_var, w_con, w_bin, w_neg, w_not, w_and, w_or, w_ite, w_cmp, w_chain, w_isN, w_tup, w_lst, w_idx, wO_none, wO_some, w_slc, w_blt, w_nilE, w_consE, wTy_some, w_isi, wApp_ref, w_app, wStr_str, w_mt1, w_told, w_calls, wCall_some, MEs.len, d_lenC, d_lenT, wVar_some, wBl_bl, wIt_int, wK_nx, wK_rt, wK_bk, wK_ct, wTg_some, wRt_rt, wRt_nx, wNx_nx, wNx_ct, BK.f, CK.f, FK.f, MK.f, d_addI, d_subI, d_mulI, d_fdivI, d_modI, d_powI, d_addT, d_addS, d_eqI, d_neI, d_ltI, d_leI, d_gtI, d_geI, d_negI, d_int, d_absI, d_idxT, d_idxC, wIx_0, wIx_1, wIx_2, wIx_3, setTg_nm, setTg_tp, setTgs_nil, setTgs_nm, setTgs_tp, Option.bind_some, List.map_cons, List.map_nil, List.cons_append, List.nil_append, List.getElem?_cons_zero, List.getElem?_cons_succ, List.set_cons_zero, List.set_cons_succ, List.replicate_succ, List.replicate_zero, Nat.reduceSub, Nat.reduceAdd, if_true, if_false, Bool.false_eq_true, List.length_cons, List.length_nil, decide_eq_true_eq, Nat.reduceLeDiff, true_and, q_need_plan_is_plan]
  refine (is_plan_bad b).anyX.mono fun v S1 hv => ?_
  obtain ⟨rfl, k⟩ := hv
  simp only [w_var, w_con, w_bin, w_neg, w_not, w_and, w_or, w_ite, w_cmp, w_chain, w_isN, w_tup, w_lst, w_idx, wO_none, wO_some, w_slc, w_blt, w_nilE, w_consE, wTy_some, w_isi, wApp_ref, w_app, wStr_str, w_mt1, w_told, w_calls, wCall_some, MEs.len, d_lenC, d_lenT, w_nil, w_cons, w_asg, w_sub, w_par, w_expr, w_ret, w_if, w_raise, w_pass, w_brk, w_cont, wVar_some, wBl_bl, wIt_int, wK_nx, wK_rt, wK_bk, wK_ct, wTg_some, wRt_rt, wRt_nx, wNx_nx, wNx_ct, BK.f, CK.f, FK.f, MK.f, d_addI, d_subI, d_mulI, d_fdivI, d_modI, d_powI, d_addT, d_addS, d_eqI, d_neI, d_ltI, d_leI, d_gtI, d_geI, d_negI, d_int, d_absI, d_idxT, d_idxC, wIx_0, wIx_1, wIx_2, wIx_3, setTg_nm, setTg_tp, setTgs_nil, setTgs_nm, setTgs_tp, Option.bind_some, List.map_cons, List.map_nil, List.cons_append, List.nil_append, List.getElem?_cons_zero, List.getElem?_cons_succ, List.set_cons_zero, List.set_cons_succ, List.replicate_succ, List.replicate_zero, Nat.reduceSub, Nat.reduceAdd, if_true, if_false, Bool.false_eq_true, List.length_cons, List.length_nil, decide_eq_true_eq, Nat.reduceLeDiff, true_and, Bool.not_false]
  exact k
end T

end
section
set_option Elab.async false
set_option linter.all false
set_option maxRecDepth 100000
set_option maxHeartbeats 4000000
set_option autoImplicit false
/-! Plain laws, part G: texts. -/
namespace T
open PySem DV
section
variable {Φ : Tab} {σ : DV.Env} {S : Sto} {Q : D → Sto → Prop} {X : Str → Option (Str × D) → Sto → Prop} {QF : Fl → Sto → Prop}
theorem d_strI {i : Int} : wpR (strD [.int i] S) Q X = (i.natAbs.log2 < 1920 ∧ Q (.str (toString i)) S) := by
  show wpR (if i.natAbs.log2 < 1920 then Res.ok (D.str (toString i)) S else .bad) Q X = _
  rw [wpR_if, wpR_ok]
theorem asStrs_map {f : D → Str} : ∀ xs : List D, asStrs (xs.map fun x => D.str (f x)) = some (xs.map f)
  | [] => rfl
  | x :: xs => by
    simp only [List.map_cons, asStrs, asStrs_map xs, Option.map_some]
theorem asStrs_strs : ∀ xs : List Str, asStrs (xs.map D.str) = some xs
  | [] => rfl
  | x :: xs => by
    simp only [List.map_cons, asStrs, asStrs_strs xs, Option.map_some]
theorem d_join {m : Nat} {z : Str} {xs : List Str} (h : S[m]? = some (.lst (xs.map D.str))) : wpR (joinD z (.ref m) S) Q X = ((xs.map (·.length)).sum + xs.length * z.length ≤ 16777216 ∧ Q (.str (Txt.join z xs)) S) := by
  unfold joinD
  simp only [lstOf, h, asStrs_strs]
  rw [wpR_if, wpR_ok]
end
/-- the text of a cell -/
def cellT : D → Str
  | .tup [.int i, .bl b] => (toString i : Str) ++ (if b = true then ("p" : Str) else "")
  | _ => "_"
theorem ten {i : Int} (h1 : -3 ≤ i) (h2 : i ≤ 6) : i = -3 ∨ i = -2 ∨ i = -1 ∨ i = 0 ∨ i = 1 ∨ i = 2 ∨ i = 3 ∨ i = 4 ∨ i = 5 ∨ i = 6 := by omega
theorem cellT_len {h : Int} {c : D} (hc : Cell h c) : (cellT c).length ≤ 3 := by
  rcases hc with rfl | ⟨i, b, rfl, h1, h2, _⟩
  · decide
  · rcases ten h1 h2 with e | e | e | e | e | e | e | e | e | e <;> subst e <;> cases b <;> decide +kernel
theorem szl (k : Nat) (h : k ≤ 16777216) : k ≤ sizeLine := by rw [sizeLine_eq]; exact h
theorem cell_text_ {h : Int} {c : D} {S : Sto} (hc : Cell h c) : wpR (d_cell_text [c] S) (fun v S' => v = .str (cellT c) ∧ S' = S) noX := by
  have hl := cellT_len hc
  unfold d_cell_text
  refine den_wp rfl ?_
  unfold m_cell_text
  rcases hc with rfl | ⟨i, b, rfl, h1, h2, _⟩
  · simp only [w_var, w_con, w_bin, w_neg, w_not, w_and, w_or, w_ite, w_cmp, w_chain, w_isN, w_tup, w_lst, w_idx, wO_none, wO_some, w_slc, w_blt, w_nilE, w_consE, wTy_some, w_isi, wApp_ref, w_app, wStr_str, w_mt1, w_told, w_calls, wCall_some, MEs.len, d_lenC, d_lenT, w_nil, w_cons, w_asg, w_sub, w_par, w_expr, w_ret, w_if, w_raise, w_pass, w_brk, w_cont, wVar_some, wBl_bl, wIt_int, wK_nx, wK_rt, wK_bk, wK_ct, wTg_some, wRt_rt, wRt_nx, wNx_nx, wNx_ct, BK.f, CK.f, FK.f, MK.f, d_addI, d_subI, d_mulI, d_fdivI, d_modI, d_powI, d_addT, d_addS, d_eqI, d_neI, d_ltI, d_leI, d_gtI, d_geI, d_negI, d_int, d_absI, d_idxT, d_idxC, wIx_0, wIx_1, wIx_2, wIx_3, setTg_nm, setTg_tp, setTgs_nil, setTgs_nm, setTgs_tp, Option.bind_some, List.map_cons, List.map_nil, List.cons_append, List.nil_append, List.getElem?_cons_zero, List.getElem?_cons_succ, List.set_cons_zero, List.set_cons_succ, List.replicate_succ, List.replicate_zero, Nat.reduceSub, Nat.reduceAdd, if_true, if_false, Bool.false_eq_true, List.length_cons, List.length_nil, decide_eq_true_eq, Nat.reduceLeDiff, true_and, isNonD, Bool.false_xor]
    exact ⟨rfl, trivial⟩
  · have l1 : i.natAbs.log2 < 1920 := by
      have := log2_lt (i := i) (k := 3) (by omega)
      omega
    simp only [w_var, w_con, w_bin, w_neg, w_not, w_and, w_or, w_ite, w_cmp, w_chain, w_isN, w_tup, w_lst, w_idx, wO_none, wO_some, w_slc, w_blt, w_nilE, w_consE, wTy_some, w_isi, wApp_ref, w_app, wStr_str, w_mt1, w_told, w_calls, wCall_some, MEs.len, d_lenC, d_lenT, w_nil, w_cons, w_asg, w_sub, w_par, w_expr, w_ret, w_if, w_raise, w_pass, w_brk, w_cont, wVar_some, wBl_bl, wIt_int, wK_nx, wK_rt, wK_bk, wK_ct, wTg_some, wRt_rt, wRt_nx, wNx_nx, wNx_ct, BK.f, CK.f, FK.f, MK.f, d_addI, d_subI, d_mulI, d_fdivI, d_modI, d_powI, d_addT, d_addS, d_eqI, d_neI, d_ltI, d_leI, d_gtI, d_geI, d_negI, d_int, d_absI, d_idxT, d_idxC, wIx_0, wIx_1, wIx_2, wIx_3, setTg_nm, setTg_tp, setTgs_nil, setTgs_nm, setTgs_tp, Option.bind_some, List.map_cons, List.map_nil, List.cons_append, List.nil_append, List.getElem?_cons_zero, List.getElem?_cons_succ, List.set_cons_zero, List.set_cons_succ, List.replicate_succ, List.replicate_zero, Nat.reduceSub, Nat.reduceAdd, if_true, if_false, Bool.false_eq_true, List.length_cons, List.length_nil, decide_eq_true_eq, Nat.reduceLeDiff, true_and, isNonD, Bool.false_xor, d_strI]
    have l2 : (toString i : Str).length ≤ 2 := by
      rcases ten h1 h2 with e | e | e | e | e | e | e | e | e | e <;> subst e <;> decide +kernel
    have p1 : (("p" : Str)).length = 1 := by decide
    have p0 : (("" : Str)).length = 0 := by decide
    refine ⟨l1, iteI (fun hb => ?_) fun hb => ?_⟩
    · subst hb
      exact ⟨szl _ (by rw [p1]; omega), rfl, trivial⟩
    · have hb : b = false := by simpa using hb
      subst hb
      exact ⟨szl _ (by rw [p0]; omega), rfl, trivial⟩
/-- the text of a beat -/
def cellsOf : D → List D
  | .tup cs => cs
  | _ => []
def beatT (d : D) : Str := Txt.join "/" ((cellsOf d).map cellT)
theorem beat_text_ {h : Int} {d : D} {S : Sto} (hh : h = 1 ∨ h = 2) (hb : Beat h d) : wpR (d_beat_text [d] S) (fun v S' => v = .str (beatT d) ∧ Keep S S') noX := by
  obtain ⟨cs, rfl, hl, hc⟩ := hb
  unfold d_beat_text
  refine den_wp rfl ?_
  unfold m_beat_text
  rw [w_cons, w_ret, w_mt1]
  simp only [w_con, wStr_str]
  refine (comp_map cs (fun c => .str (cellT c)) ?_).mono fun v S1 hv => ?_
  · rw [w_val]
    simp only [w_var, w_con, w_bin, w_neg, w_not, w_and, w_or, w_ite, w_cmp, w_chain, w_isN, w_tup, w_lst, w_idx, wO_none, wO_some, w_slc, w_blt, w_nilE, w_consE, wTy_some, w_isi, wApp_ref, w_app, wStr_str, w_mt1, w_told, w_calls, wCall_some, MEs.len, d_lenC, d_lenT, wVar_some, wBl_bl, wIt_int, wK_nx, wK_rt, wK_bk, wK_ct, wTg_some, wRt_rt, wRt_nx, wNx_nx, wNx_ct, BK.f, CK.f, FK.f, MK.f, d_addI, d_subI, d_mulI, d_fdivI, d_modI, d_powI, d_addT, d_addS, d_eqI, d_neI, d_ltI, d_leI, d_gtI, d_geI, d_negI, d_int, d_absI, d_idxT, d_idxC, wIx_0, wIx_1, wIx_2, wIx_3, setTg_nm, setTg_tp, setTgs_nil, setTgs_nm, setTgs_tp, Option.bind_some, List.map_cons, List.map_nil, List.cons_append, List.nil_append, List.getElem?_cons_zero, List.getElem?_cons_succ, List.set_cons_zero, List.set_cons_succ, List.replicate_succ, List.replicate_zero, Nat.reduceSub, Nat.reduceAdd, if_true, if_false, Bool.false_eq_true, List.length_cons, List.length_nil, decide_eq_true_eq, Nat.reduceLeDiff, true_and, d_walkT]
    refine ⟨Keep.refl _, fun S2 _ p hp => (by cases hp), by omega, fun d S2 hd k2 => ⟨_, rfl, ?_⟩⟩
    simp only [w_var, w_con, w_bin, w_neg, w_not, w_and, w_or, w_ite, w_cmp, w_chain, w_isN, w_tup, w_lst, w_idx, wO_none, wO_some, w_slc, w_blt, w_nilE, w_consE, wTy_some, w_isi, wApp_ref, w_app, wStr_str, w_mt1, w_told, w_calls, wCall_some, MEs.len, d_lenC, d_lenT, wVar_some, wBl_bl, wIt_int, wK_nx, wK_rt, wK_bk, wK_ct, wTg_some, wRt_rt, wRt_nx, wNx_nx, wNx_ct, BK.f, CK.f, FK.f, MK.f, d_addI, d_subI, d_mulI, d_fdivI, d_modI, d_powI, d_addT, d_addS, d_eqI, d_neI, d_ltI, d_leI, d_gtI, d_geI, d_negI, d_int, d_absI, d_idxT, d_idxC, wIx_0, wIx_1, wIx_2, wIx_3, setTg_nm, setTg_tp, setTgs_nil, setTgs_nm, setTgs_tp, Option.bind_some, List.map_cons, List.map_nil, List.cons_append, List.nil_append, List.getElem?_cons_zero, List.getElem?_cons_succ, List.set_cons_zero, List.set_cons_succ, List.replicate_succ, List.replicate_zero, Nat.reduceSub, Nat.reduceAdd, if_true, if_false, Bool.false_eq_true, List.length_cons, List.length_nil, decide_eq_true_eq, Nat.reduceLeDiff, true_and, wipeD, q_beat_text_cell_text]
    refine (cell_text_ (hc d hd)).mono fun v S3 hv => ?_
    obtain ⟨rfl, rfl⟩ := hv
    exact ⟨rfl, Keep.refl _⟩
  · obtain ⟨m, rfl, _, hm, k⟩ := hv
    have hm' : S1[m]? = some (.lst ((cs.map cellT).map D.str)) := by rw [hm, List.map_map]; rfl
    have hs : ((cs.map cellT).map (·.length)).sum + (cs.map cellT).length * (("/" : Str)).length ≤ 16777216 := by
      have e1 : (("/" : Str)).length = 1 := by decide
      rw [e1, List.length_map]
      have : ((cs.map cellT).map (·.length)).sum ≤ cs.length * 3 := by
        clear hm hm' hl
        induction cs with
        | nil => simp
        | cons c cs ih =>
          have := cellT_len (hc c List.mem_cons_self)
          have := ih fun c' h' => hc c' (List.mem_cons_of_mem _ h')
          simp only [List.map_cons, List.sum_cons, List.length_cons]
          omega
      omega
    simp only [MK.f, d_join hm', wK_rt, wRt_rt]
    exact ⟨hs, rfl, k⟩
end T

end
section
set_option Elab.async false
set_option linter.all false
set_option maxRecDepth 100000
set_option maxHeartbeats 4000000
set_option autoImplicit false
/-! Plain laws, part H: whole texts. -/
namespace T
open PySem DV
section
variable {Φ : Tab} {σ : DV.Env} {S : Sto} {Q : D → Sto → Prop} {X : Str → Option (Str × D) → Sto → Prop} {QF : Fl → Sto → Prop}
theorem forD_step {lk : List (Nat × List D)} {t : Tg} {f : DS} {d : D} {ds : List D} {σ σ1 : DV.Env} (hl : Locked S lk) (hs : setTg t d σ = some σ1) (h : wpR (f σ1 S) (wNx fun σ2 S' => wpR (forD lk t f ds σ2 S') QF X) X) : wpR (forD lk t f (d :: ds) σ S) QF X := by
  rw [forD, if_pos hl, hs]
  dsimp only
  rw [wpR_bind]
  refine h.mono fun fl S1 hf => ?_
  cases fl with
  | nx σ2 => exact hf
  | ct σ2 => exact hf
  | bk σ2 => exact hf.elim
  | rt d => exact hf.elim
theorem forD_end {lk : List (Nat × List D)} {t : Tg} {f : DS} (hl : Locked S lk) (h : QF (.nx σ) S) : wpR (forD lk t f [] σ S) QF X := by
  rw [forD, if_pos hl]
  exact .ok h
theorem locked_nil : Locked S [] := fun p hp => by cases hp
theorem w_zip {a b : ME} {Q : Walk → Sto → Prop} : wpR (evW Φ (.zip a b) σ S) Q X = wpR (evE Φ a σ S) (fun d S1 => wpR (evE Φ b σ S1) (fun e S2 => wpR (zipD d e S2) Q X) X) X := by
  simp only [evW, wpR_bind]
theorem d_zipT {xs ys : List D} {Q : Walk → Sto → Prop} : wpR (zipD (.tup xs) (.tup ys) S) Q X = Q (zipW ⟨xs, []⟩ ⟨ys, []⟩) S := by
  unfold zipD
  simp only [walkD, wpR_bind, wpR_ok]
theorem d_addR {a b : Nat} {xs ys : List D} (h1 : S[a]? = some (.lst xs)) (h2 : S[b]? = some (.lst ys)) : wpR (addD (.ref a) (.ref b) S) Q X = (xs.length + ys.length ≤ sizeLine ∧ Q (.ref S.length) (S ++ [.lst (xs ++ ys)])) := by
  unfold addD
  simp only [h1, h2]
  rw [wpR_if, wpR_ok]
end
theorem new_at {S : Sto} {l : LO} : (S ++ [l])[S.length]? = some l := by
  rw [List.getElem?_append_right (Nat.le_refl _), Nat.sub_self]
  rfl
theorem join_len (y : Str) (xs : List Str) : (Txt.join y xs).length ≤ (xs.map (·.length)).sum + xs.length * y.length := by
  rw [TL.join_eq]
  exact StrLaws.join_length_le y xs
theorem sum_le {α : Type} {f : α → Nat} {k : Nat} : ∀ {xs : List α}, (∀ x ∈ xs, f x ≤ k) → (xs.map f).sum ≤ xs.length * k
  | [], _ => by simp
  | x :: xs, h => by
    have h1 := h x List.mem_cons_self
    have h2 := sum_le (xs := xs) fun y hy => h y (List.mem_cons_of_mem _ hy)
    simp only [List.map_cons, List.sum_cons, List.length_cons, Nat.succ_mul]
    omega
theorem beatT_len {h : Int} {d : D} (hh : h = 1 ∨ h = 2) (hb : Beat h d) : (beatT d).length ≤ 8 := by
  obtain ⟨cs, rfl, hl, hc⟩ := hb
  refine Nat.le_trans (join_len _ _) ?_
  have e1 : (("/" : Str)).length = 1 := by decide
  have := sum_le (f := fun x : Str => x.length) (k := 3) (xs := cs.map cellT) (by
    intro x hx
    obtain ⟨c, hc', rfl⟩ := List.mem_map.mp hx
    exact cellT_len (hc c hc'))
  show ((cs.map cellT).map (·.length)).sum + (cs.map cellT).length * _ ≤ 8
  rw [e1]
  rw [List.length_map] at this ⊢
  omega
/-- the text of a line -/
def lineT (w : Str) (bs : List D) : Str := Txt.join " " (w :: bs.map beatT)
theorem lineT_len {h : Int} {w : Str} {bs : List D} (hh : h = 1 ∨ h = 2) (hw : w.length ≤ 10) (hl : bs.length ≤ 5) (hb : ∀ b ∈ bs, Beat h b) : (lineT w bs).length ≤ 60 := by
  refine Nat.le_trans (join_len _ _) ?_
  have e1 : ((" " : Str)).length = 1 := by decide
  have := sum_le (f := fun x : Str => x.length) (k := 8) (xs := bs.map beatT) (by
    intro x hx
    obtain ⟨c, hc', rfl⟩ := List.mem_map.mp hx
    exact beatT_len hh (hb c hc'))
  rw [e1]
  simp only [List.map_cons, List.sum_cons, List.length_cons, List.length_map] at this ⊢
  omega
/-- a part's line, as the program makes it -/
theorem line_ {Φ : Tab} {h : Int} {S : Sto} {w : Str} {bs : List D} {x0 x1 x4 : Option D} (hq : Tab.of Φ 1 (Str.ofString "beat_text") = some d_beat_text) (hh : h = 1 ∨ h = 2) (hw : w.length ≤ 10) (hl : bs.length ≤ 5) (hb : ∀ b ∈ bs, Beat h b) :
    wpR (evE Φ (.mt1 .join (.con (.str " ")) (.bin .add (.lst (.cons (.var 2) .nil)) (.comp (.val (.var 3)) (.nm 4) [4] .none (.call (Str.ofString "beat_text") (.cons (.var 4) .nil))))) [x0, x1, some (.str w), some (.tup bs), x4] S) (fun v S' => v = .str (lineT w bs) ∧ Keep S S') noX := by
  rw [w_mt1]
  simp only [w_con, wStr_str]
  rw [w_bin]
  simp only [w_var, w_con, w_bin, w_neg, w_not, w_and, w_or, w_ite, w_cmp, w_chain, w_isN, w_tup, w_lst, w_idx, wO_none, wO_some, w_slc, w_blt, w_nilE, w_consE, wTy_some, w_isi, wApp_ref, w_app, wStr_str, w_mt1, w_told, w_calls, wCall_some, MEs.len, d_lenC, d_lenT, wVar_some, wBl_bl, wIt_int, wK_nx, wK_rt, wK_bk, wK_ct, wTg_some, wRt_rt, wRt_nx, wNx_nx, wNx_ct, BK.f, CK.f, FK.f, MK.f, d_addI, d_subI, d_mulI, d_fdivI, d_modI, d_powI, d_addT, d_addS, d_eqI, d_neI, d_ltI, d_leI, d_gtI, d_geI, d_negI, d_int, d_absI, d_idxT, d_idxC, wIx_0, wIx_1, wIx_2, wIx_3, setTg_nm, setTg_tp, setTgs_nil, setTgs_nm, setTgs_tp, Option.bind_some, List.map_cons, List.map_nil, List.cons_append, List.nil_append, List.getElem?_cons_zero, List.getElem?_cons_succ, List.set_cons_zero, List.set_cons_succ, List.replicate_succ, List.replicate_zero, Nat.reduceSub, Nat.reduceAdd, if_true, if_false, Bool.false_eq_true, List.length_cons, List.length_nil, decide_eq_true_eq, Nat.reduceLeDiff, true_and]
  refine (comp_map bs (fun c => .str (beatT c)) ?_).mono fun v S1 hv => ?_
  · rw [w_val]
    simp only [w_var, w_con, w_bin, w_neg, w_not, w_and, w_or, w_ite, w_cmp, w_chain, w_isN, w_tup, w_lst, w_idx, wO_none, wO_some, w_slc, w_blt, w_nilE, w_consE, wTy_some, w_isi, wApp_ref, w_app, wStr_str, w_mt1, w_told, w_calls, wCall_some, MEs.len, d_lenC, d_lenT, wVar_some, wBl_bl, wIt_int, wK_nx, wK_rt, wK_bk, wK_ct, wTg_some, wRt_rt, wRt_nx, wNx_nx, wNx_ct, BK.f, CK.f, FK.f, MK.f, d_addI, d_subI, d_mulI, d_fdivI, d_modI, d_powI, d_addT, d_addS, d_eqI, d_neI, d_ltI, d_leI, d_gtI, d_geI, d_negI, d_int, d_absI, d_idxT, d_idxC, wIx_0, wIx_1, wIx_2, wIx_3, setTg_nm, setTg_tp, setTgs_nil, setTgs_nm, setTgs_tp, Option.bind_some, List.map_cons, List.map_nil, List.cons_append, List.nil_append, List.getElem?_cons_zero, List.getElem?_cons_succ, List.set_cons_zero, List.set_cons_succ, List.replicate_succ, List.replicate_zero, Nat.reduceSub, Nat.reduceAdd, if_true, if_false, Bool.false_eq_true, List.length_cons, List.length_nil, decide_eq_true_eq, Nat.reduceLeDiff, true_and, d_walkT]
    refine ⟨Keep.refl _, fun S2 _ p hp => (by cases hp), by omega, fun d S2 hd k2 => ⟨_, rfl, ?_⟩⟩
    simp only [w_var, w_con, w_bin, w_neg, w_not, w_and, w_or, w_ite, w_cmp, w_chain, w_isN, w_tup, w_lst, w_idx, wO_none, wO_some, w_slc, w_blt, w_nilE, w_consE, wTy_some, w_isi, wApp_ref, w_app, wStr_str, w_mt1, w_told, w_calls, wCall_some, MEs.len, d_lenC, d_lenT, wVar_some, wBl_bl, wIt_int, wK_nx, wK_rt, wK_bk, wK_ct, wTg_some, wRt_rt, wRt_nx, wNx_nx, wNx_ct, BK.f, CK.f, FK.f, MK.f, d_addI, d_subI, d_mulI, d_fdivI, d_modI, d_powI, d_addT, d_addS, d_eqI, d_neI, d_ltI, d_leI, d_gtI, d_geI, d_negI, d_int, d_absI, d_idxT, d_idxC, wIx_0, wIx_1, wIx_2, wIx_3, setTg_nm, setTg_tp, setTgs_nil, setTgs_nm, setTgs_tp, Option.bind_some, List.map_cons, List.map_nil, List.cons_append, List.nil_append, List.getElem?_cons_zero, List.getElem?_cons_succ, List.set_cons_zero, List.set_cons_succ, List.replicate_succ, List.replicate_zero, Nat.reduceSub, Nat.reduceAdd, if_true, if_false, Bool.false_eq_true, List.length_cons, List.length_nil, decide_eq_true_eq, Nat.reduceLeDiff, true_and, wipeD, hq]
    exact beat_text_ hh (hb d hd)
  · obtain ⟨m, rfl, _, hm, k⟩ := hv
    have h1 : S1[S.length]? = some (.lst [.str w]) := by
      rw [k.at_ _ (by simp)]
      exact new_at
    rw [d_addR h1 hm]
    refine ⟨szl _ (by simp; omega), ?_⟩
    have e : ([D.str w] ++ bs.map fun c => D.str (beatT c)) = (w :: bs.map beatT).map D.str := by simp [List.map_map, Function.comp_def]
    rw [e, d_join new_at]
    refine ⟨?_, rfl, (Keep.more.trans k).trans Keep.more⟩
    have e1 : ((" " : Str)).length = 1 := by decide
    have := sum_le (f := fun x : Str => x.length) (k := 8) (xs := bs.map beatT) (by
      intro x hx
      obtain ⟨c, hc', rfl⟩ := List.mem_map.mp hx
      exact beatT_len hh (hb c hc'))
    rw [e1]
    simp only [List.map_cons, List.sum_cons, List.length_cons, List.length_map] at this ⊢
    omega
/-- a list of one's own, all else kept -/
structure OwnK (l : Nat) (S0 S : Sto) (xs : List D) : Prop where
  k : Keep S0 S
  g0 : S0.length ≤ l
  at_ : S[l]? = some (.lst xs)
theorem OwnK.put {l : Nat} {S0 S : Sto} {xs ys : List D} (o : OwnK l S0 S xs) : OwnK l S0 (S.set l (.lst ys)) ys := by
  have hl := (List.getElem?_eq_some_iff.mp o.at_).1
  have := o.g0
  exact ⟨⟨by rw [List.length_set]; exact o.k.len, fun i hi => by rw [List.getElem?_set_ne (by omega)]; exact o.k.at_ i hi⟩, o.g0, by rw [List.getElem?_set_self hl]⟩
theorem OwnK.keep {l : Nat} {S0 S S' : Sto} {xs : List D} (o : OwnK l S0 S xs) (k : Keep S S') : OwnK l S0 S' xs :=
  ⟨o.k.trans k, o.g0, (k.at_ l (List.getElem?_eq_some_iff.mp o.at_).1).trans o.at_⟩
theorem OwnK.new {S0 S : Sto} {xs : List D} (k : Keep S0 S) : OwnK S.length S0 (S ++ [.lst xs]) xs := ⟨k.trans Keep.more, k.len, new_at⟩
def headT (h : Int) : Str := ("jugglers " : Str) ++ (toString h : Str)
def textT (h : Int) (a b c : List D) : Str := Txt.join "\n" [headT h, lineT "begin" a, lineT "round" b, lineT "end" c]
theorem headT_len {h : Int} (hh : h = 1 ∨ h = 2) : (headT h).length = 10 := by
  rcases hh with rfl | rfl <;> decide +kernel
theorem text_of_ {h : Int} {a b c : List D} {S : Sto} (hh : h = 1 ∨ h = 2) (la : a.length ≤ 5) (lb : b.length ≤ 5) (lc : c.length ≤ 5) (pa : ∀ x ∈ a, Beat h x) (pb : ∀ x ∈ b, Beat h x) (pc : ∀ x ∈ c, Beat h x) :
    wpR (d_text_of [.tup [.int h, .tup a, .tup b, .tup c]] S) (fun v S' => v = .str (textT h a b c) ∧ Keep S S') noX := by
  have lh : h.natAbs.log2 < 1920 := by
    have := log2_lt (i := h) (k := 3) (by omega)
    omega
  have l1 : (("jugglers " : Str)).length + (toString h : Str).length ≤ sizeLine := szl _ (by
    rcases hh with rfl | rfl <;> decide +kernel)
  unfold d_text_of
  refine den_wp rfl ?_
  unfold m_text_of
  rw [w_cons, w_asg]
  simp only [w_var, w_con, w_bin, w_neg, w_not, w_and, w_or, w_ite, w_cmp, w_chain, w_isN, w_tup, w_lst, w_idx, wO_none, wO_some, w_slc, w_blt, w_nilE, w_consE, wTy_some, w_isi, wApp_ref, w_app, wStr_str, w_mt1, w_told, w_calls, wCall_some, MEs.len, d_lenC, d_lenT, wVar_some, wBl_bl, wIt_int, wK_nx, wK_rt, wK_bk, wK_ct, wTg_some, wRt_rt, wRt_nx, wNx_nx, wNx_ct, BK.f, CK.f, FK.f, MK.f, d_addI, d_subI, d_mulI, d_fdivI, d_modI, d_powI, d_addT, d_addS, d_eqI, d_neI, d_ltI, d_leI, d_gtI, d_geI, d_negI, d_int, d_absI, d_idxT, d_idxC, wIx_0, wIx_1, wIx_2, wIx_3, setTg_nm, setTg_tp, setTgs_nil, setTgs_nm, setTgs_tp, Option.bind_some, List.map_cons, List.map_nil, List.cons_append, List.nil_append, List.getElem?_cons_zero, List.getElem?_cons_succ, List.set_cons_zero, List.set_cons_succ, List.replicate_succ, List.replicate_zero, Nat.reduceSub, Nat.reduceAdd, if_true, if_false, Bool.false_eq_true, List.length_cons, List.length_nil, decide_eq_true_eq, Nat.reduceLeDiff, true_and, d_strI]
  refine ⟨lh, l1, ?_⟩
  rw [w_cons, w_for, w_zip, w_slc]
  simp only [w_var, w_con, w_bin, w_neg, w_not, w_and, w_or, w_ite, w_cmp, w_chain, w_isN, w_tup, w_lst, w_idx, wO_none, wO_some, w_slc, w_blt, w_nilE, w_consE, wTy_some, w_isi, wApp_ref, w_app, wStr_str, w_mt1, w_told, w_calls, wCall_some, MEs.len, d_lenC, d_lenT, wVar_some, wBl_bl, wIt_int, wK_nx, wK_rt, wK_bk, wK_ct, wTg_some, wRt_rt, wRt_nx, wNx_nx, wNx_ct, BK.f, CK.f, FK.f, MK.f, d_addI, d_subI, d_mulI, d_fdivI, d_modI, d_powI, d_addT, d_addS, d_eqI, d_neI, d_ltI, d_leI, d_gtI, d_geI, d_negI, d_int, d_absI, d_idxT, d_idxC, wIx_0, wIx_1, wIx_2, wIx_3, setTg_nm, setTg_tp, setTgs_nil, setTgs_nm, setTgs_tp, Option.bind_some, List.map_cons, List.map_nil, List.cons_append, List.nil_append, List.getElem?_cons_zero, List.getElem?_cons_succ, List.set_cons_zero, List.set_cons_succ, List.replicate_succ, List.replicate_zero, Nat.reduceSub, Nat.reduceAdd, if_true, if_false, Bool.false_eq_true, List.length_cons, List.length_nil, decide_eq_true_eq, Nat.reduceLeDiff, true_and, d_slT]
  rw [d_zipT]
  have step : ∀ (w : Str) (bs : List D) (ls : List Str) (S1 : Sto) (x2 x3 : Option D) (ds : List D) (QF : Fl → Sto → Prop), w.length ≤ 10 → bs.length ≤ 5 → (∀ x ∈ bs, Beat h x) → ls.length < 100 → OwnK S.length S S1 (ls.map D.str) →
      (∀ S2 x2 x3, OwnK S.length S S2 ((ls ++ [lineT w bs]).map D.str) → wpR (forD [] (.tp [.nm 2, .nm 3]) (evSs Φ_text_of [.expr (.app (.var 1) (.mt1 .join (.con (.str " ")) (.bin .add (.lst (.cons (.var 2) .nil)) (.comp (.val (.var 3)) (.nm 4) [4] .none (.call "beat_text" (.cons (.var 4) .nil))))))]) ds [some (.tup [.int h, .tup a, .tup b, .tup c]), some (.ref S.length), x2, x3, none] S2) QF noX) →
      wpR (forD [] (.tp [.nm 2, .nm 3]) (evSs Φ_text_of [.expr (.app (.var 1) (.mt1 .join (.con (.str " ")) (.bin .add (.lst (.cons (.var 2) .nil)) (.comp (.val (.var 3)) (.nm 4) [4] .none (.call "beat_text" (.cons (.var 4) .nil))))))]) (.tup [.str w, .tup bs] :: ds) [some (.tup [.int h, .tup a, .tup b, .tup c]), some (.ref S.length), x2, x3, none] S1) QF noX := by
    intro w bs ls S1 x2 x3 ds QF hw hl hb hls o k
    refine forD_step locked_nil (σ1 := [some (.tup [.int h, .tup a, .tup b, .tup c]), some (.ref S.length), some (.str w), some (.tup bs), none]) rfl ?_
    rw [w_cons, w_expr, w_app]
    simp only [w_var, List.getElem?_cons_succ, List.getElem?_cons_zero, wVar_some, wApp_ref]
    refine (line_ q_text_of_beat_text hh hw hl hb).mono fun v S2 hv => ?_
    obtain ⟨rfl, k2⟩ := hv
    have o2 := o.keep k2
    rw [d_app o2.at_ (by rw [List.length_map]; omega), wK_nx, w_nil, wNx_nx]
    refine k _ _ _ ?_
    rw [List.map_append]
    exact o2.put
  refine step "begin" a [headT h] _ none none _ _ (by decide) la pa (by simp) (OwnK.new (Keep.refl _)) fun S2 x2 x3 o2 => ?_
  refine step "round" b _ _ _ _ _ _ (by decide) lb pb (by simp) o2 fun S3 x2 x3 o3 => ?_
  refine step "end" c _ _ _ _ _ _ (by decide) lc pc (by simp) o3 fun S4 x2 x3 o4 => ?_
  refine forD_end locked_nil ?_
  rw [wK_nx, w_cons, w_ret, w_mt1]
  simp only [w_var, w_con, w_bin, w_neg, w_not, w_and, w_or, w_ite, w_cmp, w_chain, w_isN, w_tup, w_lst, w_idx, wO_none, wO_some, w_slc, w_blt, w_nilE, w_consE, wTy_some, w_isi, wApp_ref, w_app, wStr_str, w_mt1, w_told, w_calls, wCall_some, MEs.len, d_lenC, d_lenT, wVar_some, wBl_bl, wIt_int, wK_nx, wK_rt, wK_bk, wK_ct, wTg_some, wRt_rt, wRt_nx, wNx_nx, wNx_ct, BK.f, CK.f, FK.f, MK.f, d_addI, d_subI, d_mulI, d_fdivI, d_modI, d_powI, d_addT, d_addS, d_eqI, d_neI, d_ltI, d_leI, d_gtI, d_geI, d_negI, d_int, d_absI, d_idxT, d_idxC, wIx_0, wIx_1, wIx_2, wIx_3, setTg_nm, setTg_tp, setTgs_nil, setTgs_nm, setTgs_tp, Option.bind_some, List.map_cons, List.map_nil, List.cons_append, List.nil_append, List.getElem?_cons_zero, List.getElem?_cons_succ, List.set_cons_zero, List.set_cons_succ, List.replicate_succ, List.replicate_zero, Nat.reduceSub, Nat.reduceAdd, if_true, if_false, Bool.false_eq_true, List.length_cons, List.length_nil, decide_eq_true_eq, Nat.reduceLeDiff, true_and]
  rw [d_join o4.at_]
  refine ⟨?_, rfl, o4.k⟩
  have e1 : (("\n" : Str)).length = 1 := by decide
  have q1 := lineT_len (w := "begin") hh (by decide) la pa
  have q2 := lineT_len (w := "round") hh (by decide) lb pb
  have q3 := lineT_len (w := "end") hh (by decide) lc pc
  have q0 := headT_len hh
  rw [e1]
  simp only [List.cons_append, List.nil_append, List.map_cons, List.map_nil, List.sum_cons, List.sum_nil, List.length_cons, List.length_nil]
  omega
theorem plan_text_ {h : Int} {a b c : List D} {S : Sto} (p : PlanD (.tup [.int h, .tup a, .tup b, .tup c])) : wpR (d_plan_text [.tup [.int h, .tup a, .tup b, .tup c]] S) (fun v S' => v = .str (textT h a b c) ∧ Keep S S') noX := by
  unfold d_plan_text
  refine den_wp rfl ?_
  unfold m_plan_text
  rw [w_cons, w_expr]
  simp only [w_var, w_con, w_bin, w_neg, w_not, w_and, w_or, w_ite, w_cmp, w_chain, w_isN, w_tup, w_lst, w_idx, wO_none, wO_some, w_slc, w_blt, w_nilE, w_consE, wTy_some, w_isi, wApp_ref, w_app, wStr_str, w_mt1, w_told, w_calls, wCall_some, MEs.len, d_lenC, d_lenT, wVar_some, wBl_bl, wIt_int, wK_nx, wK_rt, wK_bk, wK_ct, wTg_some, wRt_rt, wRt_nx, wNx_nx, wNx_ct, BK.f, CK.f, FK.f, MK.f, d_addI, d_subI, d_mulI, d_fdivI, d_modI, d_powI, d_addT, d_addS, d_eqI, d_neI, d_ltI, d_leI, d_gtI, d_geI, d_negI, d_int, d_absI, d_idxT, d_idxC, wIx_0, wIx_1, wIx_2, wIx_3, setTg_nm, setTg_tp, setTgs_nil, setTgs_nm, setTgs_tp, Option.bind_some, List.map_cons, List.map_nil, List.cons_append, List.nil_append, List.getElem?_cons_zero, List.getElem?_cons_succ, List.set_cons_zero, List.set_cons_succ, List.replicate_succ, List.replicate_zero, Nat.reduceSub, Nat.reduceAdd, if_true, if_false, Bool.false_eq_true, List.length_cons, List.length_nil, decide_eq_true_eq, Nat.reduceLeDiff, true_and, q_plan_text_need_plan]
  refine (need_ok p).mono fun v S1 hv => ?_
  rw [w_cons, w_ret]
  simp only [w_var, w_con, w_bin, w_neg, w_not, w_and, w_or, w_ite, w_cmp, w_chain, w_isN, w_tup, w_lst, w_idx, wO_none, wO_some, w_slc, w_blt, w_nilE, w_consE, wTy_some, w_isi, wApp_ref, w_app, wStr_str, w_mt1, w_told, w_calls, wCall_some, MEs.len, d_lenC, d_lenT, wVar_some, wBl_bl, wIt_int, wK_nx, wK_rt, wK_bk, wK_ct, wTg_some, wRt_rt, wRt_nx, wNx_nx, wNx_ct, BK.f, CK.f, FK.f, MK.f, d_addI, d_subI, d_mulI, d_fdivI, d_modI, d_powI, d_addT, d_addS, d_eqI, d_neI, d_ltI, d_leI, d_gtI, d_geI, d_negI, d_int, d_absI, d_idxT, d_idxC, wIx_0, wIx_1, wIx_2, wIx_3, setTg_nm, setTg_tp, setTgs_nil, setTgs_nm, setTgs_tp, Option.bind_some, List.map_cons, List.map_nil, List.cons_append, List.nil_append, List.getElem?_cons_zero, List.getElem?_cons_succ, List.set_cons_zero, List.set_cons_succ, List.replicate_succ, List.replicate_zero, Nat.reduceSub, Nat.reduceAdd, if_true, if_false, Bool.false_eq_true, List.length_cons, List.length_nil, decide_eq_true_eq, Nat.reduceLeDiff, true_and, q_plan_text_text_of]
  obtain ⟨h', a', b', c', e, hh, la, lb, lc, pa, pb, pc⟩ := p.open_
  injection e with e
  injection e with e1 e
  injection e1 with e1
  injection e with e2 e
  injection e2 with e2
  injection e with e3 e
  injection e3 with e3
  injection e with e4 e
  injection e4 with e4
  subst e1 e2 e3 e4
  exact (text_of_ hh la lb.2 lc pa pb pc).mono fun v S2 h2 => ⟨h2.1, hv.2.trans h2.2⟩
theorem plan_text_bad {d : D} {S : Sto} (b : BadP S d) : wpR (d_plan_text [d] S) (fun _ _ => False) (fun x p S' => x = "InvalidPlan" ∧ p = none ∧ Keep S S') := by
  unfold d_plan_text
  refine den_wp rfl ?_
  unfold m_plan_text
  rw [w_cons, w_expr]
  simp only [w_var, w_con, w_bin, w_neg, w_not, w_and, w_or, w_ite, w_cmp, w_chain, w_isN, w_tup, w_lst, w_idx, wO_none, wO_some, w_slc, w_blt, w_nilE, w_consE, wTy_some, w_isi, wApp_ref, w_app, wStr_str, w_mt1, w_told, w_calls, wCall_some, MEs.len, d_lenC, d_lenT, wVar_some, wBl_bl, wIt_int, wK_nx, wK_rt, wK_bk, wK_ct, wTg_some, wRt_rt, wRt_nx, wNx_nx, wNx_ct, BK.f, CK.f, FK.f, MK.f, d_addI, d_subI, d_mulI, d_fdivI, d_modI, d_powI, d_addT, d_addS, d_eqI, d_neI, d_ltI, d_leI, d_gtI, d_geI, d_negI, d_int, d_absI, d_idxT, d_idxC, wIx_0, wIx_1, wIx_2, wIx_3, setTg_nm, setTg_tp, setTgs_nil, setTgs_nm, setTgs_tp, Option.bind_some, List.map_cons, List.map_nil, List.cons_append, List.nil_append, List.getElem?_cons_zero, List.getElem?_cons_succ, List.set_cons_zero, List.set_cons_succ, List.replicate_succ, List.replicate_zero, Nat.reduceSub, Nat.reduceAdd, if_true, if_false, Bool.false_eq_true, List.length_cons, List.length_nil, decide_eq_true_eq, Nat.reduceLeDiff, true_and, q_plan_text_need_plan]
  exact (need_bad b).mono fun _ _ z => z.elim
end T

end
section
set_option Elab.async false
set_option linter.all false
set_option maxRecDepth 100000
set_option maxHeartbeats 4000000
set_option autoImplicit false
/-! Plain laws, part I: the law's own lines. -/
namespace T
open PySem DV
theorem str_assoc (x y z : Str) : x ++ y ++ z = x ++ (y ++ z) := by
  have e : TL.tl (x ++ y ++ z) = TL.tl (x ++ (y ++ z)) := by simp only [TL.tl_append, List.append_assoc]
  have h := TL.mk_tl (x ++ y ++ z)
  rw [e, TL.mk_tl] at h
  exact h.symm
theorem sjoin_snoc (sep : Str) : ∀ (x : Str) (xs : List Str) (y : Str), Str.join sep (x :: xs ++ [y]) = Str.join sep (x :: xs) ++ sep ++ y
  | x, [], y => rfl
  | x, z :: zs, y => by
    show x ++ sep ++ Str.join sep (z :: zs ++ [y]) = x ++ sep ++ Str.join sep (z :: zs) ++ sep ++ y
    rw [sjoin_snoc sep z zs y]
    simp only [str_assoc]
theorem lineT_nil {w : Str} : lineT w [] = w := by
  unfold lineT
  rw [TL.join_eq]
  rfl
theorem lineT_snoc {w : Str} {bs : List D} {b : D} : lineT w (bs ++ [b]) = lineT w bs ++ " " ++ beatT b := by
  unfold lineT
  rw [TL.join_eq, TL.join_eq, List.map_append]
  exact sjoin_snoc " " w (bs.map beatT) (beatT b)
def labels : List D := [.str "begin", .str "round", .str "end"]
theorem law_cell {Φ : Tab} {h : Int} {c : D} {S : Sto} {y0 y1 y2 y3 y4 y5 y6 : Option D} (hc : Cell h c) : wpR (evE Φ (.ite (.isN false (.var 7)) (.con (.str "_")) (.bin .add (.blt .str (.cons (.idx (.var 7) (.con (.int 0))) .nil)) (.ite (.idx (.var 7) (.con (.int 1))) (.con (.str "p")) (.con (.str ""))))) [y0, y1, y2, y3, y4, y5, y6, some c] S) (fun v S' => v = .str (cellT c) ∧ S' = S) noX := by
  rcases hc with rfl | ⟨i, b, rfl, h1, h2, _⟩
  · simp only [w_var, w_con, w_bin, w_neg, w_not, w_and, w_or, w_ite, w_cmp, w_chain, w_isN, w_tup, w_lst, w_idx, wO_none, wO_some, w_slc, w_blt, w_nilE, w_consE, wTy_some, w_isi, wApp_ref, w_app, wStr_str, w_mt1, w_told, w_calls, wCall_some, MEs.len, d_lenC, d_lenT, w_nil, w_cons, w_asg, w_sub, w_par, w_expr, w_ret, w_if, w_raise, w_pass, w_brk, w_cont, wVar_some, wBl_bl, wIt_int, wK_nx, wK_rt, wK_bk, wK_ct, wTg_some, wRt_rt, wRt_nx, wNx_nx, wNx_ct, BK.f, CK.f, FK.f, MK.f, d_addI, d_subI, d_mulI, d_fdivI, d_modI, d_powI, d_addT, d_addS, d_eqI, d_neI, d_ltI, d_leI, d_gtI, d_geI, d_negI, d_int, d_absI, d_idxT, d_idxC, wIx_0, wIx_1, wIx_2, wIx_3, setTg_nm, setTg_tp, setTgs_nil, setTgs_nm, setTgs_tp, Option.bind_some, List.map_cons, List.map_nil, List.cons_append, List.nil_append, List.getElem?_cons_zero, List.getElem?_cons_succ, List.set_cons_zero, List.set_cons_succ, List.replicate_succ, List.replicate_zero, Nat.reduceSub, Nat.reduceAdd, if_true, if_false, Bool.false_eq_true, List.length_cons, List.length_nil, decide_eq_true_eq, Nat.reduceLeDiff, true_and, isNonD, Bool.false_xor]
    exact ⟨rfl, trivial⟩
  · have l1 : i.natAbs.log2 < 1920 := by
      have := log2_lt (i := i) (k := 3) (by omega)
      omega
    simp only [w_var, w_con, w_bin, w_neg, w_not, w_and, w_or, w_ite, w_cmp, w_chain, w_isN, w_tup, w_lst, w_idx, wO_none, wO_some, w_slc, w_blt, w_nilE, w_consE, wTy_some, w_isi, wApp_ref, w_app, wStr_str, w_mt1, w_told, w_calls, wCall_some, MEs.len, d_lenC, d_lenT, w_nil, w_cons, w_asg, w_sub, w_par, w_expr, w_ret, w_if, w_raise, w_pass, w_brk, w_cont, wVar_some, wBl_bl, wIt_int, wK_nx, wK_rt, wK_bk, wK_ct, wTg_some, wRt_rt, wRt_nx, wNx_nx, wNx_ct, BK.f, CK.f, FK.f, MK.f, d_addI, d_subI, d_mulI, d_fdivI, d_modI, d_powI, d_addT, d_addS, d_eqI, d_neI, d_ltI, d_leI, d_gtI, d_geI, d_negI, d_int, d_absI, d_idxT, d_idxC, wIx_0, wIx_1, wIx_2, wIx_3, setTg_nm, setTg_tp, setTgs_nil, setTgs_nm, setTgs_tp, Option.bind_some, List.map_cons, List.map_nil, List.cons_append, List.nil_append, List.getElem?_cons_zero, List.getElem?_cons_succ, List.set_cons_zero, List.set_cons_succ, List.replicate_succ, List.replicate_zero, Nat.reduceSub, Nat.reduceAdd, if_true, if_false, Bool.false_eq_true, List.length_cons, List.length_nil, decide_eq_true_eq, Nat.reduceLeDiff, true_and, isNonD, Bool.false_xor, d_strI]
    have l2 : (toString i : Str).length ≤ 2 := by
      rcases ten h1 h2 with e | e | e | e | e | e | e | e | e | e <;> subst e <;> decide +kernel
    have p1 : (("p" : Str)).length = 1 := by decide
    have p0 : (("" : Str)).length = 0 := by decide
    refine ⟨l1, iteI (fun hb => ?_) fun hb => ?_⟩
    · subst hb
      exact ⟨szl _ (by rw [p1]; omega), rfl, trivial⟩
    · have hb : b = false := by simpa using hb
      subst hb
      exact ⟨szl _ (by rw [p0]; omega), rfl, trivial⟩
/-- one line, row by row -/
theorem law_rows {h : Int} {S : Sto} {w : Str} {bs : List D} {x0 x1 x5 x6 x7 : Option D} {QF : Fl → Sto → Prop} (hh : h = 1 ∨ h = 2) (hw : w.length ≤ 10) (hl : bs.length ≤ 5) (hb : ∀ b ∈ bs, Beat h b)
    (k : ∀ S' x5 x6 x7, Keep S S' → QF (.nx [x0, x1, some (.str w), some (.tup bs), some (.str (lineT w bs)), x5, x6, x7]) S') :
    wpR (evS Φ__law_lines (.forS (.nm 5) (.val (.var 3)) [.asg (.nm 6) (.lst .nil),
  .forS (.nm 7) (.val (.var 5)) [.expr (.app (.var 6) (.ite (.isN false (.var 7)) (.con (.str "_")) (.bin .add (.blt .str (.cons (.idx (.var 7) (.con (.int 0))) .nil)) (.ite (.idx (.var 7) (.con (.int 1))) (.con (.str "p")) (.con (.str ""))))))],
  .asg (.nm 4) (.bin .add (.bin .add (.var 4) (.con (.str " "))) (.mt1 .join (.con (.str "/")) (.var 6)))]) [x0, x1, some (.str w), some (.tup bs), some (.str w), x5, x6, x7] S) QF noX := by
  rw [w_for, w_val]
  simp only [w_var, w_con, w_bin, w_neg, w_not, w_and, w_or, w_ite, w_cmp, w_chain, w_isN, w_tup, w_lst, w_idx, wO_none, wO_some, w_slc, w_blt, w_nilE, w_consE, wTy_some, w_isi, wApp_ref, w_app, wStr_str, w_mt1, w_told, w_calls, wCall_some, MEs.len, d_lenC, d_lenT, wVar_some, wBl_bl, wIt_int, wK_nx, wK_rt, wK_bk, wK_ct, wTg_some, wRt_rt, wRt_nx, wNx_nx, wNx_ct, BK.f, CK.f, FK.f, MK.f, d_addI, d_subI, d_mulI, d_fdivI, d_modI, d_powI, d_addT, d_addS, d_eqI, d_neI, d_ltI, d_leI, d_gtI, d_geI, d_negI, d_int, d_absI, d_idxT, d_idxC, wIx_0, wIx_1, wIx_2, wIx_3, setTg_nm, setTg_tp, setTgs_nil, setTgs_nm, setTgs_tp, Option.bind_some, List.map_cons, List.map_nil, List.cons_append, List.nil_append, List.getElem?_cons_zero, List.getElem?_cons_succ, List.set_cons_zero, List.set_cons_succ, List.replicate_succ, List.replicate_zero, Nat.reduceSub, Nat.reduceAdd, if_true, if_false, Bool.false_eq_true, List.length_cons, List.length_nil, decide_eq_true_eq, Nat.reduceLeDiff, true_and, d_walkT]
  refine (forD_inv (fun j σ S' => ∃ x5 x6 x7, σ = [x0, x1, some (.str w), some (.tup bs), some (.str (lineT w (bs.take j))), x5, x6, x7] ∧ Keep S S') bs 0 _ _ ⟨x5, x6, x7, by rw [List.take_zero, lineT_nil], Keep.refl _⟩ (fun j σ S' _ p hp => (by cases hp)) fun j d σ S' hj hI => ?_).mono fun fl S' hf => ?_
  · rw [Nat.zero_add] at hI ⊢
    obtain ⟨x5, x6, x7, rfl, kS⟩ := hI
    have hd := hb d (List.mem_of_getElem? hj)
    obtain ⟨cs, rfl, hcl, hc⟩ := hd
    refine ⟨_, rfl, ?_⟩
    rw [w_cons, w_asg]
    simp only [w_var, w_con, w_bin, w_neg, w_not, w_and, w_or, w_ite, w_cmp, w_chain, w_isN, w_tup, w_lst, w_idx, wO_none, wO_some, w_slc, w_blt, w_nilE, w_consE, wTy_some, w_isi, wApp_ref, w_app, wStr_str, w_mt1, w_told, w_calls, wCall_some, MEs.len, d_lenC, d_lenT, wVar_some, wBl_bl, wIt_int, wK_nx, wK_rt, wK_bk, wK_ct, wTg_some, wRt_rt, wRt_nx, wNx_nx, wNx_ct, BK.f, CK.f, FK.f, MK.f, d_addI, d_subI, d_mulI, d_fdivI, d_modI, d_powI, d_addT, d_addS, d_eqI, d_neI, d_ltI, d_leI, d_gtI, d_geI, d_negI, d_int, d_absI, d_idxT, d_idxC, wIx_0, wIx_1, wIx_2, wIx_3, setTg_nm, setTg_tp, setTgs_nil, setTgs_nm, setTgs_tp, Option.bind_some, List.map_cons, List.map_nil, List.cons_append, List.nil_append, List.getElem?_cons_zero, List.getElem?_cons_succ, List.set_cons_zero, List.set_cons_succ, List.replicate_succ, List.replicate_zero, Nat.reduceSub, Nat.reduceAdd, if_true, if_false, Bool.false_eq_true, List.length_cons, List.length_nil, decide_eq_true_eq, Nat.reduceLeDiff, true_and]
    rw [w_cons, w_for, w_val]
    simp only [w_var, w_con, w_bin, w_neg, w_not, w_and, w_or, w_ite, w_cmp, w_chain, w_isN, w_tup, w_lst, w_idx, wO_none, wO_some, w_slc, w_blt, w_nilE, w_consE, wTy_some, w_isi, wApp_ref, w_app, wStr_str, w_mt1, w_told, w_calls, wCall_some, MEs.len, d_lenC, d_lenT, wVar_some, wBl_bl, wIt_int, wK_nx, wK_rt, wK_bk, wK_ct, wTg_some, wRt_rt, wRt_nx, wNx_nx, wNx_ct, BK.f, CK.f, FK.f, MK.f, d_addI, d_subI, d_mulI, d_fdivI, d_modI, d_powI, d_addT, d_addS, d_eqI, d_neI, d_ltI, d_leI, d_gtI, d_geI, d_negI, d_int, d_absI, d_idxT, d_idxC, wIx_0, wIx_1, wIx_2, wIx_3, setTg_nm, setTg_tp, setTgs_nil, setTgs_nm, setTgs_tp, Option.bind_some, List.map_cons, List.map_nil, List.cons_append, List.nil_append, List.getElem?_cons_zero, List.getElem?_cons_succ, List.set_cons_zero, List.set_cons_succ, List.replicate_succ, List.replicate_zero, Nat.reduceSub, Nat.reduceAdd, if_true, if_false, Bool.false_eq_true, List.length_cons, List.length_nil, decide_eq_true_eq, Nat.reduceLeDiff, true_and, d_walkT]
    refine (forD_inv (fun i σ S'' => ∃ x7, σ = [x0, x1, some (.str w), some (.tup bs), some (.str (lineT w (bs.take j))), some (.tup cs), some (.ref S'.length), x7] ∧ OwnK S'.length S S'' (((cs.take i).map cellT).map D.str)) cs 0 _ _ ⟨x7, rfl, OwnK.new kS⟩ (fun j σ S' _ p hp => (by cases hp)) fun i d σ S'' hi hI => ?_).mono fun fl S'' hf => ?_
    · rw [Nat.zero_add] at hI ⊢
      obtain ⟨x7, rfl, o⟩ := hI
      have hcd := hc d (List.mem_of_getElem? hi)
      have tk : cs.take (i + 1) = cs.take i ++ [d] := by rw [List.take_succ, hi]; rfl
      have hlen : (((cs.take i).map cellT).map D.str).length < 16777216 := by
        rw [List.length_map, List.length_map, List.length_take]
        omega
      refine ⟨_, rfl, ?_⟩
      rw [w_cons, w_expr, w_app]
      simp only [w_var, List.getElem?_cons_succ, List.getElem?_cons_zero, wVar_some, wApp_ref, List.set_cons_succ, List.set_cons_zero]
      refine (law_cell hcd).mono fun v S3 hv => ?_
      obtain ⟨rfl, rfl⟩ := hv
      rw [d_app o.at_ hlen, wK_nx, w_nil, wNx_nx]
      refine ⟨_, rfl, ?_⟩
      rw [tk, List.map_append, List.map_append]
      exact o.put
    · obtain ⟨σ, rfl, x7, rfl, o⟩ := hf
      rw [Nat.zero_add, List.take_length] at o
      have tk : bs.take (j + 1) = bs.take j ++ [.tup cs] := by rw [List.take_succ, hj]; rfl
      have hbt : ∀ b ∈ bs.take j, Beat h b := fun b hb' => hb b (List.mem_of_mem_take hb')
      have q := lineT_len (w := w) (bs := bs.take j) hh hw (by rw [List.length_take]; omega) hbt
      have q2 : (beatT (.tup cs)).length ≤ 8 := beatT_len hh ⟨cs, rfl, hcl, hc⟩
      have e1 : ((" " : Str)).length = 1 := by decide
      have e2 : (("/" : Str)).length = 1 := by decide
      have hs : ((cs.map cellT).map (·.length)).sum ≤ (cs.map cellT).length * 3 := sum_le (by
        intro x hx
        obtain ⟨c, hc', rfl⟩ := List.mem_map.mp hx
        exact cellT_len (hc c hc'))
      rw [wK_nx, w_cons, w_asg]
      simp only [w_var, w_con, w_bin, w_neg, w_not, w_and, w_or, w_ite, w_cmp, w_chain, w_isN, w_tup, w_lst, w_idx, wO_none, wO_some, w_slc, w_blt, w_nilE, w_consE, wTy_some, w_isi, wApp_ref, w_app, wStr_str, w_mt1, w_told, w_calls, wCall_some, MEs.len, d_lenC, d_lenT, wVar_some, wBl_bl, wIt_int, wK_nx, wK_rt, wK_bk, wK_ct, wTg_some, wRt_rt, wRt_nx, wNx_nx, wNx_ct, BK.f, CK.f, FK.f, MK.f, d_addI, d_subI, d_mulI, d_fdivI, d_modI, d_powI, d_addT, d_addS, d_eqI, d_neI, d_ltI, d_leI, d_gtI, d_geI, d_negI, d_int, d_absI, d_idxT, d_idxC, wIx_0, wIx_1, wIx_2, wIx_3, setTg_nm, setTg_tp, setTgs_nil, setTgs_nm, setTgs_tp, Option.bind_some, List.map_cons, List.map_nil, List.cons_append, List.nil_append, List.getElem?_cons_zero, List.getElem?_cons_succ, List.set_cons_zero, List.set_cons_succ, List.replicate_succ, List.replicate_zero, Nat.reduceSub, Nat.reduceAdd, if_true, if_false, Bool.false_eq_true, List.length_cons, List.length_nil, decide_eq_true_eq, Nat.reduceLeDiff, true_and, d_join o.at_]
      have e3 : (lineT w (bs.take j) ++ (" " : Str)).length = (lineT w (bs.take j)).length + 1 := by
        show (_ ++ _ : Str).length = _
        rw [Str.length_append, e1]
      rw [List.length_map] at hs ⊢
      refine ⟨szl _ (by rw [e1]; omega), by rw [e2]; omega, szl _ (by rw [e3]; show _ + (beatT (.tup cs)).length ≤ _; omega), ?_⟩
      rw [w_nil, wNx_nx]
      refine ⟨_, _, _, by rw [tk, lineT_snoc]; rfl, o.k⟩
  · obtain ⟨σ, rfl, x5, x6, x7, rfl, kS⟩ := hf
    rw [Nat.zero_add, List.take_length]
    exact k _ _ _ _ kS
theorem law_lines_ {h : Int} {a b c : List D} {S : Sto} (hh : h = 1 ∨ h = 2) (la : a.length ≤ 5) (lb : b.length ≤ 5) (lc : c.length ≤ 5) (pa : ∀ x ∈ a, Beat h x) (pb : ∀ x ∈ b, Beat h x) (pc : ∀ x ∈ c, Beat h x) :
    wpR (d__law_lines [.tup [.int h, .tup a, .tup b, .tup c]] S) (fun v S' => ∃ l, v = .ref l ∧ S'[l]? = some (.lst ([headT h, lineT "begin" a, lineT "round" b, lineT "end" c].map D.str)) ∧ Keep S S') noX := by
  have lh : h.natAbs.log2 < 1920 := by
    have := log2_lt (i := h) (k := 3) (by omega)
    omega
  have l1 : (("jugglers " : Str)).length + (toString h : Str).length ≤ sizeLine := szl _ (by
    rcases hh with rfl | rfl <;> decide +kernel)
  unfold d__law_lines
  refine den_wp rfl ?_
  unfold m__law_lines
  rw [w_cons, w_asg]
  simp only [w_var, w_con, w_bin, w_neg, w_not, w_and, w_or, w_ite, w_cmp, w_chain, w_isN, w_tup, w_lst, w_idx, wO_none, wO_some, w_slc, w_blt, w_nilE, w_consE, wTy_some, w_isi, wApp_ref, w_app, wStr_str, w_mt1, w_told, w_calls, wCall_some, MEs.len, d_lenC, d_lenT, wVar_some, wBl_bl, wIt_int, wK_nx, wK_rt, wK_bk, wK_ct, wTg_some, wRt_rt, wRt_nx, wNx_nx, wNx_ct, BK.f, CK.f, FK.f, MK.f, d_addI, d_subI, d_mulI, d_fdivI, d_modI, d_powI, d_addT, d_addS, d_eqI, d_neI, d_ltI, d_leI, d_gtI, d_geI, d_negI, d_int, d_absI, d_idxT, d_idxC, wIx_0, wIx_1, wIx_2, wIx_3, setTg_nm, setTg_tp, setTgs_nil, setTgs_nm, setTgs_tp, Option.bind_some, List.map_cons, List.map_nil, List.cons_append, List.nil_append, List.getElem?_cons_zero, List.getElem?_cons_succ, List.set_cons_zero, List.set_cons_succ, List.replicate_succ, List.replicate_zero, Nat.reduceSub, Nat.reduceAdd, if_true, if_false, Bool.false_eq_true, List.length_cons, List.length_nil, decide_eq_true_eq, Nat.reduceLeDiff, true_and, d_strI]
  refine ⟨lh, l1, ?_⟩
  rw [w_cons, w_for, w_zip]
  simp only [w_var, w_con, w_bin, w_neg, w_not, w_and, w_or, w_ite, w_cmp, w_chain, w_isN, w_tup, w_lst, w_idx, wO_none, wO_some, w_slc, w_blt, w_nilE, w_consE, wTy_some, w_isi, wApp_ref, w_app, wStr_str, w_mt1, w_told, w_calls, wCall_some, MEs.len, d_lenC, d_lenT, wVar_some, wBl_bl, wIt_int, wK_nx, wK_rt, wK_bk, wK_ct, wTg_some, wRt_rt, wRt_nx, wNx_nx, wNx_ct, BK.f, CK.f, FK.f, MK.f, d_addI, d_subI, d_mulI, d_fdivI, d_modI, d_powI, d_addT, d_addS, d_eqI, d_neI, d_ltI, d_leI, d_gtI, d_geI, d_negI, d_int, d_absI, d_idxT, d_idxC, wIx_0, wIx_1, wIx_2, wIx_3, setTg_nm, setTg_tp, setTgs_nil, setTgs_nm, setTgs_tp, Option.bind_some, List.map_cons, List.map_nil, List.cons_append, List.nil_append, List.getElem?_cons_zero, List.getElem?_cons_succ, List.set_cons_zero, List.set_cons_succ, List.replicate_succ, List.replicate_zero, Nat.reduceSub, Nat.reduceAdd, if_true, if_false, Bool.false_eq_true, List.length_cons, List.length_nil, decide_eq_true_eq, Nat.reduceLeDiff, true_and, d_slT]
  generalize hS1 : S ++ [LO.lst [D.str (Str.ofString "jugglers " ++ toString h)]] = S1
  have o1 : OwnK S.length S S1 ([headT h].map D.str) := by
    rw [← hS1]
    exact OwnK.new (Keep.refl _)
  have hz : wpR (zipD (.ref S1.length) (.tup (cutD [D.int h, .tup a, .tup b, .tup c] (some 1) none)) (S1 ++ [.lst labels])) (fun wk S' => wk = ⟨[.tup [.str "begin", .tup a], .tup [.str "round", .tup b], .tup [.str "end", .tup c]], [(S1.length, labels)]⟩ ∧ S' = S1 ++ [.lst labels]) noX := by
    unfold zipD
    simp only [walkD, wpR_bind, wpR_ok, new_at]
    exact ⟨rfl, trivial⟩
  refine hz.mono fun wk S2 hw => ?_
  obtain ⟨rfl, rfl⟩ := hw
  dsimp only
  have lab : ∀ S', S'[S1.length]? = some (.lst labels) → Locked S' [(S1.length, labels)] := fun S' hS' p hp => by
    rw [List.mem_singleton.mp hp]
    exact hS'
  have hne : S.length ≠ S1.length := by rw [← hS1]; simp
  have step : ∀ (w : Str) (bs : List D) (ls : List Str) (S2 : Sto) (x2 x3 x4 x5 x6 x7 : Option D) (ds : List D) (QF : Fl → Sto → Prop), w.length ≤ 10 → bs.length ≤ 5 → (∀ x ∈ bs, Beat h x) → ls.length < 100 → S2[S1.length]? = some (.lst labels) → OwnK S.length S S2 (ls.map D.str) →
      (∀ S3 x2 x3 x4 x5 x6 x7, S3[S1.length]? = some (.lst labels) → OwnK S.length S S3 ((ls ++ [lineT w bs]).map D.str) → wpR (forD [(S1.length, labels)] (.tp [.nm 2, .nm 3]) (evSs Φ__law_lines [.asg (.nm 4) (.var 2),
  .forS (.nm 5) (.val (.var 3)) [.asg (.nm 6) (.lst .nil),
  .forS (.nm 7) (.val (.var 5)) [.expr (.app (.var 6) (.ite (.isN false (.var 7)) (.con (.str "_")) (.bin .add (.blt .str (.cons (.idx (.var 7) (.con (.int 0))) .nil)) (.ite (.idx (.var 7) (.con (.int 1))) (.con (.str "p")) (.con (.str ""))))))],
  .asg (.nm 4) (.bin .add (.bin .add (.var 4) (.con (.str " "))) (.mt1 .join (.con (.str "/")) (.var 6)))],
  .expr (.app (.var 1) (.var 4))]) ds [some (.tup [.int h, .tup a, .tup b, .tup c]), some (.ref S.length), x2, x3, x4, x5, x6, x7] S3) QF noX) →
      wpR (forD [(S1.length, labels)] (.tp [.nm 2, .nm 3]) (evSs Φ__law_lines [.asg (.nm 4) (.var 2),
  .forS (.nm 5) (.val (.var 3)) [.asg (.nm 6) (.lst .nil),
  .forS (.nm 7) (.val (.var 5)) [.expr (.app (.var 6) (.ite (.isN false (.var 7)) (.con (.str "_")) (.bin .add (.blt .str (.cons (.idx (.var 7) (.con (.int 0))) .nil)) (.ite (.idx (.var 7) (.con (.int 1))) (.con (.str "p")) (.con (.str ""))))))],
  .asg (.nm 4) (.bin .add (.bin .add (.var 4) (.con (.str " "))) (.mt1 .join (.con (.str "/")) (.var 6)))],
  .expr (.app (.var 1) (.var 4))]) (.tup [.str w, .tup bs] :: ds) [some (.tup [.int h, .tup a, .tup b, .tup c]), some (.ref S.length), x2, x3, x4, x5, x6, x7] S2) QF noX := by
    intro w bs ls S2 x2 x3 x4 x5 x6 x7 ds QF hw hl hb hls hlab o k
    refine forD_step (lab _ hlab) (σ1 := [some (.tup [.int h, .tup a, .tup b, .tup c]), some (.ref S.length), some (.str w), some (.tup bs), x4, x5, x6, x7]) rfl ?_
    rw [w_cons, w_asg]
    simp only [w_var, w_con, w_bin, w_neg, w_not, w_and, w_or, w_ite, w_cmp, w_chain, w_isN, w_tup, w_lst, w_idx, wO_none, wO_some, w_slc, w_blt, w_nilE, w_consE, wTy_some, w_isi, wApp_ref, w_app, wStr_str, w_mt1, w_told, w_calls, wCall_some, MEs.len, d_lenC, d_lenT, wVar_some, wBl_bl, wIt_int, wK_nx, wK_rt, wK_bk, wK_ct, wTg_some, wRt_rt, wRt_nx, wNx_nx, wNx_ct, BK.f, CK.f, FK.f, MK.f, d_addI, d_subI, d_mulI, d_fdivI, d_modI, d_powI, d_addT, d_addS, d_eqI, d_neI, d_ltI, d_leI, d_gtI, d_geI, d_negI, d_int, d_absI, d_idxT, d_idxC, wIx_0, wIx_1, wIx_2, wIx_3, setTg_nm, setTg_tp, setTgs_nil, setTgs_nm, setTgs_tp, Option.bind_some, List.map_cons, List.map_nil, List.cons_append, List.nil_append, List.getElem?_cons_zero, List.getElem?_cons_succ, List.set_cons_zero, List.set_cons_succ, List.replicate_succ, List.replicate_zero, Nat.reduceSub, Nat.reduceAdd, if_true, if_false, Bool.false_eq_true, List.length_cons, List.length_nil, decide_eq_true_eq, Nat.reduceLeDiff, true_and]
    rw [w_cons]
    refine law_rows hh hw hl hb fun S3 y5 y6 y7 k3 => ?_
    have o3 := o.keep k3
    have hlab3 : S3[S1.length]? = some (.lst labels) := (k3.at_ _ (List.getElem?_eq_some_iff.mp hlab).1).trans hlab
    rw [wK_nx, w_cons, w_expr, w_app]
    simp only [w_var, w_con, w_bin, w_neg, w_not, w_and, w_or, w_ite, w_cmp, w_chain, w_isN, w_tup, w_lst, w_idx, wO_none, wO_some, w_slc, w_blt, w_nilE, w_consE, wTy_some, w_isi, wApp_ref, w_app, wStr_str, w_mt1, w_told, w_calls, wCall_some, MEs.len, d_lenC, d_lenT, wVar_some, wBl_bl, wIt_int, wK_nx, wK_rt, wK_bk, wK_ct, wTg_some, wRt_rt, wRt_nx, wNx_nx, wNx_ct, BK.f, CK.f, FK.f, MK.f, d_addI, d_subI, d_mulI, d_fdivI, d_modI, d_powI, d_addT, d_addS, d_eqI, d_neI, d_ltI, d_leI, d_gtI, d_geI, d_negI, d_int, d_absI, d_idxT, d_idxC, wIx_0, wIx_1, wIx_2, wIx_3, setTg_nm, setTg_tp, setTgs_nil, setTgs_nm, setTgs_tp, Option.bind_some, List.map_cons, List.map_nil, List.cons_append, List.nil_append, List.getElem?_cons_zero, List.getElem?_cons_succ, List.set_cons_zero, List.set_cons_succ, List.replicate_succ, List.replicate_zero, Nat.reduceSub, Nat.reduceAdd, if_true, if_false, Bool.false_eq_true, List.length_cons, List.length_nil, decide_eq_true_eq, Nat.reduceLeDiff, true_and]
    rw [d_app o3.at_ (by rw [List.length_map]; omega), w_nil, wNx_nx]
    refine k _ _ _ _ _ _ _ (by rw [List.getElem?_set_ne hne]; exact hlab3) ?_
    rw [List.map_append]
    exact o3.put
  refine step "begin" a [headT h] _ none none none none none none _ _ (by decide) la pa (by simp) new_at (o1.keep Keep.more) fun S2 x2 x3 x4 x5 x6 x7 g2 o2 => ?_
  refine step "round" b _ _ _ _ _ _ _ _ _ _ (by decide) lb pb (by simp) g2 o2 fun S3 x2 x3 x4 x5 x6 x7 g3 o3 => ?_
  refine step "end" c _ _ _ _ _ _ _ _ _ _ (by decide) lc pc (by simp) g3 o3 fun S4 x2 x3 x4 x5 x6 x7 g4 o4 => ?_
  refine forD_end (lab _ g4) ?_
  rw [wK_nx, w_cons, w_ret]
  simp only [w_var, w_con, w_bin, w_neg, w_not, w_and, w_or, w_ite, w_cmp, w_chain, w_isN, w_tup, w_lst, w_idx, wO_none, wO_some, w_slc, w_blt, w_nilE, w_consE, wTy_some, w_isi, wApp_ref, w_app, wStr_str, w_mt1, w_told, w_calls, wCall_some, MEs.len, d_lenC, d_lenT, wVar_some, wBl_bl, wIt_int, wK_nx, wK_rt, wK_bk, wK_ct, wTg_some, wRt_rt, wRt_nx, wNx_nx, wNx_ct, BK.f, CK.f, FK.f, MK.f, d_addI, d_subI, d_mulI, d_fdivI, d_modI, d_powI, d_addT, d_addS, d_eqI, d_neI, d_ltI, d_leI, d_gtI, d_geI, d_negI, d_int, d_absI, d_idxT, d_idxC, wIx_0, wIx_1, wIx_2, wIx_3, setTg_nm, setTg_tp, setTgs_nil, setTgs_nm, setTgs_tp, Option.bind_some, List.map_cons, List.map_nil, List.cons_append, List.nil_append, List.getElem?_cons_zero, List.getElem?_cons_succ, List.set_cons_zero, List.set_cons_succ, List.replicate_succ, List.replicate_zero, Nat.reduceSub, Nat.reduceAdd, if_true, if_false, Bool.false_eq_true, List.length_cons, List.length_nil, decide_eq_true_eq, Nat.reduceLeDiff, true_and]
  first | exact ⟨_, rfl, o4.at_, o4.k⟩ | exact ⟨o4.at_, o4.k⟩
end T

end
section
set_option Elab.async false
set_option linter.all false
set_option maxRecDepth 100000
set_option maxHeartbeats 4000000
set_option autoImplicit false
/-! Plain laws, part J: texts read. -/
namespace T
open PySem DV
theorem cell_in_ {h : Int} {c : D} (hc : Cell h c) : ∀ S : Sto, d_cell_in [.str (cellT c)] S = .ok c S := by
  rcases hc with rfl | ⟨i, b, rfl, h1, h2, _⟩
  · intro S
    kernel_rfl
  · rcases ten h1 h2 with e | e | e | e | e | e | e | e | e | e <;> subst e <;> cases b <;> intro S <;> kernel_rfl
theorem d_split {z y : Str} {S : Sto} {Q : D → Sto → Prop} {X : Str → Option (Str × D) → Sto → Prop} : wpR (splitD z (.str y) S) Q X = (((y.length == 0) = false ∧ z.length + 2 ≤ 16777216) ∧ Q (.ref S.length) (S ++ [.lst ((Txt.split z y).map D.str)])) := by
  show wpR (if (y.length == 0) = false ∧ z.length + 2 ≤ 16777216 then Res.ok (D.ref S.length) (S ++ [.lst ((Txt.split z y).map D.str)]) else .bad) Q X = _
  rw [wpR_if, wpR_ok]
theorem no_joinL {s : Nat} {y : List Nat} (hy : s ∉ y) : ∀ {parts : List (List Nat)}, (∀ p ∈ parts, s ∉ p) → s ∉ TL.joinL y parts
  | [], _ => by simp [TL.joinL]
  | [p], h => by
    show s ∉ p
    exact h p List.mem_cons_self
  | p :: q :: r, h => by
    show s ∉ p ++ (y ++ TL.joinL y (q :: r))
    simp only [List.mem_append, not_or]
    exact ⟨h p List.mem_cons_self, hy, no_joinL hy fun z hz => h z (List.mem_cons_of_mem _ hz)⟩
theorem no_join {s : Nat} {y : Str} {parts : List Str} (hy : s ∉ TL.tl y) (h : ∀ p ∈ parts, s ∉ TL.tl p) : s ∉ TL.tl (Txt.join y parts) := by
  rw [TL.join_eq, TL.tl_join]
  refine no_joinL hy fun p hp => ?_
  obtain ⟨z, hz, rfl⟩ := List.mem_map.mp hp
  exact h z hz
theorem cellT_no {h : Int} {c : D} (hc : Cell h c) : 47 ∉ TL.tl (cellT c) ∧ 32 ∉ TL.tl (cellT c) ∧ 10 ∉ TL.tl (cellT c) := by
  rcases hc with rfl | ⟨i, b, rfl, h1, h2, _⟩
  · decide
  · rcases ten h1 h2 with e | e | e | e | e | e | e | e | e | e <;> subst e <;> cases b <;> decide +kernel
theorem beatT_no {h : Int} {d : D} (hb : Beat h d) : 32 ∉ TL.tl (beatT d) ∧ 10 ∉ TL.tl (beatT d) := by
  obtain ⟨cs, rfl, hl, hc⟩ := hb
  refine ⟨no_join (by decide) fun p hp => ?_, no_join (by decide) fun p hp => ?_⟩
  · obtain ⟨c, hc', rfl⟩ := List.mem_map.mp hp
    exact (cellT_no (hc c hc')).2.1
  · obtain ⟨c, hc', rfl⟩ := List.mem_map.mp hp
    exact (cellT_no (hc c hc')).2.2
theorem lineT_no {h : Int} {w : Str} {bs : List D} (hw : 10 ∉ TL.tl w) (hb : ∀ b ∈ bs, Beat h b) : 10 ∉ TL.tl (lineT w bs) := by
  refine no_join (by decide) fun p hp => ?_
  rcases List.mem_cons.mp hp with rfl | hp
  · exact hw
  · obtain ⟨b, hb', rfl⟩ := List.mem_map.mp hp
    exact (beatT_no (hb b hb')).2
theorem beat_split {h : Int} {d : D} (hh : h = 1 ∨ h = 2) (hb : Beat h d) : Txt.split (beatT d) "/" = (cellsOf d).map cellT := by
  obtain ⟨cs, rfl, hl, hc⟩ := hb
  refine TL.split_join (s := 47) (S := []) (by decide +kernel) (by decide +kernel) (fun z => ?_) fun p hp => ?_
  · have : cs = [] := List.map_eq_nil_iff.mp z
    rw [this] at hl
    simp at hl
    omega
  · obtain ⟨c, hc', rfl⟩ := List.mem_map.mp hp
    exact (cellT_no (hc c hc')).1
theorem beat_in_ {h : Int} {d : D} {S : Sto} (hh : h = 1 ∨ h = 2) (hb : Beat h d) : wpR (d_beat_in [.str (beatT d)] S) (fun v S' => v = d ∧ Keep S S') noX := by
  have hs := beat_split hh hb
  have hlen := beatT_len hh hb
  obtain ⟨cs, rfl, hl, hc⟩ := hb
  unfold d_beat_in
  refine den_wp rfl ?_
  unfold m_beat_in
  rw [w_cons, w_ret, w_blt, w_consE]
  -- the cells by their texts
  have inv : ∃ g : D → D, ∀ c ∈ cs, g (.str (cellT c)) = c ∧ ∀ S : Sto, d_cell_in [.str (cellT c)] S = .ok (g (.str (cellT c))) S := by
    refine ⟨fun t => match d_cell_in [t] [] with | .ok c _ => c | _ => .non, fun c hcm => ?_⟩
    have e := cell_in_ (hc c hcm)
    have e1 : (match d_cell_in [.str (cellT c)] [] with | .ok c _ => c | _ => D.non) = c := by rw [e []]
    refine ⟨e1, fun S => ?_⟩
    show d_cell_in [.str (cellT c)] S = .ok (match d_cell_in [.str (cellT c)] [] with | .ok c _ => c | _ => D.non) S
    rw [e1]
    exact e S
  obtain ⟨g, hg⟩ := inv
  refine (comp_map ((cs.map cellT).map D.str) g ?_).mono fun v S1 hv => ?_
  · rw [w_val, w_mt1]
    simp only [w_var, w_con, w_bin, w_neg, w_not, w_and, w_or, w_ite, w_cmp, w_chain, w_isN, w_tup, w_lst, w_idx, wO_none, wO_some, w_slc, w_blt, w_nilE, w_consE, wTy_some, w_isi, wApp_ref, w_app, wStr_str, w_mt1, w_told, w_calls, wCall_some, MEs.len, d_lenC, d_lenT, wVar_some, wBl_bl, wIt_int, wK_nx, wK_rt, wK_bk, wK_ct, wTg_some, wRt_rt, wRt_nx, wNx_nx, wNx_ct, BK.f, CK.f, FK.f, MK.f, d_addI, d_subI, d_mulI, d_fdivI, d_modI, d_powI, d_addT, d_addS, d_eqI, d_neI, d_ltI, d_leI, d_gtI, d_geI, d_negI, d_int, d_absI, d_idxT, d_idxC, wIx_0, wIx_1, wIx_2, wIx_3, setTg_nm, setTg_tp, setTgs_nil, setTgs_nm, setTgs_tp, Option.bind_some, List.map_cons, List.map_nil, List.cons_append, List.nil_append, List.getElem?_cons_zero, List.getElem?_cons_succ, List.set_cons_zero, List.set_cons_succ, List.replicate_succ, List.replicate_zero, Nat.reduceSub, Nat.reduceAdd, if_true, if_false, Bool.false_eq_true, List.length_cons, List.length_nil, decide_eq_true_eq, Nat.reduceLeDiff, true_and]
    rw [d_split]
    refine ⟨⟨by decide, by omega⟩, ?_⟩
    rw [d_walkR new_at, hs]
    refine ⟨Keep.more, fun S2 k2 p hp => ?_, rfl, by rw [List.length_map, List.length_map]; omega, fun d S2 hd k2 => ⟨_, rfl, ?_⟩⟩
    · rw [List.mem_singleton.mp hp]
      rw [k2.at_ _ (by simp)]
      exact new_at
    · obtain ⟨t, ht, rfl⟩ := List.mem_map.mp hd
      obtain ⟨c, hcm, rfl⟩ := List.mem_map.mp ht
      simp only [w_var, w_con, w_bin, w_neg, w_not, w_and, w_or, w_ite, w_cmp, w_chain, w_isN, w_tup, w_lst, w_idx, wO_none, wO_some, w_slc, w_blt, w_nilE, w_consE, wTy_some, w_isi, wApp_ref, w_app, wStr_str, w_mt1, w_told, w_calls, wCall_some, MEs.len, d_lenC, d_lenT, wVar_some, wBl_bl, wIt_int, wK_nx, wK_rt, wK_bk, wK_ct, wTg_some, wRt_rt, wRt_nx, wNx_nx, wNx_ct, BK.f, CK.f, FK.f, MK.f, d_addI, d_subI, d_mulI, d_fdivI, d_modI, d_powI, d_addT, d_addS, d_eqI, d_neI, d_ltI, d_leI, d_gtI, d_geI, d_negI, d_int, d_absI, d_idxT, d_idxC, wIx_0, wIx_1, wIx_2, wIx_3, setTg_nm, setTg_tp, setTgs_nil, setTgs_nm, setTgs_tp, Option.bind_some, List.map_cons, List.map_nil, List.cons_append, List.nil_append, List.getElem?_cons_zero, List.getElem?_cons_succ, List.set_cons_zero, List.set_cons_succ, List.replicate_succ, List.replicate_zero, Nat.reduceSub, Nat.reduceAdd, if_true, if_false, Bool.false_eq_true, List.length_cons, List.length_nil, decide_eq_true_eq, Nat.reduceLeDiff, true_and, wipeD, q_beat_in_cell_in, (hg c hcm).2]
      exact .ok ⟨rfl, Keep.refl _⟩
  · obtain ⟨m, rfl, _, hm, k⟩ := hv
    simp only [w_nilE, FK.f, d_tupR hm, wK_rt, wRt_rt]
    refine ⟨?_, k⟩
    rw [List.map_map, List.map_map]
    congr 1
    conv => rhs; rw [← List.map_id cs]
    exact List.map_congr_left fun c hcm => (hg c hcm).1
end T

end
section
set_option Elab.async false
set_option linter.all false
set_option maxRecDepth 100000
set_option maxHeartbeats 4000000
set_option autoImplicit false
/-! Plain laws, part K: lines read. -/
namespace T
open PySem DV
theorem line_split {h : Int} {w : Str} {bs : List D} (hw : 32 ∉ TL.tl w) (hb : ∀ b ∈ bs, Beat h b) : Txt.split (lineT w bs) " " = w :: bs.map beatT := by
  refine TL.split_join (s := 32) (S := []) (by decide +kernel) (by decide +kernel) (by simp) fun p hp => ?_
  rcases List.mem_cons.mp hp with rfl | hp
  · exact hw
  · obtain ⟨b, hb', rfl⟩ := List.mem_map.mp hp
    exact (beatT_no (hb b hb')).1
theorem cut_tail {x : D} {xs : List D} : cutD (x :: xs) (some 1) none = xs := by
  have e : cutD (x :: xs) (some ((1 : Nat) : Int)) none = ((x :: xs).drop 1).take ((x :: xs).length - 1) := by
    unfold cutD
    rw [HT.sIx_nat, HT.sIx_none, Nat.min_eq_left (by simp)]
  show cutD (x :: xs) (some ((1 : Nat) : Int)) none = xs
  rw [e]
  simp
theorem forD_stepR {lk : List (Nat × List D)} {t : Tg} {f : DS} {d : D} {ds : List D} {σ σ1 : DV.Env} {S : Sto} {QF : Fl → Sto → Prop} {X : Str → Option (Str × D) → Sto → Prop} (hl : Locked S lk) (hs : setTg t d σ = some σ1) (h : wpR (f σ1 S) (fun fl S' => match fl with
    | .nx σ2 => wpR (forD lk t f ds σ2 S') QF X
    | .ct σ2 => wpR (forD lk t f ds σ2 S') QF X
    | .bk σ2 => QF (.nx σ2) S'
    | .rt d => QF (.rt d) S') X) : wpR (forD lk t f (d :: ds) σ S) QF X := by
  rw [forD, if_pos hl, hs]
  dsimp only
  rw [wpR_bind]
  refine h.mono fun fl S1 hf => ?_
  cases fl with
  | nx σ2 => exact hf
  | ct σ2 => exact hf
  | bk σ2 => exact .ok hf
  | rt d => exact .ok hf
/-- what a den tells of a value alone -/
noncomputable def atNil (den : Den) (t : D) : D := match den [t] [] with
  | .ok v _ => v
  | _ => .non
theorem atNil_eq {den : Den} {t v : D} (h : wpR (den [t] []) (fun x _ => x = v) noX) : atNil den t = v := by
  obtain ⟨a, S, e, rfl⟩ := h.ex
  unfold atNil
  rw [e]
def lineW (w : Str) : Prop := w = "begin" ∨ w = "round" ∨ w = "end"
theorem line_many {k : Int} {w : Str} {bs ws : List D} {m : Nat} {S : Sto} {l x4 x5 : Option D} {Q : Fl → Sto → Prop} (hk : k = 1 ∨ k = 2) (hl : bs.length ≤ 5) (hb : ∀ b ∈ bs, ShapeB b) (g : S[m]? = some (.lst (.str w :: ws)))
    (q1 : bs.all (beatB k) = true → ∀ S', Keep S S' → Q (.rt (.tup [.str w, .tup bs])) S')
    (q2 : bs.all (beatB k) = false → ∀ S', Keep S S' → Q (.nx [l, some (.ref m), some (.tup bs), some (.int k), x4, x5]) S') :
    wpR (evSs Φ_line_in [.ifS (.blt .all (.cons (.comp (.val (.var 2)) (.nm 5) [5] .none (.call "is_beat" (.cons (.var 3) (.cons (.var 5) .nil)))) .nil)) [.ret (.tup (.cons (.idx (.var 1) (.con (.int 0))) (.cons (.var 2) .nil)))] []] [l, some (.ref m), some (.tup bs), some (.int k), x4, x5] S) Q noX := by
  rw [w_cons, w_if, w_blt, w_consE]
  refine (comp_map bs (fun b => .bl (beatB k b)) ?_).mono fun v S2 hv => ?_
  · rw [w_val]
    simp only [w_var, w_con, w_bin, w_neg, w_not, w_and, w_or, w_ite, w_cmp, w_chain, w_isN, w_tup, w_lst, w_idx, wO_none, wO_some, w_slc, w_blt, w_nilE, w_consE, wTy_some, w_isi, wApp_ref, w_app, wStr_str, w_mt1, w_told, w_calls, wCall_some, MEs.len, d_lenC, d_lenT, wVar_some, wBl_bl, wIt_int, wK_nx, wK_rt, wK_bk, wK_ct, wTg_some, wRt_rt, wRt_nx, wNx_nx, wNx_ct, BK.f, CK.f, FK.f, MK.f, d_addI, d_subI, d_mulI, d_fdivI, d_modI, d_powI, d_addT, d_addS, d_eqI, d_neI, d_ltI, d_leI, d_gtI, d_geI, d_negI, d_int, d_absI, d_idxT, d_idxC, wIx_0, wIx_1, wIx_2, wIx_3, setTg_nm, setTg_tp, setTgs_nil, setTgs_nm, setTgs_tp, Option.bind_some, List.map_cons, List.map_nil, List.cons_append, List.nil_append, List.getElem?_cons_zero, List.getElem?_cons_succ, List.set_cons_zero, List.set_cons_succ, List.replicate_succ, List.replicate_zero, Nat.reduceSub, Nat.reduceAdd, if_true, if_false, Bool.false_eq_true, List.length_cons, List.length_nil, decide_eq_true_eq, Nat.reduceLeDiff, true_and]
    rw [d_walkT]
    refine ⟨Keep.refl _, fun S2 k2 => locked_nil, rfl, by omega, fun d S2 hd k2 => ⟨_, rfl, ?_⟩⟩
    obtain ⟨cs, rfl, hcl, hc⟩ := hb d hd
    simp only [w_var, w_con, w_bin, w_neg, w_not, w_and, w_or, w_ite, w_cmp, w_chain, w_isN, w_tup, w_lst, w_idx, wO_none, wO_some, w_slc, w_blt, w_nilE, w_consE, wTy_some, w_isi, wApp_ref, w_app, wStr_str, w_mt1, w_told, w_calls, wCall_some, MEs.len, d_lenC, d_lenT, wVar_some, wBl_bl, wIt_int, wK_nx, wK_rt, wK_bk, wK_ct, wTg_some, wRt_rt, wRt_nx, wNx_nx, wNx_ct, BK.f, CK.f, FK.f, MK.f, d_addI, d_subI, d_mulI, d_fdivI, d_modI, d_powI, d_addT, d_addS, d_eqI, d_neI, d_ltI, d_leI, d_gtI, d_geI, d_negI, d_int, d_absI, d_idxT, d_idxC, wIx_0, wIx_1, wIx_2, wIx_3, setTg_nm, setTg_tp, setTgs_nil, setTgs_nm, setTgs_tp, Option.bind_some, List.map_cons, List.map_nil, List.cons_append, List.nil_append, List.getElem?_cons_zero, List.getElem?_cons_succ, List.set_cons_zero, List.set_cons_succ, List.replicate_succ, List.replicate_zero, Nat.reduceSub, Nat.reduceAdd, if_true, if_false, Bool.false_eq_true, List.length_cons, List.length_nil, decide_eq_true_eq, Nat.reduceLeDiff, true_and, wipeD, q_line_in_is_beat]
    exact (is_beat_ hk hcl hc).mono fun v S3 hv => hv
  · obtain ⟨n, rfl, _, hn, k2⟩ := hv
    have g2 : S2[m]? = some (.lst (.str w :: ws)) := (k2.at_ _ (List.getElem?_eq_some_iff.mp g).1).trans g
    simp only [w_nilE, FK.f, d_all hn]
    cases e : bs.all (beatB k) with
    | true =>
      simp only [w_var, w_con, w_bin, w_neg, w_not, w_and, w_or, w_ite, w_cmp, w_chain, w_isN, w_tup, w_lst, w_idx, wO_none, wO_some, w_slc, w_blt, w_nilE, w_consE, wTy_some, w_isi, wApp_ref, w_app, wStr_str, w_mt1, w_told, w_calls, wCall_some, MEs.len, d_lenC, d_lenT, w_nil, w_cons, w_asg, w_sub, w_par, w_expr, w_ret, w_if, w_raise, w_pass, w_brk, w_cont, wVar_some, wBl_bl, wIt_int, wK_nx, wK_rt, wK_bk, wK_ct, wTg_some, wRt_rt, wRt_nx, wNx_nx, wNx_ct, BK.f, CK.f, FK.f, MK.f, d_addI, d_subI, d_mulI, d_fdivI, d_modI, d_powI, d_addT, d_addS, d_eqI, d_neI, d_ltI, d_leI, d_gtI, d_geI, d_negI, d_int, d_absI, d_idxT, d_idxC, wIx_0, wIx_1, wIx_2, wIx_3, setTg_nm, setTg_tp, setTgs_nil, setTgs_nm, setTgs_tp, Option.bind_some, List.map_cons, List.map_nil, List.cons_append, List.nil_append, List.getElem?_cons_zero, List.getElem?_cons_succ, List.set_cons_zero, List.set_cons_succ, List.replicate_succ, List.replicate_zero, Nat.reduceSub, Nat.reduceAdd, if_true, if_false, Bool.false_eq_true, List.length_cons, List.length_nil, decide_eq_true_eq, Nat.reduceLeDiff, true_and, d_idxR g2, wIx_0]
      exact q1 e _ k2
    | false =>
      simp only [w_var, w_con, w_bin, w_neg, w_not, w_and, w_or, w_ite, w_cmp, w_chain, w_isN, w_tup, w_lst, w_idx, wO_none, wO_some, w_slc, w_blt, w_nilE, w_consE, wTy_some, w_isi, wApp_ref, w_app, wStr_str, w_mt1, w_told, w_calls, wCall_some, MEs.len, d_lenC, d_lenT, w_nil, w_cons, w_asg, w_sub, w_par, w_expr, w_ret, w_if, w_raise, w_pass, w_brk, w_cont, wVar_some, wBl_bl, wIt_int, wK_nx, wK_rt, wK_bk, wK_ct, wTg_some, wRt_rt, wRt_nx, wNx_nx, wNx_ct, BK.f, CK.f, FK.f, MK.f, d_addI, d_subI, d_mulI, d_fdivI, d_modI, d_powI, d_addT, d_addS, d_eqI, d_neI, d_ltI, d_leI, d_gtI, d_geI, d_negI, d_int, d_absI, d_idxT, d_idxC, wIx_0, wIx_1, wIx_2, wIx_3, setTg_nm, setTg_tp, setTgs_nil, setTgs_nm, setTgs_tp, Option.bind_some, List.map_cons, List.map_nil, List.cons_append, List.nil_append, List.getElem?_cons_zero, List.getElem?_cons_succ, List.set_cons_zero, List.set_cons_succ, List.replicate_succ, List.replicate_zero, Nat.reduceSub, Nat.reduceAdd, if_true, if_false, Bool.false_eq_true, List.length_cons, List.length_nil, decide_eq_true_eq, Nat.reduceLeDiff, true_and]
      exact q2 e _ k2
theorem line_in_ {h : Int} {w : Str} {bs : List D} {S : Sto} (hh : h = 1 ∨ h = 2) (hw : lineW w) (hl : bs.length ≤ 5) (hr : w = "round" → 1 ≤ bs.length) (hb : ∀ b ∈ bs, Beat h b) :
    wpR (d_line_in [.str (lineT w bs)] S) (fun v S' => v = .tup [.str w, .tup bs] ∧ Keep S S') noX := by
  have w10 : w.length ≤ 10 := by rcases hw with rfl | rfl | rfl <;> decide
  have hlen := lineT_len hh w10 hl hb
  have hs := line_split (h := h) (w := w) (bs := bs) (by rcases hw with rfl | rfl | rfl <;> decide) hb
  have q1 : ∀ S, eqD (.str w) (.str "jugglers") S = .ok (.bl false) S := by
    rcases hw with rfl | rfl | rfl <;> intro S <;> kernel_rfl
  have q2 : ∀ S, inB true (.str w) (.tup [.str "jugglers", .str "begin", .str "round", .str "end"]) S = .ok (.bl false) S := by
    rcases hw with rfl | rfl | rfl <;> intro S <;> kernel_rfl
  have q3 : ∀ S, ∃ b, eqD (.str w) (.str "round") S = .ok (.bl b) S ∧ (b = true → 1 ≤ bs.length) := by
    intro S
    rcases hw with rfl | rfl | rfl
    · exact ⟨false, by kernel_rfl, fun z => by cases z⟩
    · exact ⟨true, by kernel_rfl, fun _ => hr rfl⟩
    · exact ⟨false, by kernel_rfl, fun z => by cases z⟩
  unfold d_line_in
  refine den_wp rfl ?_
  unfold m_line_in
  rw [w_cons, w_asg]
  simp only [w_var, w_con, w_bin, w_neg, w_not, w_and, w_or, w_ite, w_cmp, w_chain, w_isN, w_tup, w_lst, w_idx, wO_none, wO_some, w_slc, w_blt, w_nilE, w_consE, wTy_some, w_isi, wApp_ref, w_app, wStr_str, w_mt1, w_told, w_calls, wCall_some, MEs.len, d_lenC, d_lenT, wVar_some, wBl_bl, wIt_int, wK_nx, wK_rt, wK_bk, wK_ct, wTg_some, wRt_rt, wRt_nx, wNx_nx, wNx_ct, BK.f, CK.f, FK.f, MK.f, d_addI, d_subI, d_mulI, d_fdivI, d_modI, d_powI, d_addT, d_addS, d_eqI, d_neI, d_ltI, d_leI, d_gtI, d_geI, d_negI, d_int, d_absI, d_idxT, d_idxC, wIx_0, wIx_1, wIx_2, wIx_3, setTg_nm, setTg_tp, setTgs_nil, setTgs_nm, setTgs_tp, Option.bind_some, List.map_cons, List.map_nil, List.cons_append, List.nil_append, List.getElem?_cons_zero, List.getElem?_cons_succ, List.set_cons_zero, List.set_cons_succ, List.replicate_succ, List.replicate_zero, Nat.reduceSub, Nat.reduceAdd, if_true, if_false, Bool.false_eq_true, List.length_cons, List.length_nil, decide_eq_true_eq, Nat.reduceLeDiff, true_and]
  rw [d_split, hs]
  refine ⟨⟨by decide, by omega⟩, ?_⟩
  generalize hS1 : S ++ [LO.lst ((w :: bs.map beatT).map D.str)] = S1
  have k1 : Keep S S1 := by rw [← hS1]; exact Keep.more
  have g1 : S1[S.length]? = some (.lst ((w :: bs.map beatT).map D.str)) := by rw [← hS1]; exact new_at
  rw [w_cons, w_if]
  simp only [w_var, w_con, w_bin, w_neg, w_not, w_and, w_or, w_ite, w_cmp, w_chain, w_isN, w_tup, w_lst, w_idx, wO_none, wO_some, w_slc, w_blt, w_nilE, w_consE, wTy_some, w_isi, wApp_ref, w_app, wStr_str, w_mt1, w_told, w_calls, wCall_some, MEs.len, d_lenC, d_lenT, wVar_some, wBl_bl, wIt_int, wK_nx, wK_rt, wK_bk, wK_ct, wTg_some, wRt_rt, wRt_nx, wNx_nx, wNx_ct, BK.f, CK.f, FK.f, MK.f, d_addI, d_subI, d_mulI, d_fdivI, d_modI, d_powI, d_addT, d_addS, d_eqI, d_neI, d_ltI, d_leI, d_gtI, d_geI, d_negI, d_int, d_absI, d_idxT, d_idxC, wIx_0, wIx_1, wIx_2, wIx_3, setTg_nm, setTg_tp, setTgs_nil, setTgs_nm, setTgs_tp, Option.bind_some, List.map_cons, List.map_nil, List.cons_append, List.nil_append, List.getElem?_cons_zero, List.getElem?_cons_succ, List.set_cons_zero, List.set_cons_succ, List.replicate_succ, List.replicate_zero, Nat.reduceSub, Nat.reduceAdd, if_true, if_false, Bool.false_eq_true, List.length_cons, List.length_nil, decide_eq_true_eq, Nat.reduceLeDiff, true_and, d_idxR g1, q1, wpR_ok, wIx_0]
  rw [w_nil, wK_nx, w_cons, w_if]
  simp only [w_var, w_con, w_bin, w_neg, w_not, w_and, w_or, w_ite, w_cmp, w_chain, w_isN, w_tup, w_lst, w_idx, wO_none, wO_some, w_slc, w_blt, w_nilE, w_consE, wTy_some, w_isi, wApp_ref, w_app, wStr_str, w_mt1, w_told, w_calls, wCall_some, MEs.len, d_lenC, d_lenT, wVar_some, wBl_bl, wIt_int, wK_nx, wK_rt, wK_bk, wK_ct, wTg_some, wRt_rt, wRt_nx, wNx_nx, wNx_ct, BK.f, CK.f, FK.f, MK.f, d_addI, d_subI, d_mulI, d_fdivI, d_modI, d_powI, d_addT, d_addS, d_eqI, d_neI, d_ltI, d_leI, d_gtI, d_geI, d_negI, d_int, d_absI, d_idxT, d_idxC, wIx_0, wIx_1, wIx_2, wIx_3, setTg_nm, setTg_tp, setTgs_nil, setTgs_nm, setTgs_tp, Option.bind_some, List.map_cons, List.map_nil, List.cons_append, List.nil_append, List.getElem?_cons_zero, List.getElem?_cons_succ, List.set_cons_zero, List.set_cons_succ, List.replicate_succ, List.replicate_zero, Nat.reduceSub, Nat.reduceAdd, if_true, if_false, Bool.false_eq_true, List.length_cons, List.length_nil, decide_eq_true_eq, Nat.reduceLeDiff, true_and, d_idxR g1, d_lenR g1, q2, wpR_ok, wIx_0, List.length_map]
  have main : wpR (evSs Φ_line_in (m_line_in.drop 3) [some (.str (lineT w bs)), some (.ref S.length), none, none, none, none] S1) (wRt fun v S' => v = D.tup [.str w, .tup bs] ∧ Keep S S') noX := by
    show wpR (evSs Φ_line_in [_, _, _] _ _) _ _
    rw [w_cons, w_asg, w_blt, w_consE]
    refine (comp_map ((bs.map beatT).map D.str) (atNil d_beat_in) ?_).mono fun v S2 hv => ?_
    · rw [w_val]
      simp only [w_var, w_con, w_bin, w_neg, w_not, w_and, w_or, w_ite, w_cmp, w_chain, w_isN, w_tup, w_lst, w_idx, wO_none, wO_some, w_slc, w_blt, w_nilE, w_consE, wTy_some, w_isi, wApp_ref, w_app, wStr_str, w_mt1, w_told, w_calls, wCall_some, MEs.len, d_lenC, d_lenT, wVar_some, wBl_bl, wIt_int, wK_nx, wK_rt, wK_bk, wK_ct, wTg_some, wRt_rt, wRt_nx, wNx_nx, wNx_ct, BK.f, CK.f, FK.f, MK.f, d_addI, d_subI, d_mulI, d_fdivI, d_modI, d_powI, d_addT, d_addS, d_eqI, d_neI, d_ltI, d_leI, d_gtI, d_geI, d_negI, d_int, d_absI, d_idxT, d_idxC, wIx_0, wIx_1, wIx_2, wIx_3, setTg_nm, setTg_tp, setTgs_nil, setTgs_nm, setTgs_tp, Option.bind_some, List.map_cons, List.map_nil, List.cons_append, List.nil_append, List.getElem?_cons_zero, List.getElem?_cons_succ, List.set_cons_zero, List.set_cons_succ, List.replicate_succ, List.replicate_zero, Nat.reduceSub, Nat.reduceAdd, if_true, if_false, Bool.false_eq_true, List.length_cons, List.length_nil, decide_eq_true_eq, Nat.reduceLeDiff, true_and]
      rw [d_slR g1, List.map_cons, cut_tail, d_walkR new_at]
      refine ⟨Keep.more, fun S2 k2 p hp => ?_, rfl, by simp; omega, fun d S2 hd k2 => ⟨_, rfl, ?_⟩⟩
      · rw [List.mem_singleton.mp hp]
        rw [k2.at_ _ (by simp)]
        exact new_at
      · obtain ⟨t, ht, rfl⟩ := List.mem_map.mp hd
        obtain ⟨b, hbm, rfl⟩ := List.mem_map.mp ht
        simp only [w_var, w_con, w_bin, w_neg, w_not, w_and, w_or, w_ite, w_cmp, w_chain, w_isN, w_tup, w_lst, w_idx, wO_none, wO_some, w_slc, w_blt, w_nilE, w_consE, wTy_some, w_isi, wApp_ref, w_app, wStr_str, w_mt1, w_told, w_calls, wCall_some, MEs.len, d_lenC, d_lenT, wVar_some, wBl_bl, wIt_int, wK_nx, wK_rt, wK_bk, wK_ct, wTg_some, wRt_rt, wRt_nx, wNx_nx, wNx_ct, BK.f, CK.f, FK.f, MK.f, d_addI, d_subI, d_mulI, d_fdivI, d_modI, d_powI, d_addT, d_addS, d_eqI, d_neI, d_ltI, d_leI, d_gtI, d_geI, d_negI, d_int, d_absI, d_idxT, d_idxC, wIx_0, wIx_1, wIx_2, wIx_3, setTg_nm, setTg_tp, setTgs_nil, setTgs_nm, setTgs_tp, Option.bind_some, List.map_cons, List.map_nil, List.cons_append, List.nil_append, List.getElem?_cons_zero, List.getElem?_cons_succ, List.set_cons_zero, List.set_cons_succ, List.replicate_succ, List.replicate_zero, Nat.reduceSub, Nat.reduceAdd, if_true, if_false, Bool.false_eq_true, List.length_cons, List.length_nil, decide_eq_true_eq, Nat.reduceLeDiff, true_and, wipeD, q_line_in_beat_in]
        refine (beat_in_ hh (hb b hbm)).mono fun v S3 hv => ⟨?_, hv.2⟩
        rw [hv.1]
        exact (atNil_eq ((beat_in_ hh (hb b hbm)).mono fun v S3 hv => hv.1)).symm
    · obtain ⟨m, rfl, _, hm, k⟩ := hv
      have em : ((bs.map beatT).map D.str).map (atNil d_beat_in) = bs := by
        rw [List.map_map, List.map_map]
        conv => rhs; rw [← List.map_id bs]
        exact List.map_congr_left fun b hbm => atNil_eq ((beat_in_ hh (hb b hbm)).mono fun v S3 hv => hv.1)
      rw [em] at hm
      simp only [w_nilE, FK.f, d_tupR hm]
      simp only [w_var, w_con, w_bin, w_neg, w_not, w_and, w_or, w_ite, w_cmp, w_chain, w_isN, w_tup, w_lst, w_idx, wO_none, wO_some, w_slc, w_blt, w_nilE, w_consE, wTy_some, w_isi, wApp_ref, w_app, wStr_str, w_mt1, w_told, w_calls, wCall_some, MEs.len, d_lenC, d_lenT, wVar_some, wBl_bl, wIt_int, wK_nx, wK_rt, wK_bk, wK_ct, wTg_some, wRt_rt, wRt_nx, wNx_nx, wNx_ct, BK.f, CK.f, FK.f, MK.f, d_addI, d_subI, d_mulI, d_fdivI, d_modI, d_powI, d_addT, d_addS, d_eqI, d_neI, d_ltI, d_leI, d_gtI, d_geI, d_negI, d_int, d_absI, d_idxT, d_idxC, wIx_0, wIx_1, wIx_2, wIx_3, setTg_nm, setTg_tp, setTgs_nil, setTgs_nm, setTgs_tp, Option.bind_some, List.map_cons, List.map_nil, List.cons_append, List.nil_append, List.getElem?_cons_zero, List.getElem?_cons_succ, List.set_cons_zero, List.set_cons_succ, List.replicate_succ, List.replicate_zero, Nat.reduceSub, Nat.reduceAdd, if_true, if_false, Bool.false_eq_true, List.length_cons, List.length_nil, decide_eq_true_eq, Nat.reduceLeDiff, true_and]
      rw [w_cons, w_for, w_val]
      simp only [w_var, w_con, w_bin, w_neg, w_not, w_and, w_or, w_ite, w_cmp, w_chain, w_isN, w_tup, w_lst, w_idx, wO_none, wO_some, w_slc, w_blt, w_nilE, w_consE, wTy_some, w_isi, wApp_ref, w_app, wStr_str, w_mt1, w_told, w_calls, wCall_some, MEs.len, d_lenC, d_lenT, wVar_some, wBl_bl, wIt_int, wK_nx, wK_rt, wK_bk, wK_ct, wTg_some, wRt_rt, wRt_nx, wNx_nx, wNx_ct, BK.f, CK.f, FK.f, MK.f, d_addI, d_subI, d_mulI, d_fdivI, d_modI, d_powI, d_addT, d_addS, d_eqI, d_neI, d_ltI, d_leI, d_gtI, d_geI, d_negI, d_int, d_absI, d_idxT, d_idxC, wIx_0, wIx_1, wIx_2, wIx_3, setTg_nm, setTg_tp, setTgs_nil, setTgs_nm, setTgs_tp, Option.bind_some, List.map_cons, List.map_nil, List.cons_append, List.nil_append, List.getElem?_cons_zero, List.getElem?_cons_succ, List.set_cons_zero, List.set_cons_succ, List.replicate_succ, List.replicate_zero, Nat.reduceSub, Nat.reduceAdd, if_true, if_false, Bool.false_eq_true, List.length_cons, List.length_nil, decide_eq_true_eq, Nat.reduceLeDiff, true_and, d_walkT]
      have sb : ∀ b ∈ bs, ShapeB b := fun b h => (hb b h).shape hh
      have g2 : S2[S.length]? = some (.lst (.str w :: (bs.map beatT).map D.str)) := (k.at_ _ (List.getElem?_eq_some_iff.mp g1).1).trans g1
      refine forD_stepR locked_nil rfl ?_
      refine line_many (.inl rfl) hl sb g2 (fun _ S3 k3 => ?_) fun z S3 k3 => ?_
      · exact ⟨rfl, (k1.trans k).trans k3⟩
      · dsimp only
        have g3 : S3[S.length]? = some (.lst (.str w :: (bs.map beatT).map D.str)) := (k3.at_ _ (List.getElem?_eq_some_iff.mp g2).1).trans g2
        refine forD_stepR locked_nil rfl ?_
        refine line_many (.inr rfl) hl sb g3 (fun _ S4 k4 => ?_) fun z' S4 k4 => ?_
        · exact ⟨rfl, ((k1.trans k).trans k3).trans k4⟩
        · exfalso
          have a : bs.all (beatB h) = true := List.all_eq_true.mpr fun b hm => beat_ok hh (hb b hm)
          rcases hh with rfl | rfl
          · rw [a] at z
            cases z
          · rw [a] at z'
            cases z'
  simp only [m_line_in, List.drop] at main

  simp only [w_var, w_con, w_bin, w_neg, w_not, w_and, w_or, w_ite, w_cmp, w_chain, w_isN, w_tup, w_lst, w_idx, wO_none, wO_some, w_slc, w_blt, w_nilE, w_consE, wTy_some, w_isi, wApp_ref, w_app, wStr_str, w_mt1, w_told, w_calls, wCall_some, MEs.len, d_lenC, d_lenT, w_nil, w_cons, w_asg, w_sub, w_par, w_expr, w_ret, w_if, w_raise, w_pass, w_brk, w_cont, wVar_some, wBl_bl, wIt_int, wK_nx, wK_rt, wK_bk, wK_ct, wTg_some, wRt_rt, wRt_nx, wNx_nx, wNx_ct, BK.f, CK.f, FK.f, MK.f, d_addI, d_subI, d_mulI, d_fdivI, d_modI, d_powI, d_addT, d_addS, d_eqI, d_neI, d_ltI, d_leI, d_gtI, d_geI, d_negI, d_int, d_absI, d_idxT, d_idxC, wIx_0, wIx_1, wIx_2, wIx_3, setTg_nm, setTg_tp, setTgs_nil, setTgs_nm, setTgs_tp, Option.bind_some, List.map_cons, List.map_nil, List.cons_append, List.nil_append, List.getElem?_cons_zero, List.getElem?_cons_succ, List.set_cons_zero, List.set_cons_succ, List.replicate_succ, List.replicate_zero, Nat.reduceSub, Nat.reduceAdd, if_true, if_false, Bool.false_eq_true, List.length_cons, List.length_nil, decide_eq_true_eq, Nat.reduceLeDiff, true_and] at main
  refine iteI (fun z => absurd z (by omega)) fun _ => ?_
  obtain ⟨b, e3, hb3⟩ := q3 S1
  rw [e3, wpR_ok]
  cases b with
  | false =>
    simp only [w_var, w_con, w_bin, w_neg, w_not, w_and, w_or, w_ite, w_cmp, w_chain, w_isN, w_tup, w_lst, w_idx, wO_none, wO_some, w_slc, w_blt, w_nilE, w_consE, wTy_some, w_isi, wApp_ref, w_app, wStr_str, w_mt1, w_told, w_calls, wCall_some, MEs.len, d_lenC, d_lenT, w_nil, w_cons, w_asg, w_sub, w_par, w_expr, w_ret, w_if, w_raise, w_pass, w_brk, w_cont, wVar_some, wBl_bl, wIt_int, wK_nx, wK_rt, wK_bk, wK_ct, wTg_some, wRt_rt, wRt_nx, wNx_nx, wNx_ct, BK.f, CK.f, FK.f, MK.f, d_addI, d_subI, d_mulI, d_fdivI, d_modI, d_powI, d_addT, d_addS, d_eqI, d_neI, d_ltI, d_leI, d_gtI, d_geI, d_negI, d_int, d_absI, d_idxT, d_idxC, wIx_0, wIx_1, wIx_2, wIx_3, setTg_nm, setTg_tp, setTgs_nil, setTgs_nm, setTgs_tp, Option.bind_some, List.map_cons, List.map_nil, List.cons_append, List.nil_append, List.getElem?_cons_zero, List.getElem?_cons_succ, List.set_cons_zero, List.set_cons_succ, List.replicate_succ, List.replicate_zero, Nat.reduceSub, Nat.reduceAdd, if_true, if_false, Bool.false_eq_true, List.length_cons, List.length_nil, decide_eq_true_eq, Nat.reduceLeDiff, true_and]
    exact main
  | true =>
    have := hb3 rfl
    simp only [w_var, w_con, w_bin, w_neg, w_not, w_and, w_or, w_ite, w_cmp, w_chain, w_isN, w_tup, w_lst, w_idx, wO_none, wO_some, w_slc, w_blt, w_nilE, w_consE, wTy_some, w_isi, wApp_ref, w_app, wStr_str, w_mt1, w_told, w_calls, wCall_some, MEs.len, d_lenC, d_lenT, w_nil, w_cons, w_asg, w_sub, w_par, w_expr, w_ret, w_if, w_raise, w_pass, w_brk, w_cont, wVar_some, wBl_bl, wIt_int, wK_nx, wK_rt, wK_bk, wK_ct, wTg_some, wRt_rt, wRt_nx, wNx_nx, wNx_ct, BK.f, CK.f, FK.f, MK.f, d_addI, d_subI, d_mulI, d_fdivI, d_modI, d_powI, d_addT, d_addS, d_eqI, d_neI, d_ltI, d_leI, d_gtI, d_geI, d_negI, d_int, d_absI, d_idxT, d_idxC, wIx_0, wIx_1, wIx_2, wIx_3, setTg_nm, setTg_tp, setTgs_nil, setTgs_nm, setTgs_tp, Option.bind_some, List.map_cons, List.map_nil, List.cons_append, List.nil_append, List.getElem?_cons_zero, List.getElem?_cons_succ, List.set_cons_zero, List.set_cons_succ, List.replicate_succ, List.replicate_zero, Nat.reduceSub, Nat.reduceAdd, if_true, if_false, Bool.false_eq_true, List.length_cons, List.length_nil, decide_eq_true_eq, Nat.reduceLeDiff, true_and, d_lenR g1, List.length_map, List.length_cons]
    refine iteI (fun z => absurd z (by omega)) fun _ => ?_
    exact main
end T

end
section
set_option Elab.async false
set_option linter.all false
set_option maxRecDepth 100000
set_option maxHeartbeats 4000000
set_option autoImplicit false
/-! Plain laws, part L: data of plans. -/
namespace T
open PySem DV
def Lay (n : Nat) (d : D) (p : PyData) : Prop := (∀ g, toPyW g d = some p) ∧ p.canLay0 = true ∧ p.depth ≤ n
theorem lays {n : Nat} : ∀ {xs : List D}, (∀ x ∈ xs, ∃ p, Lay n x p) → ∃ ps, (∀ g, toPyW.toPysW g xs = some ps) ∧ PyData.canLayAll0 ps = true ∧ PyData.depthAll ps ≤ n ∧ ps.length = xs.length
  | [], _ => ⟨[], fun _ => rfl, by simp [PyData.canLayAll0], by simp [PyData.depthAll], rfl⟩
  | x :: xs, h => by
    obtain ⟨p, e1, e2, e3⟩ := h x List.mem_cons_self
    obtain ⟨ps, f1, f2, f3, f4⟩ := lays (xs := xs) fun y hy => h y (List.mem_cons_of_mem _ hy)
    refine ⟨p :: ps, fun g => ?_, ?_, ?_, by simp [f4]⟩
    · simp only [toPyW.toPysW, e1, f1]
    · simp [PyData.canLayAll0, e2, f2]
    · simp only [PyData.depthAll]
      omega
theorem lay_tup {n : Nat} {xs : List D} (h : ∀ x ∈ xs, ∃ p, Lay n x p) : ∃ ps, Lay (n + 1) (.tup xs) (.tuple ps) ∧ ps.length = xs.length := by
  obtain ⟨ps, e1, e2, e3, e4⟩ := lays h
  refine ⟨ps, ⟨fun g => ?_, ?_, ?_⟩, e4⟩
  · simp only [toPyW, e1, Option.map_some]
  · simpa [PyData.canLay0] using e2
  · simp only [PyData.depth]
    omega
theorem lay_cell {h : Int} {c : D} (hc : Cell h c) : ∃ p, Lay 2 c p := by
  rcases hc with rfl | ⟨i, b, rfl, _⟩
  · exact ⟨.none, fun _ => rfl, by simp [PyData.canLay0], by simp [PyData.depth]⟩
  · exact ⟨.tuple [.int i, .bool b], fun _ => rfl, by simp [PyData.canLay0, PyData.canLayAll0], by simp [PyData.depth, PyData.depthAll]⟩
theorem lay_beat {h : Int} {b : D} (hb : Beat h b) : ∃ p, Lay 3 b p := by
  obtain ⟨cs, rfl, _, hc⟩ := hb
  obtain ⟨ps, l, _⟩ := lay_tup fun c hm => lay_cell (hc c hm)
  exact ⟨_, l⟩
theorem lay_part {h : Int} {bs : List D} (hb : ∀ b ∈ bs, Beat h b) : ∃ ps, Lay 4 (.tup bs) (.tuple ps) ∧ ps.length = bs.length := lay_tup fun b hm => lay_beat (hb b hm)
theorem Lay.le {n m : Nat} {d : D} {p : PyData} (l : Lay n d p) (h : n ≤ m) : Lay m d p := ⟨l.1, l.2.1, Nat.le_trans l.2.2 h⟩
theorem lay_int (n : Nat) (i : Int) : Lay (n + 1) (.int i) (.int i) := ⟨fun _ => rfl, by simp [PyData.canLay0], by simp [PyData.depth]⟩
theorem lay_str (n : Nat) {x : Str} (h : PyData.strOk x = true) : Lay (n + 1) (.str x) (.str x) := ⟨fun _ => rfl, by simpa [PyData.canLay0] using h, by simp [PyData.depth]⟩
theorem lay_plan {h : Int} {a b c : List D} (pa : ∀ x ∈ a, Beat h x) (pb : ∀ x ∈ b, Beat h x) (pc : ∀ x ∈ c, Beat h x) : ∃ p, Lay 5 (.tup [.int h, .tup a, .tup b, .tup c]) p := by
  obtain ⟨ps, l, _⟩ := lay_tup (n := 4) (xs := [.int h, .tup a, .tup b, .tup c]) (fun x hx => by
    simp only [List.mem_cons, List.not_mem_nil, or_false] at hx
    rcases hx with rfl | rfl | rfl | rfl
    · exact ⟨_, lay_int 3 h⟩
    · exact ⟨_, (lay_part pa).choose_spec.1⟩
    · exact ⟨_, (lay_part pb).choose_spec.1⟩
    · exact ⟨_, (lay_part pc).choose_spec.1⟩)
  exact ⟨_, l⟩
theorem Lay.shaped {n : Nat} {d : D} {p : PyData} (l : Lay n d p) (h : n ≤ 64) : SeqAt.shaped p = true := by
  have h2 := l.2.2
  unfold SeqAt.shaped
  rw [l.2.1, Bool.true_and, decide_eq_true_eq]
  omega
theorem ne_same {n : Nat} {d : D} {p : PyData} {S : Sto} (l : Lay n d p) (h : n ≤ 64) : neD d d S = .ok (.bl false) S := by
  have e : toPy S d = some p := l.1 _
  unfold neD
  rw [e]
  dsimp only
  rw [if_pos ⟨l.shaped h, l.shaped h⟩, SeqAt.eqv_refl p l.2.1]
  rfl
/-- a list of values -/
theorem toPy_list {S : Sto} {m : Nat} {xs : List D} {ps : List PyData} (h : S[m]? = some (.lst xs)) (e : ∀ g, toPyW.toPysW g xs = some ps) : toPy S (.ref m) = some (.list ps) := by
  unfold toPy
  simp only [toPyW, gAt, h, e, Option.map_some]
theorem head_in {h : Int} {S : Sto} (hh : h = 1 ∨ h = 2) : wpR (d_line_in [.str (headT h)] S) (fun v S' => v = .tup [.str "jugglers", .int h] ∧ Keep S S') noX := by
  have hs : ∃ t : Str, Txt.split (headT h) " " = [("jugglers" : Str), t] ∧ (∀ S, inB false (.str t) (.tup [.str "1", .str "2"]) S = .ok (.bl true) S) ∧ (∀ S, intD [.str t] S = .ok (.int h) S) := by
    rcases hh with rfl | rfl
    · exact ⟨"1", by decide +kernel, fun S => by kernel_rfl, fun S => by kernel_rfl⟩
    · exact ⟨"2", by decide +kernel, fun S => by kernel_rfl, fun S => by kernel_rfl⟩
  obtain ⟨t, hs, q2, q3⟩ := hs
  have q1 : ∀ S, eqD (.str "jugglers") (.str "jugglers") S = .ok (.bl true) S := fun S => by kernel_rfl
  have hl := headT_len hh
  unfold d_line_in
  refine den_wp rfl ?_
  unfold m_line_in
  rw [w_cons, w_asg]
  simp only [w_var, w_con, w_bin, w_neg, w_not, w_and, w_or, w_ite, w_cmp, w_chain, w_isN, w_tup, w_lst, w_idx, wO_none, wO_some, w_slc, w_blt, w_nilE, w_consE, wTy_some, w_isi, wApp_ref, w_app, wStr_str, w_mt1, w_told, w_calls, wCall_some, MEs.len, d_lenC, d_lenT, wVar_some, wBl_bl, wIt_int, wK_nx, wK_rt, wK_bk, wK_ct, wTg_some, wRt_rt, wRt_nx, wNx_nx, wNx_ct, BK.f, CK.f, FK.f, MK.f, d_addI, d_subI, d_mulI, d_fdivI, d_modI, d_powI, d_addT, d_addS, d_eqI, d_neI, d_ltI, d_leI, d_gtI, d_geI, d_negI, d_int, d_absI, d_idxT, d_idxC, wIx_0, wIx_1, wIx_2, wIx_3, setTg_nm, setTg_tp, setTgs_nil, setTgs_nm, setTgs_tp, Option.bind_some, List.map_cons, List.map_nil, List.cons_append, List.nil_append, List.getElem?_cons_zero, List.getElem?_cons_succ, List.set_cons_zero, List.set_cons_succ, List.replicate_succ, List.replicate_zero, Nat.reduceSub, Nat.reduceAdd, if_true, if_false, Bool.false_eq_true, List.length_cons, List.length_nil, decide_eq_true_eq, Nat.reduceLeDiff, true_and]
  rw [d_split, hs]
  refine ⟨⟨by decide, by omega⟩, ?_⟩
  generalize hS1 : S ++ [LO.lst ([("jugglers" : Str), t].map D.str)] = S1
  have k1 : Keep S S1 := by rw [← hS1]; exact Keep.more
  have g1 : S1[S.length]? = some (.lst [D.str "jugglers", D.str t]) := by rw [← hS1]; exact new_at
  rw [w_cons, w_if]
  simp only [w_var, w_con, w_bin, w_neg, w_not, w_and, w_or, w_ite, w_cmp, w_chain, w_isN, w_tup, w_lst, w_idx, wO_none, wO_some, w_slc, w_blt, w_nilE, w_consE, wTy_some, w_isi, wApp_ref, w_app, wStr_str, w_mt1, w_told, w_calls, wCall_some, MEs.len, d_lenC, d_lenT, wVar_some, wBl_bl, wIt_int, wK_nx, wK_rt, wK_bk, wK_ct, wTg_some, wRt_rt, wRt_nx, wNx_nx, wNx_ct, BK.f, CK.f, FK.f, MK.f, d_addI, d_subI, d_mulI, d_fdivI, d_modI, d_powI, d_addT, d_addS, d_eqI, d_neI, d_ltI, d_leI, d_gtI, d_geI, d_negI, d_int, d_absI, d_idxT, d_idxC, wIx_0, wIx_1, wIx_2, wIx_3, setTg_nm, setTg_tp, setTgs_nil, setTgs_nm, setTgs_tp, Option.bind_some, List.map_cons, List.map_nil, List.cons_append, List.nil_append, List.getElem?_cons_zero, List.getElem?_cons_succ, List.set_cons_zero, List.set_cons_succ, List.replicate_succ, List.replicate_zero, Nat.reduceSub, Nat.reduceAdd, if_true, if_false, Bool.false_eq_true, List.length_cons, List.length_nil, decide_eq_true_eq, Nat.reduceLeDiff, true_and, d_idxR g1, d_lenR g1, q1, q2, q3, wpR_ok, wIx_0, wIx_1, FK.f]
  rw [w_cons, w_ret]
  simp only [w_var, w_con, w_bin, w_neg, w_not, w_and, w_or, w_ite, w_cmp, w_chain, w_isN, w_tup, w_lst, w_idx, wO_none, wO_some, w_slc, w_blt, w_nilE, w_consE, wTy_some, w_isi, wApp_ref, w_app, wStr_str, w_mt1, w_told, w_calls, wCall_some, MEs.len, d_lenC, d_lenT, wVar_some, wBl_bl, wIt_int, wK_nx, wK_rt, wK_bk, wK_ct, wTg_some, wRt_rt, wRt_nx, wNx_nx, wNx_ct, BK.f, CK.f, FK.f, MK.f, d_addI, d_subI, d_mulI, d_fdivI, d_modI, d_powI, d_addT, d_addS, d_eqI, d_neI, d_ltI, d_leI, d_gtI, d_geI, d_negI, d_int, d_absI, d_idxT, d_idxC, wIx_0, wIx_1, wIx_2, wIx_3, setTg_nm, setTg_tp, setTgs_nil, setTgs_nm, setTgs_tp, Option.bind_some, List.map_cons, List.map_nil, List.cons_append, List.nil_append, List.getElem?_cons_zero, List.getElem?_cons_succ, List.set_cons_zero, List.set_cons_succ, List.replicate_succ, List.replicate_zero, Nat.reduceSub, Nat.reduceAdd, if_true, if_false, Bool.false_eq_true, List.length_cons, List.length_nil, decide_eq_true_eq, Nat.reduceLeDiff, true_and, d_idxR g1, d_lenR g1, q1, q2, q3, wpR_ok, wIx_0, wIx_1, FK.f]
  rw [if_pos (by decide)]
  exact k1
theorem textT_len {h : Int} {a b c : List D} (hh : h = 1 ∨ h = 2) (la : a.length ≤ 5) (lb : b.length ≤ 5) (lc : c.length ≤ 5) (pa : ∀ x ∈ a, Beat h x) (pb : ∀ x ∈ b, Beat h x) (pc : ∀ x ∈ c, Beat h x) : (textT h a b c).length ≤ 1000 := by
  refine Nat.le_trans (join_len _ _) ?_
  have q1 := lineT_len hh (w := "begin") (by decide) la pa
  have q2 := lineT_len hh (w := "round") (by decide) lb pb
  have q3 := lineT_len hh (w := "end") (by decide) lc pc
  have q0 := headT_len hh
  have e1 : (("\n" : Str)).length = 1 := by decide
  rw [e1]
  simp only [List.map_cons, List.map_nil, List.sum_cons, List.sum_nil, List.length_cons, List.length_nil]
  omega
theorem text_split {h : Int} {a b c : List D} (hh : h = 1 ∨ h = 2) (pa : ∀ x ∈ a, Beat h x) (pb : ∀ x ∈ b, Beat h x) (pc : ∀ x ∈ c, Beat h x) : Txt.split (textT h a b c) "\n" = [headT h, lineT "begin" a, lineT "round" b, lineT "end" c] := by
  refine TL.split_join (s := 10) (S := []) (by decide +kernel) (by decide +kernel) (by simp) fun p hp => ?_
  simp only [List.mem_cons, List.not_mem_nil, or_false] at hp
  rcases hp with rfl | rfl | rfl | rfl
  · rcases hh with rfl | rfl <;> decide +kernel
  · exact lineT_no (by decide) pa
  · exact lineT_no (by decide) pb
  · exact lineT_no (by decide) pc
def sndD : D → D
  | .tup [_, x] => x
  | _ => .non
def fstD : D → D
  | .tup [x, _] => x
  | _ => .non
theorem lay_row {w : Str} {d : D} {q : PyData} (hw : PyData.strOk w = true) (l : Lay 5 d q) : ∃ qs, Lay 6 (.tup [.str w, d]) (.tuple qs) := by
  obtain ⟨qs, l, _⟩ := lay_tup (n := 5) (xs := [.str w, d]) (fun x hx => by
    simp only [List.mem_cons, List.not_mem_nil, or_false] at hx
    rcases hx with rfl | rfl
    · exact ⟨_, lay_str 4 hw⟩
    · exact ⟨_, l⟩)
  exact ⟨_, l⟩
theorem none_in {S : Sto} {m : Nat} {x y z t : D} {p1 p2 p3 p4 : List PyData} (g : S[m]? = some (.lst [x, y, z, t])) (l1 : Lay 6 x (.tuple p1)) (l2 : Lay 6 y (.tuple p2)) (l3 : Lay 6 z (.tuple p3)) (l4 : Lay 6 t (.tuple p4)) : inB false .non (.ref m) S = .ok (.bl false) S := by
  have e1 : toPy S (.ref m) = some (.list [.tuple p1, .tuple p2, .tuple p3, .tuple p4]) := toPy_list g fun g => by simp only [toPyW.toPysW, l1.1, l2.1, l3.1, l4.1]
  have sh : SeqAt.shaped (.list [.tuple p1, .tuple p2, .tuple p3, .tuple p4]) = true := by
    have a1 := l1.2.2
    have a2 := l2.2.2
    have a3 := l3.2.2
    have a4 := l4.2.2
    unfold SeqAt.shaped
    simp only [PyData.canLay0, PyData.canLayAll0, PyData.depth, PyData.depthAll, Bool.and_eq_true, decide_eq_true_eq] at *
    refine ⟨⟨l1.2.1, l2.2.1, l3.2.1, l4.2.1, trivial⟩, ?_⟩
    refine decide_eq_true ?_
    omega
  show (match toPy S .non, toPy S (.ref m) with
    | some p, some (.list qs) => if SeqAt.shaped p = true ∧ SeqAt.shaped (.list qs) = true then Res.ok (D.bl (xor false (qs.any fun z => PyData.eqv z p))) S else .bad
    | some p, some (.tuple qs) => if SeqAt.shaped p = true ∧ SeqAt.shaped (.tuple qs) = true then .ok (.bl (xor false (qs.any fun z => PyData.eqv z p))) S else .bad
    | _, _ => .bad) = _
  rw [e1]
  show (if SeqAt.shaped .none = true ∧ SeqAt.shaped (.list [.tuple p1, .tuple p2, .tuple p3, .tuple p4]) = true then _ else _) = _
  rw [if_pos ⟨by decide, sh⟩]
  rfl
end T

end
section
set_option Elab.async false
set_option linter.all false
set_option maxRecDepth 100000
set_option maxHeartbeats 4000000
set_option autoImplicit false
/-! Plain laws, part M: texts read. -/
namespace T
open PySem DV
theorem words_same {S : Sto} {m n : Nat} (g : S[m]? = some (.lst [.str "jugglers", .str "begin", .str "round", .str "end"])) (g2 : S[n]? = some (.lst [.str "jugglers", .str "begin", .str "round", .str "end"])) : neD (.ref m) (.ref n) S = .ok (.bl false) S := by
  have e1 : toPy S (.ref m) = some (.list [.str "jugglers", .str "begin", .str "round", .str "end"]) := toPy_list g fun g => rfl
  have e2 : toPy S (.ref n) = some (.list [.str "jugglers", .str "begin", .str "round", .str "end"]) := toPy_list g2 fun g => rfl
  unfold neD
  rw [e1, e2]
  kernel_rfl
theorem read_so_ {h : Int} {a b c : List D} {S : Sto} (p : PlanD (.tup [.int h, .tup a, .tup b, .tup c])) : wpR (d_read_so [.str (textT h a b c)] S) (fun v S' => v = .tup [.int h, .tup a, .tup b, .tup c] ∧ Keep S S') noX := by
  obtain ⟨h', a', b', c', e, hh, la, lb, lc, pa, pb, pc⟩ := p.open_
  cases e
  have hlen := textT_len hh la lb.2 lc pa pb pc
  have hs := text_split hh pa pb pc
  obtain ⟨qa, ya⟩ := lay_part pa
  obtain ⟨qb, yb⟩ := lay_part pb
  obtain ⟨qc, yc⟩ := lay_part pc
  obtain ⟨r1, z1⟩ := lay_row (w := "jugglers") (by decide +kernel) ((lay_int 0 h).le (by omega))
  obtain ⟨r2, z2⟩ := lay_row (w := "begin") (by decide +kernel) (ya.1.le (by omega))
  obtain ⟨r3, z3⟩ := lay_row (w := "round") (by decide +kernel) (yb.1.le (by omega))
  obtain ⟨r4, z4⟩ := lay_row (w := "end") (by decide +kernel) (yc.1.le (by omega))
  have R0 : ∀ S, wpR (d_line_in [.str (headT h)] S) (fun v S' => v = .tup [.str "jugglers", .int h] ∧ Keep S S') noX := fun S => head_in hh
  have R1 : ∀ S, wpR (d_line_in [.str (lineT "begin" a)] S) (fun v S' => v = .tup [.str "begin", .tup a] ∧ Keep S S') noX := fun S => line_in_ hh (.inl rfl) la (fun z => absurd z (by decide)) pa
  have R2 : ∀ S, wpR (d_line_in [.str (lineT "round" b)] S) (fun v S' => v = .tup [.str "round", .tup b] ∧ Keep S S') noX := fun S => line_in_ hh (.inr (.inl rfl)) lb.2 (fun _ => lb.1) pb
  have R3 : ∀ S, wpR (d_line_in [.str (lineT "end" c)] S) (fun v S' => v = .tup [.str "end", .tup c] ∧ Keep S S') noX := fun S => line_in_ hh (.inr (.inr rfl)) lc (fun z => absurd z (by decide)) pc
  have n0 := atNil_eq ((R0 []).mono fun v S3 hv => hv.1)
  have n1 := atNil_eq ((R1 []).mono fun v S3 hv => hv.1)
  have n2 := atNil_eq ((R2 []).mono fun v S3 hv => hv.1)
  have n3 := atNil_eq ((R3 []).mono fun v S3 hv => hv.1)
  unfold d_read_so
  refine den_wp rfl ?_
  unfold m_read_so
  rw [w_cons, w_if]
  simp only [w_var, w_con, w_bin, w_neg, w_not, w_and, w_or, w_ite, w_cmp, w_chain, w_isN, w_tup, w_lst, w_idx, wO_none, wO_some, w_slc, w_blt, w_nilE, w_consE, wTy_some, w_isi, wApp_ref, w_app, wStr_str, w_mt1, w_told, w_calls, wCall_some, MEs.len, d_lenC, d_lenT, wVar_some, wBl_bl, wIt_int, wK_nx, wK_rt, wK_bk, wK_ct, wTg_some, wRt_rt, wRt_nx, wNx_nx, wNx_ct, BK.f, CK.f, FK.f, MK.f, d_addI, d_subI, d_mulI, d_fdivI, d_modI, d_powI, d_addT, d_addS, d_eqI, d_neI, d_ltI, d_leI, d_gtI, d_geI, d_negI, d_int, d_absI, d_idxT, d_idxC, wIx_0, wIx_1, wIx_2, wIx_3, setTg_nm, setTg_tp, setTgs_nil, setTgs_nm, setTgs_tp, Option.bind_some, List.map_cons, List.map_nil, List.cons_append, List.nil_append, List.getElem?_cons_zero, List.getElem?_cons_succ, List.set_cons_zero, List.set_cons_succ, List.replicate_succ, List.replicate_zero, Nat.reduceSub, Nat.reduceAdd, if_true, if_false, Bool.false_eq_true, List.length_cons, List.length_nil, decide_eq_true_eq, Nat.reduceLeDiff, true_and, isTy, Bool.not_true]
  rw [w_nil, wK_nx, w_cons, w_asg]
  refine (comp_map ([headT h, lineT "begin" a, lineT "round" b, lineT "end" c].map D.str) (atNil d_line_in) ?_).mono fun v S2 hv => ?_
  · rw [w_val, w_mt1]
    simp only [w_var, w_con, w_bin, w_neg, w_not, w_and, w_or, w_ite, w_cmp, w_chain, w_isN, w_tup, w_lst, w_idx, wO_none, wO_some, w_slc, w_blt, w_nilE, w_consE, wTy_some, w_isi, wApp_ref, w_app, wStr_str, w_mt1, w_told, w_calls, wCall_some, MEs.len, d_lenC, d_lenT, wVar_some, wBl_bl, wIt_int, wK_nx, wK_rt, wK_bk, wK_ct, wTg_some, wRt_rt, wRt_nx, wNx_nx, wNx_ct, BK.f, CK.f, FK.f, MK.f, d_addI, d_subI, d_mulI, d_fdivI, d_modI, d_powI, d_addT, d_addS, d_eqI, d_neI, d_ltI, d_leI, d_gtI, d_geI, d_negI, d_int, d_absI, d_idxT, d_idxC, wIx_0, wIx_1, wIx_2, wIx_3, setTg_nm, setTg_tp, setTgs_nil, setTgs_nm, setTgs_tp, Option.bind_some, List.map_cons, List.map_nil, List.cons_append, List.nil_append, List.getElem?_cons_zero, List.getElem?_cons_succ, List.set_cons_zero, List.set_cons_succ, List.replicate_succ, List.replicate_zero, Nat.reduceSub, Nat.reduceAdd, if_true, if_false, Bool.false_eq_true, List.length_cons, List.length_nil, decide_eq_true_eq, Nat.reduceLeDiff, true_and]
    rw [d_split, hs]
    refine ⟨⟨by decide, by omega⟩, ?_⟩
    rw [d_walkR new_at]
    refine ⟨Keep.more, fun S2 k2 p hp => ?_, rfl, by simp, fun d S2 hd k2 => ⟨_, rfl, ?_⟩⟩
    · rw [List.mem_singleton.mp hp]
      rw [k2.at_ _ (by simp)]
      exact new_at
    · simp only [w_var, w_con, w_bin, w_neg, w_not, w_and, w_or, w_ite, w_cmp, w_chain, w_isN, w_tup, w_lst, w_idx, wO_none, wO_some, w_slc, w_blt, w_nilE, w_consE, wTy_some, w_isi, wApp_ref, w_app, wStr_str, w_mt1, w_told, w_calls, wCall_some, MEs.len, d_lenC, d_lenT, wVar_some, wBl_bl, wIt_int, wK_nx, wK_rt, wK_bk, wK_ct, wTg_some, wRt_rt, wRt_nx, wNx_nx, wNx_ct, BK.f, CK.f, FK.f, MK.f, d_addI, d_subI, d_mulI, d_fdivI, d_modI, d_powI, d_addT, d_addS, d_eqI, d_neI, d_ltI, d_leI, d_gtI, d_geI, d_negI, d_int, d_absI, d_idxT, d_idxC, wIx_0, wIx_1, wIx_2, wIx_3, setTg_nm, setTg_tp, setTgs_nil, setTgs_nm, setTgs_tp, Option.bind_some, List.map_cons, List.map_nil, List.cons_append, List.nil_append, List.getElem?_cons_zero, List.getElem?_cons_succ, List.set_cons_zero, List.set_cons_succ, List.replicate_succ, List.replicate_zero, Nat.reduceSub, Nat.reduceAdd, if_true, if_false, Bool.false_eq_true, List.length_cons, List.length_nil, decide_eq_true_eq, Nat.reduceLeDiff, true_and, wipeD, q_read_so_line_in]
      simp only [List.map_cons, List.map_nil, List.mem_cons, List.not_mem_nil, or_false] at hd
      rcases hd with rfl | rfl | rfl | rfl
      · rw [n0]; exact R0 _
      · rw [n1]; exact R1 _
      · rw [n2]; exact R2 _
      · rw [n3]; exact R3 _
  obtain ⟨m, rfl, _, hm, k⟩ := hv
  simp only [List.map_cons, List.map_nil, n0, n1, n2, n3] at hm
  have ni := none_in hm z1 z2 z3 z4
  have cm : ∀ (g : D → D) (e : ME) (σ : DV.Env) (S3 : Sto), (∃ w t x3 x4 x5, σ = [w, some (.ref m), t, x3, x4, x5]) → Keep S2 S3 → (∀ d ∈ [D.tup [.str "jugglers", .int h], .tup [.str "begin", .tup a], .tup [.str "round", .tup b], .tup [.str "end", .tup c]], ∃ w y, d = .tup [w, y] ∧ ∀ σ S, evE Φ_read_so e (σ ++ [some w, some y]) S = .ok (g d) S ∨ σ.length ≠ 4) →
      wpR (evE Φ_read_so (.comp (.val (.var 1)) (.tp [.nm 4, .nm 5]) [4, 5] .none e) σ S3) (fun v S' => ∃ m', v = .ref m' ∧ S3.length ≤ m' ∧ S'[m']? = some (.lst ([D.tup [.str "jugglers", .int h], .tup [.str "begin", .tup a], .tup [.str "round", .tup b], .tup [.str "end", .tup c]].map g)) ∧ Keep S3 S') noX := by
    intro g e σ S3 hσ k3 hd
    obtain ⟨w, t, x3, x4, x5, rfl⟩ := hσ
    have g3 := (k3.at_ _ (List.getElem?_eq_some_iff.mp hm).1).trans hm
    refine comp_map _ g ?_
    rw [w_val]
    simp only [w_var, w_con, w_bin, w_neg, w_not, w_and, w_or, w_ite, w_cmp, w_chain, w_isN, w_tup, w_lst, w_idx, wO_none, wO_some, w_slc, w_blt, w_nilE, w_consE, wTy_some, w_isi, wApp_ref, w_app, wStr_str, w_mt1, w_told, w_calls, wCall_some, MEs.len, d_lenC, d_lenT, wVar_some, wBl_bl, wIt_int, wK_nx, wK_rt, wK_bk, wK_ct, wTg_some, wRt_rt, wRt_nx, wNx_nx, wNx_ct, BK.f, CK.f, FK.f, MK.f, d_addI, d_subI, d_mulI, d_fdivI, d_modI, d_powI, d_addT, d_addS, d_eqI, d_neI, d_ltI, d_leI, d_gtI, d_geI, d_negI, d_int, d_absI, d_idxT, d_idxC, wIx_0, wIx_1, wIx_2, wIx_3, setTg_nm, setTg_tp, setTgs_nil, setTgs_nm, setTgs_tp, Option.bind_some, List.map_cons, List.map_nil, List.cons_append, List.nil_append, List.getElem?_cons_zero, List.getElem?_cons_succ, List.set_cons_zero, List.set_cons_succ, List.replicate_succ, List.replicate_zero, Nat.reduceSub, Nat.reduceAdd, if_true, if_false, Bool.false_eq_true, List.length_cons, List.length_nil, decide_eq_true_eq, Nat.reduceLeDiff, true_and]
    rw [d_walkR g3]
    refine ⟨Keep.refl _, fun S4 k4 p hp => ?_, rfl, by simp, fun d S4 hdm k4 => ?_⟩
    · rw [List.mem_singleton.mp hp]
      exact (k4.at_ _ (List.getElem?_eq_some_iff.mp g3).1).trans g3
    · obtain ⟨w', y', rfl, ev⟩ := hd d hdm
      refine ⟨[w, some (.ref m), t, x3, some w', some y'], rfl, ?_⟩
      rcases ev [w, some (.ref m), t, x3] S4 with ev | ev
      · rw [show ([w, some (.ref m), t, x3, some w', some y'] : DV.Env) = [w, some (.ref m), t, x3] ++ [some w', some y'] from rfl, ev]
        exact .ok ⟨rfl, Keep.refl _⟩
      · exact absurd rfl ev
  have mem4 : ∀ d ∈ [D.tup [.str "jugglers", .int h], .tup [.str "begin", .tup a], .tup [.str "round", .tup b], .tup [.str "end", .tup c]], ∃ w y, d = .tup [w, y] := by
    intro d hd
    simp only [List.mem_cons, List.not_mem_nil, or_false] at hd
    rcases hd with rfl | rfl | rfl | rfl <;> exact ⟨_, _, rfl⟩
  simp only [w_var, w_con, w_bin, w_neg, w_not, w_and, w_or, w_ite, w_cmp, w_chain, w_isN, w_tup, w_lst, w_idx, wO_none, wO_some, w_slc, w_blt, w_nilE, w_consE, wTy_some, w_isi, wApp_ref, w_app, wStr_str, w_mt1, w_told, w_calls, wCall_some, MEs.len, d_lenC, d_lenT, wVar_some, wBl_bl, wIt_int, wK_nx, wK_rt, wK_bk, wK_ct, wTg_some, wRt_rt, wRt_nx, wNx_nx, wNx_ct, BK.f, CK.f, FK.f, MK.f, d_addI, d_subI, d_mulI, d_fdivI, d_modI, d_powI, d_addT, d_addS, d_eqI, d_neI, d_ltI, d_leI, d_gtI, d_geI, d_negI, d_int, d_absI, d_idxT, d_idxC, wIx_0, wIx_1, wIx_2, wIx_3, setTg_nm, setTg_tp, setTgs_nil, setTgs_nm, setTgs_tp, Option.bind_some, List.map_cons, List.map_nil, List.cons_append, List.nil_append, List.getElem?_cons_zero, List.getElem?_cons_succ, List.set_cons_zero, List.set_cons_succ, List.replicate_succ, List.replicate_zero, Nat.reduceSub, Nat.reduceAdd, if_true, if_false, Bool.false_eq_true, List.length_cons, List.length_nil, decide_eq_true_eq, Nat.reduceLeDiff, true_and]
  rw [w_cons, w_if]
  simp only [w_var, w_con, w_bin, w_neg, w_not, w_and, w_or, w_ite, w_cmp, w_chain, w_isN, w_tup, w_lst, w_idx, wO_none, wO_some, w_slc, w_blt, w_nilE, w_consE, wTy_some, w_isi, wApp_ref, w_app, wStr_str, w_mt1, w_told, w_calls, wCall_some, MEs.len, d_lenC, d_lenT, wVar_some, wBl_bl, wIt_int, wK_nx, wK_rt, wK_bk, wK_ct, wTg_some, wRt_rt, wRt_nx, wNx_nx, wNx_ct, BK.f, CK.f, FK.f, MK.f, d_addI, d_subI, d_mulI, d_fdivI, d_modI, d_powI, d_addT, d_addS, d_eqI, d_neI, d_ltI, d_leI, d_gtI, d_geI, d_negI, d_int, d_absI, d_idxT, d_idxC, wIx_0, wIx_1, wIx_2, wIx_3, setTg_nm, setTg_tp, setTgs_nil, setTgs_nm, setTgs_tp, Option.bind_some, List.map_cons, List.map_nil, List.cons_append, List.nil_append, List.getElem?_cons_zero, List.getElem?_cons_succ, List.set_cons_zero, List.set_cons_succ, List.replicate_succ, List.replicate_zero, Nat.reduceSub, Nat.reduceAdd, if_true, if_false, Bool.false_eq_true, List.length_cons, List.length_nil, decide_eq_true_eq, Nat.reduceLeDiff, true_and, ni, wpR_ok]
  rw [w_nil, wK_nx, w_cons, w_asg, w_blt, w_consE]
  refine (cm sndD (.var 5) _ _ ⟨_, _, _, _, _, rfl⟩ (Keep.refl _) fun d hd => ?_).mono fun v S3 hv => ?_
  · obtain ⟨w, y, rfl⟩ := mem4 d hd
    refine ⟨w, y, rfl, fun σ S => ?_⟩
    match σ with
    | [a, b, c, d] => exact .inl rfl
    | [] => exact .inr (by simp)
    | [_] => exact .inr (by simp)
    | [_, _] => exact .inr (by simp)
    | [_, _, _] => exact .inr (by simp)
    | _ :: _ :: _ :: _ :: _ :: _ => exact .inr (by simp)
  obtain ⟨m2, rfl, _, hm2, k2⟩ := hv
  simp only [List.map_cons, List.map_nil, sndD] at hm2
  simp only [w_nilE, FK.f, d_tupR hm2]
  simp only [w_var, w_con, w_bin, w_neg, w_not, w_and, w_or, w_ite, w_cmp, w_chain, w_isN, w_tup, w_lst, w_idx, wO_none, wO_some, w_slc, w_blt, w_nilE, w_consE, wTy_some, w_isi, wApp_ref, w_app, wStr_str, w_mt1, w_told, w_calls, wCall_some, MEs.len, d_lenC, d_lenT, wVar_some, wBl_bl, wIt_int, wK_nx, wK_rt, wK_bk, wK_ct, wTg_some, wRt_rt, wRt_nx, wNx_nx, wNx_ct, BK.f, CK.f, FK.f, MK.f, d_addI, d_subI, d_mulI, d_fdivI, d_modI, d_powI, d_addT, d_addS, d_eqI, d_neI, d_ltI, d_leI, d_gtI, d_geI, d_negI, d_int, d_absI, d_idxT, d_idxC, wIx_0, wIx_1, wIx_2, wIx_3, setTg_nm, setTg_tp, setTgs_nil, setTgs_nm, setTgs_tp, Option.bind_some, List.map_cons, List.map_nil, List.cons_append, List.nil_append, List.getElem?_cons_zero, List.getElem?_cons_succ, List.set_cons_zero, List.set_cons_succ, List.replicate_succ, List.replicate_zero, Nat.reduceSub, Nat.reduceAdd, if_true, if_false, Bool.false_eq_true, List.length_cons, List.length_nil, decide_eq_true_eq, Nat.reduceLeDiff, true_and]
  rw [w_cons, w_if]
  simp only [w_var, w_con, w_bin, w_neg, w_not, w_and, w_or, w_ite, w_cmp, w_chain, w_isN, w_tup, w_lst, w_idx, wO_none, wO_some, w_slc, w_blt, w_nilE, w_consE, wTy_some, w_isi, wApp_ref, w_app, wStr_str, w_mt1, w_told, w_calls, wCall_some, MEs.len, d_lenC, d_lenT, wVar_some, wBl_bl, wIt_int, wK_nx, wK_rt, wK_bk, wK_ct, wTg_some, wRt_rt, wRt_nx, wNx_nx, wNx_ct, BK.f, CK.f, FK.f, MK.f, d_addI, d_subI, d_mulI, d_fdivI, d_modI, d_powI, d_addT, d_addS, d_eqI, d_neI, d_ltI, d_leI, d_gtI, d_geI, d_negI, d_int, d_absI, d_idxT, d_idxC, wIx_0, wIx_1, wIx_2, wIx_3, setTg_nm, setTg_tp, setTgs_nil, setTgs_nm, setTgs_tp, Option.bind_some, List.map_cons, List.map_nil, List.cons_append, List.nil_append, List.getElem?_cons_zero, List.getElem?_cons_succ, List.set_cons_zero, List.set_cons_succ, List.replicate_succ, List.replicate_zero, Nat.reduceSub, Nat.reduceAdd, if_true, if_false, Bool.false_eq_true, List.length_cons, List.length_nil, decide_eq_true_eq, Nat.reduceLeDiff, true_and]
  refine (cm fstD (.var 4) _ _ ⟨_, _, _, _, _, rfl⟩ k2 fun d hd => ?_).mono fun v S4 hv => ?_
  · obtain ⟨w, y, rfl⟩ := mem4 d hd
    refine ⟨w, y, rfl, fun σ S => ?_⟩
    match σ with
    | [a, b, c, d] => exact .inl rfl
    | [] => exact .inr (by simp)
    | [_] => exact .inr (by simp)
    | [_, _] => exact .inr (by simp)
    | [_, _, _] => exact .inr (by simp)
    | _ :: _ :: _ :: _ :: _ :: _ => exact .inr (by simp)
  obtain ⟨m3, rfl, _, hm3, k3⟩ := hv
  simp only [List.map_cons, List.map_nil, fstD] at hm3
  have d_listT : ∀ (xs : List D) (S : Sto) (Q : D → Sto → Prop) (X : Str → Option (Str × D) → Sto → Prop), wpR (listD [.tup xs] S) Q X = Q (.ref S.length) (S ++ [.lst xs]) := fun xs S Q X => by
    simp only [listD, seqOf, wpR_ok]
  rw [d_listT]
  have lt3 := (List.getElem?_eq_some_iff.mp hm3).1
  rw [words_same ((List.getElem?_append_left lt3).trans hm3) new_at, wpR_ok]
  have k4 := k3.trans (Keep.more (S := S4) (o := .lst [.str "jugglers", .str "begin", .str "round", .str "end"]))
  simp only [w_var, w_con, w_bin, w_neg, w_not, w_and, w_or, w_ite, w_cmp, w_chain, w_isN, w_tup, w_lst, w_idx, wO_none, wO_some, w_slc, w_blt, w_nilE, w_consE, wTy_some, w_isi, wApp_ref, w_app, wStr_str, w_mt1, w_told, w_calls, wCall_some, MEs.len, d_lenC, d_lenT, wVar_some, wBl_bl, wIt_int, wK_nx, wK_rt, wK_bk, wK_ct, wTg_some, wRt_rt, wRt_nx, wNx_nx, wNx_ct, BK.f, CK.f, FK.f, MK.f, d_addI, d_subI, d_mulI, d_fdivI, d_modI, d_powI, d_addT, d_addS, d_eqI, d_neI, d_ltI, d_leI, d_gtI, d_geI, d_negI, d_int, d_absI, d_idxT, d_idxC, wIx_0, wIx_1, wIx_2, wIx_3, setTg_nm, setTg_tp, setTgs_nil, setTgs_nm, setTgs_tp, Option.bind_some, List.map_cons, List.map_nil, List.cons_append, List.nil_append, List.getElem?_cons_zero, List.getElem?_cons_succ, List.set_cons_zero, List.set_cons_succ, List.replicate_succ, List.replicate_zero, Nat.reduceSub, Nat.reduceAdd, if_true, if_false, Bool.false_eq_true, List.length_cons, List.length_nil, decide_eq_true_eq, Nat.reduceLeDiff, true_and, q_read_so_is_plan]
  refine (is_plan_ok p).mono fun v S5 hv => ?_
  obtain ⟨rfl, k5⟩ := hv
  simp only [w_var, w_con, w_bin, w_neg, w_not, w_and, w_or, w_ite, w_cmp, w_chain, w_isN, w_tup, w_lst, w_idx, wO_none, wO_some, w_slc, w_blt, w_nilE, w_consE, wTy_some, w_isi, wApp_ref, w_app, wStr_str, w_mt1, w_told, w_calls, wCall_some, MEs.len, d_lenC, d_lenT, w_nil, w_cons, w_asg, w_sub, w_par, w_expr, w_ret, w_if, w_raise, w_pass, w_brk, w_cont, wVar_some, wBl_bl, wIt_int, wK_nx, wK_rt, wK_bk, wK_ct, wTg_some, wRt_rt, wRt_nx, wNx_nx, wNx_ct, BK.f, CK.f, FK.f, MK.f, d_addI, d_subI, d_mulI, d_fdivI, d_modI, d_powI, d_addT, d_addS, d_eqI, d_neI, d_ltI, d_leI, d_gtI, d_geI, d_negI, d_int, d_absI, d_idxT, d_idxC, wIx_0, wIx_1, wIx_2, wIx_3, setTg_nm, setTg_tp, setTgs_nil, setTgs_nm, setTgs_tp, Option.bind_some, List.map_cons, List.map_nil, List.cons_append, List.nil_append, List.getElem?_cons_zero, List.getElem?_cons_succ, List.set_cons_zero, List.set_cons_succ, List.replicate_succ, List.replicate_zero, Nat.reduceSub, Nat.reduceAdd, if_true, if_false, Bool.false_eq_true, List.length_cons, List.length_nil, decide_eq_true_eq, Nat.reduceLeDiff, true_and, Bool.not_true]
  exact ((k.trans k2).trans k4).trans k5
theorem read_plan_ {h : Int} {a b c : List D} {S : Sto} (p : PlanD (.tup [.int h, .tup a, .tup b, .tup c])) : wpR (d_read_plan [.str (textT h a b c)] S) (fun v S' => v = .tup [.int h, .tup a, .tup b, .tup c] ∧ Keep S S') noX := by
  unfold d_read_plan
  refine den_wp rfl ?_
  unfold m_read_plan
  rw [w_cons, w_ret]
  simp only [w_var, w_con, w_bin, w_neg, w_not, w_and, w_or, w_ite, w_cmp, w_chain, w_isN, w_tup, w_lst, w_idx, wO_none, wO_some, w_slc, w_blt, w_nilE, w_consE, wTy_some, w_isi, wApp_ref, w_app, wStr_str, w_mt1, w_told, w_calls, wCall_some, MEs.len, d_lenC, d_lenT, wVar_some, wBl_bl, wIt_int, wK_nx, wK_rt, wK_bk, wK_ct, wTg_some, wRt_rt, wRt_nx, wNx_nx, wNx_ct, BK.f, CK.f, FK.f, MK.f, d_addI, d_subI, d_mulI, d_fdivI, d_modI, d_powI, d_addT, d_addS, d_eqI, d_neI, d_ltI, d_leI, d_gtI, d_geI, d_negI, d_int, d_absI, d_idxT, d_idxC, wIx_0, wIx_1, wIx_2, wIx_3, setTg_nm, setTg_tp, setTgs_nil, setTgs_nm, setTgs_tp, Option.bind_some, List.map_cons, List.map_nil, List.cons_append, List.nil_append, List.getElem?_cons_zero, List.getElem?_cons_succ, List.set_cons_zero, List.set_cons_succ, List.replicate_succ, List.replicate_zero, Nat.reduceSub, Nat.reduceAdd, if_true, if_false, Bool.false_eq_true, List.length_cons, List.length_nil, decide_eq_true_eq, Nat.reduceLeDiff, true_and, q_read_plan_read_so]
  refine (read_so_ p).mono fun v S1 hv => ?_
  exact hv
end T

end
section
set_option Elab.async false
set_option linter.all false
set_option maxRecDepth 100000
set_option maxHeartbeats 4000000
set_option autoImplicit false
/-! Plain laws, part N: _law_is_plan of plans. -/
namespace T
open PySem DV
theorem law_whole_ {i l u : Int} {S : Sto} : d__law_is_whole [.int i, .int l, .int u] S = .ok (.bl (decide (l ≤ i) && decide (i ≤ u))) S := by
  unfold d__law_is_whole
  have z : wpR (denOf Φ__law_is_whole 3 3 m__law_is_whole [.int i, .int l, .int u] S) (fun v S' => v = .bl (decide (l ≤ i) && decide (i ≤ u)) ∧ S' = S) noX := by
    refine den_wp rfl ?_
    unfold m__law_is_whole
    rw [w_cons, w_ret]
    simp only [w_var, w_con, w_bin, w_neg, w_not, w_and, w_or, w_ite, w_cmp, w_chain, w_isN, w_tup, w_lst, w_idx, wO_none, wO_some, w_slc, w_blt, w_nilE, w_consE, wTy_some, w_isi, wApp_ref, w_app, wStr_str, w_mt1, w_told, w_calls, wCall_some, MEs.len, d_lenC, d_lenT, wVar_some, wBl_bl, wIt_int, wK_nx, wK_rt, wK_bk, wK_ct, wTg_some, wRt_rt, wRt_nx, wNx_nx, wNx_ct, BK.f, CK.f, FK.f, MK.f, d_addI, d_subI, d_mulI, d_fdivI, d_modI, d_powI, d_addT, d_addS, d_eqI, d_neI, d_ltI, d_leI, d_gtI, d_geI, d_negI, d_int, d_absI, d_idxT, d_idxC, wIx_0, wIx_1, wIx_2, wIx_3, setTg_nm, setTg_tp, setTgs_nil, setTgs_nm, setTgs_tp, Option.bind_some, List.map_cons, List.map_nil, List.cons_append, List.nil_append, List.getElem?_cons_zero, List.getElem?_cons_succ, List.set_cons_zero, List.set_cons_succ, List.replicate_succ, List.replicate_zero, Nat.reduceSub, Nat.reduceAdd, if_true, if_false, Bool.false_eq_true, List.length_cons, List.length_nil, decide_eq_true_eq, Nat.reduceLeDiff, true_and, isTy, Bool.not_false]
    split <;> rename_i z <;> simp [z]
  obtain ⟨v, S', e, rfl, rfl⟩ := z.ex
  exact e
def row_body : List MS := [.ifS (.isN true (.var 2)) [.ifS (.or (.not (.isi .tup (.var 2))) (.or (.cmp .ne (.blt .len (.cons (.var 2) .nil)) (.con (.int 2))) (.not (.isi .bool (.idx (.var 2) (.con (.int 1))))))) [.ret (.con (.bl false))] [],
  .ifS (.or (.not (.call "_law_is_whole" (.cons (.idx (.var 2) (.con (.int 0))) (.cons (.neg (.con (.int 3))) (.cons (.con (.int 6)) .nil))))) (.and (.cmp .eq (.var 0) (.con (.int 1))) (.idx (.var 2) (.con (.int 1))))) [.ret (.con (.bl false))] []] []]
theorem row_step {h : Int} {c : D} {S : Sto} {t : Option D} (hh : h = 1 ∨ h = 2) (hc : Cell h c) : wpR (evSs Φ__law_is_row row_body [some (.int h), t, some c] S) (fun fl S' => fl = .nx [some (.int h), t, some c] ∧ Keep S S') noX := by
  have lh : h.natAbs.log2 < 1920 := by
    have := log2_lt (i := h) (k := 3) (by omega)
    omega
  unfold row_body
  rw [w_cons, w_if]
  rcases hc with rfl | ⟨i, b, rfl, h1, h2, h3⟩
  · simp only [w_var, w_con, w_bin, w_neg, w_not, w_and, w_or, w_ite, w_cmp, w_chain, w_isN, w_tup, w_lst, w_idx, wO_none, wO_some, w_slc, w_blt, w_nilE, w_consE, wTy_some, w_isi, wApp_ref, w_app, wStr_str, w_mt1, w_told, w_calls, wCall_some, MEs.len, d_lenC, d_lenT, wVar_some, wBl_bl, wIt_int, wK_nx, wK_rt, wK_bk, wK_ct, wTg_some, wRt_rt, wRt_nx, wNx_nx, wNx_ct, BK.f, CK.f, FK.f, MK.f, d_addI, d_subI, d_mulI, d_fdivI, d_modI, d_powI, d_addT, d_addS, d_eqI, d_neI, d_ltI, d_leI, d_gtI, d_geI, d_negI, d_int, d_absI, d_idxT, d_idxC, wIx_0, wIx_1, wIx_2, wIx_3, setTg_nm, setTg_tp, setTgs_nil, setTgs_nm, setTgs_tp, Option.bind_some, List.map_cons, List.map_nil, List.cons_append, List.nil_append, List.getElem?_cons_zero, List.getElem?_cons_succ, List.set_cons_zero, List.set_cons_succ, List.replicate_succ, List.replicate_zero, Nat.reduceSub, Nat.reduceAdd, if_true, if_false, Bool.false_eq_true, List.length_cons, List.length_nil, decide_eq_true_eq, Nat.reduceLeDiff, true_and]
    rw [w_nil, wK_nx, w_nil]
    exact ⟨rfl, Keep.refl _⟩
  · simp only [w_var, w_con, w_bin, w_neg, w_not, w_and, w_or, w_ite, w_cmp, w_chain, w_isN, w_tup, w_lst, w_idx, wO_none, wO_some, w_slc, w_blt, w_nilE, w_consE, wTy_some, w_isi, wApp_ref, w_app, wStr_str, w_mt1, w_told, w_calls, wCall_some, MEs.len, d_lenC, d_lenT, wVar_some, wBl_bl, wIt_int, wK_nx, wK_rt, wK_bk, wK_ct, wTg_some, wRt_rt, wRt_nx, wNx_nx, wNx_ct, BK.f, CK.f, FK.f, MK.f, d_addI, d_subI, d_mulI, d_fdivI, d_modI, d_powI, d_addT, d_addS, d_eqI, d_neI, d_ltI, d_leI, d_gtI, d_geI, d_negI, d_int, d_absI, d_idxT, d_idxC, wIx_0, wIx_1, wIx_2, wIx_3, setTg_nm, setTg_tp, setTgs_nil, setTgs_nm, setTgs_tp, Option.bind_some, List.map_cons, List.map_nil, List.cons_append, List.nil_append, List.getElem?_cons_zero, List.getElem?_cons_succ, List.set_cons_zero, List.set_cons_succ, List.replicate_succ, List.replicate_zero, Nat.reduceSub, Nat.reduceAdd, if_true, if_false, Bool.false_eq_true, List.length_cons, List.length_nil, decide_eq_true_eq, Nat.reduceLeDiff, true_and, isTy, Bool.not_true, q__law_is_row__law_is_whole, law_whole_, wpR_ok]
    refine iteI (fun _ => ?_) fun z => absurd rfl z
    rw [w_cons, w_if]
    simp only [w_var, w_con, w_bin, w_neg, w_not, w_and, w_or, w_ite, w_cmp, w_chain, w_isN, w_tup, w_lst, w_idx, wO_none, wO_some, w_slc, w_blt, w_nilE, w_consE, wTy_some, w_isi, wApp_ref, w_app, wStr_str, w_mt1, w_told, w_calls, wCall_some, MEs.len, d_lenC, d_lenT, wVar_some, wBl_bl, wIt_int, wK_nx, wK_rt, wK_bk, wK_ct, wTg_some, wRt_rt, wRt_nx, wNx_nx, wNx_ct, BK.f, CK.f, FK.f, MK.f, d_addI, d_subI, d_mulI, d_fdivI, d_modI, d_powI, d_addT, d_addS, d_eqI, d_neI, d_ltI, d_leI, d_gtI, d_geI, d_negI, d_int, d_absI, d_idxT, d_idxC, wIx_0, wIx_1, wIx_2, wIx_3, setTg_nm, setTg_tp, setTgs_nil, setTgs_nm, setTgs_tp, Option.bind_some, List.map_cons, List.map_nil, List.cons_append, List.nil_append, List.getElem?_cons_zero, List.getElem?_cons_succ, List.set_cons_zero, List.set_cons_succ, List.replicate_succ, List.replicate_zero, Nat.reduceSub, Nat.reduceAdd, if_true, if_false, Bool.false_eq_true, List.length_cons, List.length_nil, decide_eq_true_eq, Nat.reduceLeDiff, true_and, isTy, Bool.not_true]
    rw [if_neg (by decide), w_nil, wK_nx, w_cons, w_if]
    simp only [w_var, w_con, w_bin, w_neg, w_not, w_and, w_or, w_ite, w_cmp, w_chain, w_isN, w_tup, w_lst, w_idx, wO_none, wO_some, w_slc, w_blt, w_nilE, w_consE, wTy_some, w_isi, wApp_ref, w_app, wStr_str, w_mt1, w_told, w_calls, wCall_some, MEs.len, d_lenC, d_lenT, wVar_some, wBl_bl, wIt_int, wK_nx, wK_rt, wK_bk, wK_ct, wTg_some, wRt_rt, wRt_nx, wNx_nx, wNx_ct, BK.f, CK.f, FK.f, MK.f, d_addI, d_subI, d_mulI, d_fdivI, d_modI, d_powI, d_addT, d_addS, d_eqI, d_neI, d_ltI, d_leI, d_gtI, d_geI, d_negI, d_int, d_absI, d_idxT, d_idxC, wIx_0, wIx_1, wIx_2, wIx_3, setTg_nm, setTg_tp, setTgs_nil, setTgs_nm, setTgs_tp, Option.bind_some, List.map_cons, List.map_nil, List.cons_append, List.nil_append, List.getElem?_cons_zero, List.getElem?_cons_succ, List.set_cons_zero, List.set_cons_succ, List.replicate_succ, List.replicate_zero, Nat.reduceSub, Nat.reduceAdd, if_true, if_false, Bool.false_eq_true, List.length_cons, List.length_nil, decide_eq_true_eq, Nat.reduceLeDiff, true_and, isTy, Bool.not_true, q__law_is_row__law_is_whole, law_whole_, wpR_ok, wIx_0, wIx_1]
    refine iteI (fun z => absurd z (by simp [h1, h2])) fun _ => ?_
    refine iteI (fun z => ?_) fun _ => ?_
    · rw [h3 z]
      refine iteI (fun z => by cases z) fun _ => ?_
      rw [w_nil, wK_nx, w_nil, wK_nx, w_nil]
      exact ⟨rfl, Keep.refl _⟩
    · rw [w_nil, wK_nx, w_nil, wK_nx, w_nil]
      exact ⟨rfl, Keep.refl _⟩
theorem forD_row {h : Int} {t : Option D} {S0 : Sto} (hh : h = 1 ∨ h = 2) : ∀ {cs : List D} {x : Option D} {S : Sto}, (∀ c ∈ cs, Cell h c) → Keep S0 S → wpR (forD [] (.nm 2) (evSs Φ__law_is_row row_body) cs [some (.int h), t, x] S) (fun fl S' => ∃ y, fl = .nx [some (.int h), t, y] ∧ Keep S0 S') noX
  | [], x, S, _, k => forD_end locked_nil ⟨x, rfl, k⟩
  | c :: cs, x, S, hc, k => by
    refine forD_stepR locked_nil rfl ?_
    refine (row_step hh (hc c List.mem_cons_self)).mono fun fl S1 hf => ?_
    obtain ⟨rfl, k1⟩ := hf
    exact forD_row hh (fun y hy => hc y (List.mem_cons_of_mem _ hy)) (k.trans k1)
theorem law_row_ok {h : Int} {b : D} {S : Sto} (hh : h = 1 ∨ h = 2) (hb : Beat h b) : wpR (d__law_is_row [.int h, b] S) (fun v S' => v = .bl true ∧ Keep S S') noX := by
  obtain ⟨cs, rfl, hl, hc⟩ := hb
  unfold d__law_is_row
  refine den_wp rfl ?_
  unfold m__law_is_row
  rw [w_cons, w_if]
  simp only [w_var, w_con, w_bin, w_neg, w_not, w_and, w_or, w_ite, w_cmp, w_chain, w_isN, w_tup, w_lst, w_idx, wO_none, wO_some, w_slc, w_blt, w_nilE, w_consE, wTy_some, w_isi, wApp_ref, w_app, wStr_str, w_mt1, w_told, w_calls, wCall_some, MEs.len, d_lenC, d_lenT, wVar_some, wBl_bl, wIt_int, wK_nx, wK_rt, wK_bk, wK_ct, wTg_some, wRt_rt, wRt_nx, wNx_nx, wNx_ct, BK.f, CK.f, FK.f, MK.f, d_addI, d_subI, d_mulI, d_fdivI, d_modI, d_powI, d_addT, d_addS, d_eqI, d_neI, d_ltI, d_leI, d_gtI, d_geI, d_negI, d_int, d_absI, d_idxT, d_idxC, wIx_0, wIx_1, wIx_2, wIx_3, setTg_nm, setTg_tp, setTgs_nil, setTgs_nm, setTgs_tp, Option.bind_some, List.map_cons, List.map_nil, List.cons_append, List.nil_append, List.getElem?_cons_zero, List.getElem?_cons_succ, List.set_cons_zero, List.set_cons_succ, List.replicate_succ, List.replicate_zero, Nat.reduceSub, Nat.reduceAdd, if_true, if_false, Bool.false_eq_true, List.length_cons, List.length_nil, decide_eq_true_eq, Nat.reduceLeDiff, true_and, isTy, Bool.not_true]
  rw [if_neg (by omega)]
  rw [w_nil, wK_nx, w_cons, w_for, w_val]
  simp only [w_var, w_con, w_bin, w_neg, w_not, w_and, w_or, w_ite, w_cmp, w_chain, w_isN, w_tup, w_lst, w_idx, wO_none, wO_some, w_slc, w_blt, w_nilE, w_consE, wTy_some, w_isi, wApp_ref, w_app, wStr_str, w_mt1, w_told, w_calls, wCall_some, MEs.len, d_lenC, d_lenT, wVar_some, wBl_bl, wIt_int, wK_nx, wK_rt, wK_bk, wK_ct, wTg_some, wRt_rt, wRt_nx, wNx_nx, wNx_ct, BK.f, CK.f, FK.f, MK.f, d_addI, d_subI, d_mulI, d_fdivI, d_modI, d_powI, d_addT, d_addS, d_eqI, d_neI, d_ltI, d_leI, d_gtI, d_geI, d_negI, d_int, d_absI, d_idxT, d_idxC, wIx_0, wIx_1, wIx_2, wIx_3, setTg_nm, setTg_tp, setTgs_nil, setTgs_nm, setTgs_tp, Option.bind_some, List.map_cons, List.map_nil, List.cons_append, List.nil_append, List.getElem?_cons_zero, List.getElem?_cons_succ, List.set_cons_zero, List.set_cons_succ, List.replicate_succ, List.replicate_zero, Nat.reduceSub, Nat.reduceAdd, if_true, if_false, Bool.false_eq_true, List.length_cons, List.length_nil, decide_eq_true_eq, Nat.reduceLeDiff, true_and]
  rw [d_walkT]
  refine (forD_row hh hc (Keep.refl _)).mono fun fl S1 hf => ?_
  obtain ⟨x, rfl, k⟩ := hf
  rw [wK_nx, w_cons, w_ret]
  simp only [w_var, w_con, w_bin, w_neg, w_not, w_and, w_or, w_ite, w_cmp, w_chain, w_isN, w_tup, w_lst, w_idx, wO_none, wO_some, w_slc, w_blt, w_nilE, w_consE, wTy_some, w_isi, wApp_ref, w_app, wStr_str, w_mt1, w_told, w_calls, wCall_some, MEs.len, d_lenC, d_lenT, wVar_some, wBl_bl, wIt_int, wK_nx, wK_rt, wK_bk, wK_ct, wTg_some, wRt_rt, wRt_nx, wNx_nx, wNx_ct, BK.f, CK.f, FK.f, MK.f, d_addI, d_subI, d_mulI, d_fdivI, d_modI, d_powI, d_addT, d_addS, d_eqI, d_neI, d_ltI, d_leI, d_gtI, d_geI, d_negI, d_int, d_absI, d_idxT, d_idxC, wIx_0, wIx_1, wIx_2, wIx_3, setTg_nm, setTg_tp, setTgs_nil, setTgs_nm, setTgs_tp, Option.bind_some, List.map_cons, List.map_nil, List.cons_append, List.nil_append, List.getElem?_cons_zero, List.getElem?_cons_succ, List.set_cons_zero, List.set_cons_succ, List.replicate_succ, List.replicate_zero, Nat.reduceSub, Nat.reduceAdd, if_true, if_false, Bool.false_eq_true, List.length_cons, List.length_nil, decide_eq_true_eq, Nat.reduceLeDiff, true_and]
  exact k
theorem law_part_ok {h l : Int} {bs : List D} {S : Sto} (hh : h = 1 ∨ h = 2) (l1 : l ≤ bs.length) (l2 : bs.length ≤ 5) (hb : ∀ b ∈ bs, Beat h b) : wpR (d__law_is_part [.int h, .tup bs, .int l] S) (fun v S' => v = .bl true ∧ Keep S S') noX := by
  unfold d__law_is_part
  refine den_wp rfl ?_
  unfold m__law_is_part
  rw [w_cons, w_if]
  simp only [w_var, w_con, w_bin, w_neg, w_not, w_and, w_or, w_ite, w_cmp, w_chain, w_isN, w_tup, w_lst, w_idx, wO_none, wO_some, w_slc, w_blt, w_nilE, w_consE, wTy_some, w_isi, wApp_ref, w_app, wStr_str, w_mt1, w_told, w_calls, wCall_some, MEs.len, d_lenC, d_lenT, wVar_some, wBl_bl, wIt_int, wK_nx, wK_rt, wK_bk, wK_ct, wTg_some, wRt_rt, wRt_nx, wNx_nx, wNx_ct, BK.f, CK.f, FK.f, MK.f, d_addI, d_subI, d_mulI, d_fdivI, d_modI, d_powI, d_addT, d_addS, d_eqI, d_neI, d_ltI, d_leI, d_gtI, d_geI, d_negI, d_int, d_absI, d_idxT, d_idxC, wIx_0, wIx_1, wIx_2, wIx_3, setTg_nm, setTg_tp, setTgs_nil, setTgs_nm, setTgs_tp, Option.bind_some, List.map_cons, List.map_nil, List.cons_append, List.nil_append, List.getElem?_cons_zero, List.getElem?_cons_succ, List.set_cons_zero, List.set_cons_succ, List.replicate_succ, List.replicate_zero, Nat.reduceSub, Nat.reduceAdd, if_true, if_false, Bool.false_eq_true, List.length_cons, List.length_nil, decide_eq_true_eq, Nat.reduceLeDiff, true_and, isTy, Bool.not_true]
  rw [if_pos l1, if_neg (by simp; omega)]
  rw [w_nil, wK_nx, w_cons, w_ret]
  simp only [w_var, w_con, w_bin, w_neg, w_not, w_and, w_or, w_ite, w_cmp, w_chain, w_isN, w_tup, w_lst, w_idx, wO_none, wO_some, w_slc, w_blt, w_nilE, w_consE, wTy_some, w_isi, wApp_ref, w_app, wStr_str, w_mt1, w_told, w_calls, wCall_some, MEs.len, d_lenC, d_lenT, wVar_some, wBl_bl, wIt_int, wK_nx, wK_rt, wK_bk, wK_ct, wTg_some, wRt_rt, wRt_nx, wNx_nx, wNx_ct, BK.f, CK.f, FK.f, MK.f, d_addI, d_subI, d_mulI, d_fdivI, d_modI, d_powI, d_addT, d_addS, d_eqI, d_neI, d_ltI, d_leI, d_gtI, d_geI, d_negI, d_int, d_absI, d_idxT, d_idxC, wIx_0, wIx_1, wIx_2, wIx_3, setTg_nm, setTg_tp, setTgs_nil, setTgs_nm, setTgs_tp, Option.bind_some, List.map_cons, List.map_nil, List.cons_append, List.nil_append, List.getElem?_cons_zero, List.getElem?_cons_succ, List.set_cons_zero, List.set_cons_succ, List.replicate_succ, List.replicate_zero, Nat.reduceSub, Nat.reduceAdd, if_true, if_false, Bool.false_eq_true, List.length_cons, List.length_nil, decide_eq_true_eq, Nat.reduceLeDiff, true_and]
  refine (comp_fm bs (fun _ => false) id ?_).mono fun v S1 hv => ?_
  · rw [w_val]
    simp only [w_var, w_con, w_bin, w_neg, w_not, w_and, w_or, w_ite, w_cmp, w_chain, w_isN, w_tup, w_lst, w_idx, wO_none, wO_some, w_slc, w_blt, w_nilE, w_consE, wTy_some, w_isi, wApp_ref, w_app, wStr_str, w_mt1, w_told, w_calls, wCall_some, MEs.len, d_lenC, d_lenT, wVar_some, wBl_bl, wIt_int, wK_nx, wK_rt, wK_bk, wK_ct, wTg_some, wRt_rt, wRt_nx, wNx_nx, wNx_ct, BK.f, CK.f, FK.f, MK.f, d_addI, d_subI, d_mulI, d_fdivI, d_modI, d_powI, d_addT, d_addS, d_eqI, d_neI, d_ltI, d_leI, d_gtI, d_geI, d_negI, d_int, d_absI, d_idxT, d_idxC, wIx_0, wIx_1, wIx_2, wIx_3, setTg_nm, setTg_tp, setTgs_nil, setTgs_nm, setTgs_tp, Option.bind_some, List.map_cons, List.map_nil, List.cons_append, List.nil_append, List.getElem?_cons_zero, List.getElem?_cons_succ, List.set_cons_zero, List.set_cons_succ, List.replicate_succ, List.replicate_zero, Nat.reduceSub, Nat.reduceAdd, if_true, if_false, Bool.false_eq_true, List.length_cons, List.length_nil, decide_eq_true_eq, Nat.reduceLeDiff, true_and]
    rw [d_walkT]
    refine ⟨Keep.refl _, fun S2 k2 => locked_nil, rfl, by omega, fun d S2 hd k2 => ⟨_, rfl, ?_⟩⟩
    simp only [evC]
    have z : wpR (evE Φ__law_is_part (.not (.call "_law_is_row" (.cons (.var 0) (.cons (.var 3) .nil)))) [some (.int h), some (.tup bs), some (.int l), some d] S2) (fun v S' => v = .bl false ∧ Keep S2 S') noX := by
      simp only [w_var, w_con, w_bin, w_neg, w_not, w_and, w_or, w_ite, w_cmp, w_chain, w_isN, w_tup, w_lst, w_idx, wO_none, wO_some, w_slc, w_blt, w_nilE, w_consE, wTy_some, w_isi, wApp_ref, w_app, wStr_str, w_mt1, w_told, w_calls, wCall_some, MEs.len, d_lenC, d_lenT, wVar_some, wBl_bl, wIt_int, wK_nx, wK_rt, wK_bk, wK_ct, wTg_some, wRt_rt, wRt_nx, wNx_nx, wNx_ct, BK.f, CK.f, FK.f, MK.f, d_addI, d_subI, d_mulI, d_fdivI, d_modI, d_powI, d_addT, d_addS, d_eqI, d_neI, d_ltI, d_leI, d_gtI, d_geI, d_negI, d_int, d_absI, d_idxT, d_idxC, wIx_0, wIx_1, wIx_2, wIx_3, setTg_nm, setTg_tp, setTgs_nil, setTgs_nm, setTgs_tp, Option.bind_some, List.map_cons, List.map_nil, List.cons_append, List.nil_append, List.getElem?_cons_zero, List.getElem?_cons_succ, List.set_cons_zero, List.set_cons_succ, List.replicate_succ, List.replicate_zero, Nat.reduceSub, Nat.reduceAdd, if_true, if_false, Bool.false_eq_true, List.length_cons, List.length_nil, decide_eq_true_eq, Nat.reduceLeDiff, true_and, q__law_is_part__law_is_row]
      refine (law_row_ok hh (hb d hd)).mono fun v S3 hv => ?_
      obtain ⟨rfl, k3⟩ := hv
      simp only [w_var, w_con, w_bin, w_neg, w_not, w_and, w_or, w_ite, w_cmp, w_chain, w_isN, w_tup, w_lst, w_idx, wO_none, wO_some, w_slc, w_blt, w_nilE, w_consE, wTy_some, w_isi, wApp_ref, w_app, wStr_str, w_mt1, w_told, w_calls, wCall_some, MEs.len, d_lenC, d_lenT, wVar_some, wBl_bl, wIt_int, wK_nx, wK_rt, wK_bk, wK_ct, wTg_some, wRt_rt, wRt_nx, wNx_nx, wNx_ct, BK.f, CK.f, FK.f, MK.f, d_addI, d_subI, d_mulI, d_fdivI, d_modI, d_powI, d_addT, d_addS, d_eqI, d_neI, d_ltI, d_leI, d_gtI, d_geI, d_negI, d_int, d_absI, d_idxT, d_idxC, wIx_0, wIx_1, wIx_2, wIx_3, setTg_nm, setTg_tp, setTgs_nil, setTgs_nm, setTgs_tp, Option.bind_some, List.map_cons, List.map_nil, List.cons_append, List.nil_append, List.getElem?_cons_zero, List.getElem?_cons_succ, List.set_cons_zero, List.set_cons_succ, List.replicate_succ, List.replicate_zero, Nat.reduceSub, Nat.reduceAdd, if_true, if_false, Bool.false_eq_true, List.length_cons, List.length_nil, decide_eq_true_eq, Nat.reduceLeDiff, true_and, Bool.not_true]
      first
        | exact k3
        | exact ⟨trivial, k3⟩
    show wpR ((evE Φ__law_is_part (.not (.call "_law_is_row" (.cons (.var 0) (.cons (.var 3) .nil)))) [some (.int h), some (.tup bs), some (.int l), some d] S2).bind asB) _ _
    rw [wpR_bind]
    refine z.mono fun v S3 hv => ?_
    obtain ⟨rfl, k3⟩ := hv
    exact .ok ⟨rfl, k3, fun z => by cases z⟩
  · obtain ⟨m, rfl, _, hm, k⟩ := hv
    have e0 : (bs.filter fun _ => false).map id = [] := by simp
    rw [e0] at hm
    have lm := (List.getElem?_eq_some_iff.mp hm).1
    have e1 : toPy (S1 ++ [.lst []]) (.ref m) = some (.list []) := toPy_list ((List.getElem?_append_left lm).trans hm) fun g => rfl
    have e2 : toPy (S1 ++ [.lst []]) (.ref S1.length) = some (.list []) := toPy_list new_at fun g => rfl
    have e3 : eqD (.ref m) (.ref S1.length) (S1 ++ [.lst []]) = .ok (.bl true) (S1 ++ [.lst []]) := by
      unfold eqD
      rw [e1, e2]
      kernel_rfl
    rw [e3, wpR_ok]
    exact ⟨rfl, k.trans Keep.more⟩
theorem law_plan_ok {h : Int} {a b c : List D} {S : Sto} (p : PlanD (.tup [.int h, .tup a, .tup b, .tup c])) : wpR (d__law_is_plan [.tup [.int h, .tup a, .tup b, .tup c]] S) (fun v S' => v = .bl true ∧ Keep S S') noX := by
  obtain ⟨h', a', b', c', e, hh, la, lb, lc, pa, pb, pc⟩ := p.open_
  cases e
  have lh : h.natAbs.log2 < 1920 := by
    have := log2_lt (i := h) (k := 3) (by omega)
    omega
  unfold d__law_is_plan
  refine den_wp rfl ?_
  unfold m__law_is_plan
  rw [w_cons, w_if]
  simp only [w_var, w_con, w_bin, w_neg, w_not, w_and, w_or, w_ite, w_cmp, w_chain, w_isN, w_tup, w_lst, w_idx, wO_none, wO_some, w_slc, w_blt, w_nilE, w_consE, wTy_some, w_isi, wApp_ref, w_app, wStr_str, w_mt1, w_told, w_calls, wCall_some, MEs.len, d_lenC, d_lenT, wVar_some, wBl_bl, wIt_int, wK_nx, wK_rt, wK_bk, wK_ct, wTg_some, wRt_rt, wRt_nx, wNx_nx, wNx_ct, BK.f, CK.f, FK.f, MK.f, d_addI, d_subI, d_mulI, d_fdivI, d_modI, d_powI, d_addT, d_addS, d_eqI, d_neI, d_ltI, d_leI, d_gtI, d_geI, d_negI, d_int, d_absI, d_idxT, d_idxC, wIx_0, wIx_1, wIx_2, wIx_3, setTg_nm, setTg_tp, setTgs_nil, setTgs_nm, setTgs_tp, Option.bind_some, List.map_cons, List.map_nil, List.cons_append, List.nil_append, List.getElem?_cons_zero, List.getElem?_cons_succ, List.set_cons_zero, List.set_cons_succ, List.replicate_succ, List.replicate_zero, Nat.reduceSub, Nat.reduceAdd, if_true, if_false, Bool.false_eq_true, List.length_cons, List.length_nil, decide_eq_true_eq, Nat.reduceLeDiff, true_and, isTy, Bool.not_true, q__law_is_plan__law_is_whole, law_whole_, wpR_ok]
  rw [if_neg (by decide), if_neg (by simp; omega)]
  rw [w_nil, wK_nx, w_cons, w_if]
  simp only [w_var, w_con, w_bin, w_neg, w_not, w_and, w_or, w_ite, w_cmp, w_chain, w_isN, w_tup, w_lst, w_idx, wO_none, wO_some, w_slc, w_blt, w_nilE, w_consE, wTy_some, w_isi, wApp_ref, w_app, wStr_str, w_mt1, w_told, w_calls, wCall_some, MEs.len, d_lenC, d_lenT, wVar_some, wBl_bl, wIt_int, wK_nx, wK_rt, wK_bk, wK_ct, wTg_some, wRt_rt, wRt_nx, wNx_nx, wNx_ct, BK.f, CK.f, FK.f, MK.f, d_addI, d_subI, d_mulI, d_fdivI, d_modI, d_powI, d_addT, d_addS, d_eqI, d_neI, d_ltI, d_leI, d_gtI, d_geI, d_negI, d_int, d_absI, d_idxT, d_idxC, wIx_0, wIx_1, wIx_2, wIx_3, setTg_nm, setTg_tp, setTgs_nil, setTgs_nm, setTgs_tp, Option.bind_some, List.map_cons, List.map_nil, List.cons_append, List.nil_append, List.getElem?_cons_zero, List.getElem?_cons_succ, List.set_cons_zero, List.set_cons_succ, List.replicate_succ, List.replicate_zero, Nat.reduceSub, Nat.reduceAdd, if_true, if_false, Bool.false_eq_true, List.length_cons, List.length_nil, decide_eq_true_eq, Nat.reduceLeDiff, true_and, wIx_0, wIx_1, wIx_2, wIx_3, q__law_is_plan__law_is_part]
  refine (law_part_ok hh (by omega) lb.2 pb).mono fun v S1 hv => ?_
  obtain ⟨rfl, k1⟩ := hv
  simp only [w_var, w_con, w_bin, w_neg, w_not, w_and, w_or, w_ite, w_cmp, w_chain, w_isN, w_tup, w_lst, w_idx, wO_none, wO_some, w_slc, w_blt, w_nilE, w_consE, wTy_some, w_isi, wApp_ref, w_app, wStr_str, w_mt1, w_told, w_calls, wCall_some, MEs.len, d_lenC, d_lenT, wVar_some, wBl_bl, wIt_int, wK_nx, wK_rt, wK_bk, wK_ct, wTg_some, wRt_rt, wRt_nx, wNx_nx, wNx_ct, BK.f, CK.f, FK.f, MK.f, d_addI, d_subI, d_mulI, d_fdivI, d_modI, d_powI, d_addT, d_addS, d_eqI, d_neI, d_ltI, d_leI, d_gtI, d_geI, d_negI, d_int, d_absI, d_idxT, d_idxC, wIx_0, wIx_1, wIx_2, wIx_3, setTg_nm, setTg_tp, setTgs_nil, setTgs_nm, setTgs_tp, Option.bind_some, List.map_cons, List.map_nil, List.cons_append, List.nil_append, List.getElem?_cons_zero, List.getElem?_cons_succ, List.set_cons_zero, List.set_cons_succ, List.replicate_succ, List.replicate_zero, Nat.reduceSub, Nat.reduceAdd, if_true, if_false, Bool.false_eq_true, List.length_cons, List.length_nil, decide_eq_true_eq, Nat.reduceLeDiff, true_and, Bool.not_true]
  try rw [w_nil, wK_nx, w_cons, w_ret]
  simp only [w_var, w_con, w_bin, w_neg, w_not, w_and, w_or, w_ite, w_cmp, w_chain, w_isN, w_tup, w_lst, w_idx, wO_none, wO_some, w_slc, w_blt, w_nilE, w_consE, wTy_some, w_isi, wApp_ref, w_app, wStr_str, w_mt1, w_told, w_calls, wCall_some, MEs.len, d_lenC, d_lenT, wVar_some, wBl_bl, wIt_int, wK_nx, wK_rt, wK_bk, wK_ct, wTg_some, wRt_rt, wRt_nx, wNx_nx, wNx_ct, BK.f, CK.f, FK.f, MK.f, d_addI, d_subI, d_mulI, d_fdivI, d_modI, d_powI, d_addT, d_addS, d_eqI, d_neI, d_ltI, d_leI, d_gtI, d_geI, d_negI, d_int, d_absI, d_idxT, d_idxC, wIx_0, wIx_1, wIx_2, wIx_3, setTg_nm, setTg_tp, setTgs_nil, setTgs_nm, setTgs_tp, Option.bind_some, List.map_cons, List.map_nil, List.cons_append, List.nil_append, List.getElem?_cons_zero, List.getElem?_cons_succ, List.set_cons_zero, List.set_cons_succ, List.replicate_succ, List.replicate_zero, Nat.reduceSub, Nat.reduceAdd, if_true, if_false, Bool.false_eq_true, List.length_cons, List.length_nil, decide_eq_true_eq, Nat.reduceLeDiff, true_and, wIx_0, wIx_1, wIx_2, wIx_3, q__law_is_plan__law_is_part]
  refine (law_part_ok hh (by omega) la pa).mono fun v S2 hv => ?_
  obtain ⟨rfl, k2⟩ := hv
  simp only [w_var, w_con, w_bin, w_neg, w_not, w_and, w_or, w_ite, w_cmp, w_chain, w_isN, w_tup, w_lst, w_idx, wO_none, wO_some, w_slc, w_blt, w_nilE, w_consE, wTy_some, w_isi, wApp_ref, w_app, wStr_str, w_mt1, w_told, w_calls, wCall_some, MEs.len, d_lenC, d_lenT, wVar_some, wBl_bl, wIt_int, wK_nx, wK_rt, wK_bk, wK_ct, wTg_some, wRt_rt, wRt_nx, wNx_nx, wNx_ct, BK.f, CK.f, FK.f, MK.f, d_addI, d_subI, d_mulI, d_fdivI, d_modI, d_powI, d_addT, d_addS, d_eqI, d_neI, d_ltI, d_leI, d_gtI, d_geI, d_negI, d_int, d_absI, d_idxT, d_idxC, wIx_0, wIx_1, wIx_2, wIx_3, setTg_nm, setTg_tp, setTgs_nil, setTgs_nm, setTgs_tp, Option.bind_some, List.map_cons, List.map_nil, List.cons_append, List.nil_append, List.getElem?_cons_zero, List.getElem?_cons_succ, List.set_cons_zero, List.set_cons_succ, List.replicate_succ, List.replicate_zero, Nat.reduceSub, Nat.reduceAdd, if_true, if_false, Bool.false_eq_true, List.length_cons, List.length_nil, decide_eq_true_eq, Nat.reduceLeDiff, true_and, wIx_0, wIx_1, wIx_2, wIx_3, q__law_is_plan__law_is_part]
  refine (law_part_ok hh (by omega) lc pc).mono fun v S3 hv => ?_
  obtain ⟨rfl, k3⟩ := hv
  first
    | exact ⟨rfl, (k1.trans k2).trans k3⟩
    | exact (k1.trans k2).trans k3
end T

end
section
set_option Elab.async false
set_option linter.all false
set_option maxRecDepth 100000
set_option maxHeartbeats 4000000
set_option autoImplicit false
/-! Plain laws, part O: the law's turns. -/
namespace T
open PySem DV
theorem strOk_tl {x : Str} : PyData.strOk x = true ↔ ∀ c ∈ TL.tl x, c < 0x110000 := by
  simp only [PyData.strOk, TL.tl, ← Array.all_toList, List.all_eq_true, decide_eq_true_eq]
theorem mem_joinL {s : Nat} {y : List Nat} : ∀ {parts : List (List Nat)}, s ∈ TL.joinL y parts → s ∈ y ∨ ∃ p ∈ parts, s ∈ p
  | [], h => by simp [TL.joinL] at h
  | [p], h => .inr ⟨p, List.mem_cons_self, h⟩
  | p :: q :: r, h => by
    have h : s ∈ p ++ (y ++ TL.joinL y (q :: r)) := h
    simp only [List.mem_append] at h
    rcases h with h | h | h
    · exact .inr ⟨p, List.mem_cons_self, h⟩
    · exact .inl h
    · rcases mem_joinL h with h | ⟨z, hz, h⟩
      · exact .inl h
      · exact .inr ⟨z, List.mem_cons_of_mem _ hz, h⟩
theorem strOk_join {y : Str} {parts : List Str} (hy : PyData.strOk y = true) (h : ∀ p ∈ parts, PyData.strOk p = true) : PyData.strOk (Txt.join y parts) = true := by
  rw [strOk_tl]
  intro c hc
  rw [TL.join_eq, TL.tl_join] at hc
  rcases mem_joinL hc with hc | ⟨p, hp, hc⟩
  · exact strOk_tl.mp hy c hc
  · obtain ⟨z, hz, rfl⟩ := List.mem_map.mp hp
    exact strOk_tl.mp (h z hz) c hc
theorem cellT_ok {h : Int} {c : D} (hc : Cell h c) : PyData.strOk (cellT c) = true := by
  rcases hc with rfl | ⟨i, b, rfl, h1, h2, _⟩
  · decide +kernel
  · rcases ten h1 h2 with e | e | e | e | e | e | e | e | e | e <;> subst e <;> cases b <;> decide +kernel
theorem lineT_ok {h : Int} {w : Str} {bs : List D} (hw : PyData.strOk w = true) (hb : ∀ b ∈ bs, Beat h b) : PyData.strOk (lineT w bs) = true := by
  refine strOk_join (by decide +kernel) fun p hp => ?_
  rcases List.mem_cons.mp hp with rfl | hp
  · exact hw
  · obtain ⟨b, hb', rfl⟩ := List.mem_map.mp hp
    obtain ⟨cs, rfl, hl, hc⟩ := hb b hb'
    refine strOk_join (by decide +kernel) fun p hp => ?_
    obtain ⟨c, hc', rfl⟩ := List.mem_map.mp hp
    exact cellT_ok (hc c hc')
theorem textT_ok {h : Int} {a b c : List D} (hh : h = 1 ∨ h = 2) (pa : ∀ x ∈ a, Beat h x) (pb : ∀ x ∈ b, Beat h x) (pc : ∀ x ∈ c, Beat h x) : PyData.strOk (textT h a b c) = true := by
  refine strOk_join (by decide +kernel) fun p hp => ?_
  simp only [List.mem_cons, List.not_mem_nil, or_false] at hp
  rcases hp with rfl | rfl | rfl | rfl
  · rcases hh with rfl | rfl <;> decide +kernel
  · exact lineT_ok (by decide +kernel) pa
  · exact lineT_ok (by decide +kernel) pb
  · exact lineT_ok (by decide +kernel) pc
def turn_body : List MS := [.asg (.nm 7) (.call "_law_drawn" (.cons (.var 4) .nil)),
  .asg (.nm 8) (.mt1 .join (.con (.str "\n")) (.call "_law_lines" (.cons (.var 7) .nil))),
  .ifS (.cmp .ne (.call "plan_text" (.cons (.var 7) .nil)) (.var 8)) [.ret (.con (.bl false))] [],
  .asg (.nm 9) (.call "read_plan" (.cons (.var 8) .nil)),
  .ifS (.or (.cmp .ne (.var 9) (.var 7)) (.not (.call "_law_is_plan" (.cons (.var 9) .nil)))) [.ret (.con (.bl false))] []]
theorem turn_ {n : Nat} {S : Sto} {x0 x1 x2 x3 x5 x6 x7 x8 x9 : Option D} (h : Sack S n) : wpR (evSs Φ_law turn_body [x0, x1, x2, x3, some (.ref n), x5, x6, x7, x8, x9] S) (fun fl S' => Tos n S S' ∧ ∃ p y8 y9, PlanD p ∧ fl = .nx [x0, x1, x2, x3, some (.ref n), x5, x6, some p, y8, y9]) noX := by
  unfold turn_body
  rw [w_cons, w_asg]
  simp only [w_var, w_con, w_bin, w_neg, w_not, w_and, w_or, w_ite, w_cmp, w_chain, w_isN, w_tup, w_lst, w_idx, wO_none, wO_some, w_slc, w_blt, w_nilE, w_consE, wTy_some, w_isi, wApp_ref, w_app, wStr_str, w_mt1, w_told, w_calls, wCall_some, MEs.len, d_lenC, d_lenT, wVar_some, wBl_bl, wIt_int, wK_nx, wK_rt, wK_bk, wK_ct, wTg_some, wRt_rt, wRt_nx, wNx_nx, wNx_ct, BK.f, CK.f, FK.f, MK.f, d_addI, d_subI, d_mulI, d_fdivI, d_modI, d_powI, d_addT, d_addS, d_eqI, d_neI, d_ltI, d_leI, d_gtI, d_geI, d_negI, d_int, d_absI, d_idxT, d_idxC, wIx_0, wIx_1, wIx_2, wIx_3, setTg_nm, setTg_tp, setTgs_nil, setTgs_nm, setTgs_tp, Option.bind_some, List.map_cons, List.map_nil, List.cons_append, List.nil_append, List.getElem?_cons_zero, List.getElem?_cons_succ, List.set_cons_zero, List.set_cons_succ, List.replicate_succ, List.replicate_zero, Nat.reduceSub, Nat.reduceAdd, if_true, if_false, Bool.false_eq_true, List.length_cons, List.length_nil, decide_eq_true_eq, Nat.reduceLeDiff, true_and, q_law__law_drawn]
  refine (drawn_ h).mono fun v S1 hv => ?_
  obtain ⟨p, t1⟩ := hv
  obtain ⟨h, a, b, c, rfl, hh, la, lb, lc, pa, pb, pc⟩ := p.open_
  try simp only [w_var, w_con, w_bin, w_neg, w_not, w_and, w_or, w_ite, w_cmp, w_chain, w_isN, w_tup, w_lst, w_idx, wO_none, wO_some, w_slc, w_blt, w_nilE, w_consE, wTy_some, w_isi, wApp_ref, w_app, wStr_str, w_mt1, w_told, w_calls, wCall_some, MEs.len, d_lenC, d_lenT, wVar_some, wBl_bl, wIt_int, wK_nx, wK_rt, wK_bk, wK_ct, wTg_some, wRt_rt, wRt_nx, wNx_nx, wNx_ct, BK.f, CK.f, FK.f, MK.f, d_addI, d_subI, d_mulI, d_fdivI, d_modI, d_powI, d_addT, d_addS, d_eqI, d_neI, d_ltI, d_leI, d_gtI, d_geI, d_negI, d_int, d_absI, d_idxT, d_idxC, wIx_0, wIx_1, wIx_2, wIx_3, setTg_nm, setTg_tp, setTgs_nil, setTgs_nm, setTgs_tp, Option.bind_some, List.map_cons, List.map_nil, List.cons_append, List.nil_append, List.getElem?_cons_zero, List.getElem?_cons_succ, List.set_cons_zero, List.set_cons_succ, List.replicate_succ, List.replicate_zero, Nat.reduceSub, Nat.reduceAdd, if_true, if_false, Bool.false_eq_true, List.length_cons, List.length_nil, decide_eq_true_eq, Nat.reduceLeDiff, true_and]
  rw [w_cons, w_asg]
  simp only [w_var, w_con, w_bin, w_neg, w_not, w_and, w_or, w_ite, w_cmp, w_chain, w_isN, w_tup, w_lst, w_idx, wO_none, wO_some, w_slc, w_blt, w_nilE, w_consE, wTy_some, w_isi, wApp_ref, w_app, wStr_str, w_mt1, w_told, w_calls, wCall_some, MEs.len, d_lenC, d_lenT, wVar_some, wBl_bl, wIt_int, wK_nx, wK_rt, wK_bk, wK_ct, wTg_some, wRt_rt, wRt_nx, wNx_nx, wNx_ct, BK.f, CK.f, FK.f, MK.f, d_addI, d_subI, d_mulI, d_fdivI, d_modI, d_powI, d_addT, d_addS, d_eqI, d_neI, d_ltI, d_leI, d_gtI, d_geI, d_negI, d_int, d_absI, d_idxT, d_idxC, wIx_0, wIx_1, wIx_2, wIx_3, setTg_nm, setTg_tp, setTgs_nil, setTgs_nm, setTgs_tp, Option.bind_some, List.map_cons, List.map_nil, List.cons_append, List.nil_append, List.getElem?_cons_zero, List.getElem?_cons_succ, List.set_cons_zero, List.set_cons_succ, List.replicate_succ, List.replicate_zero, Nat.reduceSub, Nat.reduceAdd, if_true, if_false, Bool.false_eq_true, List.length_cons, List.length_nil, decide_eq_true_eq, Nat.reduceLeDiff, true_and, q_law__law_lines]
  refine (law_lines_ hh la lb.2 lc pa pb pc).mono fun v S2 hv => ?_
  obtain ⟨l, rfl, hl, k2⟩ := hv
  rw [d_join hl]
  refine ⟨?_, ?_⟩
  · have q1 := lineT_len hh (w := "begin") (by decide) la pa
    have q2 := lineT_len hh (w := "round") (by decide) lb.2 pb
    have q3 := lineT_len hh (w := "end") (by decide) lc pc
    have q0 := headT_len hh
    have e1 : (("\n" : Str)).length = 1 := by decide
    rw [e1]
    simp only [List.map_cons, List.map_nil, List.sum_cons, List.sum_nil, List.length_cons, List.length_nil]
    omega
  rw [show Txt.join "\n" [headT h, lineT "begin" a, lineT "round" b, lineT "end" c] = textT h a b c from rfl]
  have lt := lay_str 0 (textT_ok hh pa pb pc)
  obtain ⟨q, lp⟩ := lay_plan pa pb pc
  try simp only [w_var, w_con, w_bin, w_neg, w_not, w_and, w_or, w_ite, w_cmp, w_chain, w_isN, w_tup, w_lst, w_idx, wO_none, wO_some, w_slc, w_blt, w_nilE, w_consE, wTy_some, w_isi, wApp_ref, w_app, wStr_str, w_mt1, w_told, w_calls, wCall_some, MEs.len, d_lenC, d_lenT, wVar_some, wBl_bl, wIt_int, wK_nx, wK_rt, wK_bk, wK_ct, wTg_some, wRt_rt, wRt_nx, wNx_nx, wNx_ct, BK.f, CK.f, FK.f, MK.f, d_addI, d_subI, d_mulI, d_fdivI, d_modI, d_powI, d_addT, d_addS, d_eqI, d_neI, d_ltI, d_leI, d_gtI, d_geI, d_negI, d_int, d_absI, d_idxT, d_idxC, wIx_0, wIx_1, wIx_2, wIx_3, setTg_nm, setTg_tp, setTgs_nil, setTgs_nm, setTgs_tp, Option.bind_some, List.map_cons, List.map_nil, List.cons_append, List.nil_append, List.getElem?_cons_zero, List.getElem?_cons_succ, List.set_cons_zero, List.set_cons_succ, List.replicate_succ, List.replicate_zero, Nat.reduceSub, Nat.reduceAdd, if_true, if_false, Bool.false_eq_true, List.length_cons, List.length_nil, decide_eq_true_eq, Nat.reduceLeDiff, true_and]
  rw [w_cons, w_if]
  simp only [w_var, w_con, w_bin, w_neg, w_not, w_and, w_or, w_ite, w_cmp, w_chain, w_isN, w_tup, w_lst, w_idx, wO_none, wO_some, w_slc, w_blt, w_nilE, w_consE, wTy_some, w_isi, wApp_ref, w_app, wStr_str, w_mt1, w_told, w_calls, wCall_some, MEs.len, d_lenC, d_lenT, wVar_some, wBl_bl, wIt_int, wK_nx, wK_rt, wK_bk, wK_ct, wTg_some, wRt_rt, wRt_nx, wNx_nx, wNx_ct, BK.f, CK.f, FK.f, MK.f, d_addI, d_subI, d_mulI, d_fdivI, d_modI, d_powI, d_addT, d_addS, d_eqI, d_neI, d_ltI, d_leI, d_gtI, d_geI, d_negI, d_int, d_absI, d_idxT, d_idxC, wIx_0, wIx_1, wIx_2, wIx_3, setTg_nm, setTg_tp, setTgs_nil, setTgs_nm, setTgs_tp, Option.bind_some, List.map_cons, List.map_nil, List.cons_append, List.nil_append, List.getElem?_cons_zero, List.getElem?_cons_succ, List.set_cons_zero, List.set_cons_succ, List.replicate_succ, List.replicate_zero, Nat.reduceSub, Nat.reduceAdd, if_true, if_false, Bool.false_eq_true, List.length_cons, List.length_nil, decide_eq_true_eq, Nat.reduceLeDiff, true_and, q_law_plan_text]
  refine (plan_text_ p).mono fun v S3 hv => ?_
  obtain ⟨rfl, k3⟩ := hv
  simp only [w_var, w_con, w_bin, w_neg, w_not, w_and, w_or, w_ite, w_cmp, w_chain, w_isN, w_tup, w_lst, w_idx, wO_none, wO_some, w_slc, w_blt, w_nilE, w_consE, wTy_some, w_isi, wApp_ref, w_app, wStr_str, w_mt1, w_told, w_calls, wCall_some, MEs.len, d_lenC, d_lenT, wVar_some, wBl_bl, wIt_int, wK_nx, wK_rt, wK_bk, wK_ct, wTg_some, wRt_rt, wRt_nx, wNx_nx, wNx_ct, BK.f, CK.f, FK.f, MK.f, d_addI, d_subI, d_mulI, d_fdivI, d_modI, d_powI, d_addT, d_addS, d_eqI, d_neI, d_ltI, d_leI, d_gtI, d_geI, d_negI, d_int, d_absI, d_idxT, d_idxC, wIx_0, wIx_1, wIx_2, wIx_3, setTg_nm, setTg_tp, setTgs_nil, setTgs_nm, setTgs_tp, Option.bind_some, List.map_cons, List.map_nil, List.cons_append, List.nil_append, List.getElem?_cons_zero, List.getElem?_cons_succ, List.set_cons_zero, List.set_cons_succ, List.replicate_succ, List.replicate_zero, Nat.reduceSub, Nat.reduceAdd, if_true, if_false, Bool.false_eq_true, List.length_cons, List.length_nil, decide_eq_true_eq, Nat.reduceLeDiff, true_and, ne_same lt (by omega), wpR_ok]
  rw [w_nil, wK_nx, w_cons, w_asg]
  simp only [w_var, w_con, w_bin, w_neg, w_not, w_and, w_or, w_ite, w_cmp, w_chain, w_isN, w_tup, w_lst, w_idx, wO_none, wO_some, w_slc, w_blt, w_nilE, w_consE, wTy_some, w_isi, wApp_ref, w_app, wStr_str, w_mt1, w_told, w_calls, wCall_some, MEs.len, d_lenC, d_lenT, wVar_some, wBl_bl, wIt_int, wK_nx, wK_rt, wK_bk, wK_ct, wTg_some, wRt_rt, wRt_nx, wNx_nx, wNx_ct, BK.f, CK.f, FK.f, MK.f, d_addI, d_subI, d_mulI, d_fdivI, d_modI, d_powI, d_addT, d_addS, d_eqI, d_neI, d_ltI, d_leI, d_gtI, d_geI, d_negI, d_int, d_absI, d_idxT, d_idxC, wIx_0, wIx_1, wIx_2, wIx_3, setTg_nm, setTg_tp, setTgs_nil, setTgs_nm, setTgs_tp, Option.bind_some, List.map_cons, List.map_nil, List.cons_append, List.nil_append, List.getElem?_cons_zero, List.getElem?_cons_succ, List.set_cons_zero, List.set_cons_succ, List.replicate_succ, List.replicate_zero, Nat.reduceSub, Nat.reduceAdd, if_true, if_false, Bool.false_eq_true, List.length_cons, List.length_nil, decide_eq_true_eq, Nat.reduceLeDiff, true_and, q_law_read_plan]
  refine (read_plan_ p).mono fun v S4 hv => ?_
  obtain ⟨rfl, k4⟩ := hv
  try simp only [w_var, w_con, w_bin, w_neg, w_not, w_and, w_or, w_ite, w_cmp, w_chain, w_isN, w_tup, w_lst, w_idx, wO_none, wO_some, w_slc, w_blt, w_nilE, w_consE, wTy_some, w_isi, wApp_ref, w_app, wStr_str, w_mt1, w_told, w_calls, wCall_some, MEs.len, d_lenC, d_lenT, wVar_some, wBl_bl, wIt_int, wK_nx, wK_rt, wK_bk, wK_ct, wTg_some, wRt_rt, wRt_nx, wNx_nx, wNx_ct, BK.f, CK.f, FK.f, MK.f, d_addI, d_subI, d_mulI, d_fdivI, d_modI, d_powI, d_addT, d_addS, d_eqI, d_neI, d_ltI, d_leI, d_gtI, d_geI, d_negI, d_int, d_absI, d_idxT, d_idxC, wIx_0, wIx_1, wIx_2, wIx_3, setTg_nm, setTg_tp, setTgs_nil, setTgs_nm, setTgs_tp, Option.bind_some, List.map_cons, List.map_nil, List.cons_append, List.nil_append, List.getElem?_cons_zero, List.getElem?_cons_succ, List.set_cons_zero, List.set_cons_succ, List.replicate_succ, List.replicate_zero, Nat.reduceSub, Nat.reduceAdd, if_true, if_false, Bool.false_eq_true, List.length_cons, List.length_nil, decide_eq_true_eq, Nat.reduceLeDiff, true_and]
  rw [w_cons, w_if]
  simp only [w_var, w_con, w_bin, w_neg, w_not, w_and, w_or, w_ite, w_cmp, w_chain, w_isN, w_tup, w_lst, w_idx, wO_none, wO_some, w_slc, w_blt, w_nilE, w_consE, wTy_some, w_isi, wApp_ref, w_app, wStr_str, w_mt1, w_told, w_calls, wCall_some, MEs.len, d_lenC, d_lenT, wVar_some, wBl_bl, wIt_int, wK_nx, wK_rt, wK_bk, wK_ct, wTg_some, wRt_rt, wRt_nx, wNx_nx, wNx_ct, BK.f, CK.f, FK.f, MK.f, d_addI, d_subI, d_mulI, d_fdivI, d_modI, d_powI, d_addT, d_addS, d_eqI, d_neI, d_ltI, d_leI, d_gtI, d_geI, d_negI, d_int, d_absI, d_idxT, d_idxC, wIx_0, wIx_1, wIx_2, wIx_3, setTg_nm, setTg_tp, setTgs_nil, setTgs_nm, setTgs_tp, Option.bind_some, List.map_cons, List.map_nil, List.cons_append, List.nil_append, List.getElem?_cons_zero, List.getElem?_cons_succ, List.set_cons_zero, List.set_cons_succ, List.replicate_succ, List.replicate_zero, Nat.reduceSub, Nat.reduceAdd, if_true, if_false, Bool.false_eq_true, List.length_cons, List.length_nil, decide_eq_true_eq, Nat.reduceLeDiff, true_and, ne_same lp (by omega), wpR_ok, q_law__law_is_plan]
  refine (law_plan_ok p).mono fun v S5 hv => ?_
  obtain ⟨rfl, k5⟩ := hv
  simp only [w_var, w_con, w_bin, w_neg, w_not, w_and, w_or, w_ite, w_cmp, w_chain, w_isN, w_tup, w_lst, w_idx, wO_none, wO_some, w_slc, w_blt, w_nilE, w_consE, wTy_some, w_isi, wApp_ref, w_app, wStr_str, w_mt1, w_told, w_calls, wCall_some, MEs.len, d_lenC, d_lenT, wVar_some, wBl_bl, wIt_int, wK_nx, wK_rt, wK_bk, wK_ct, wTg_some, wRt_rt, wRt_nx, wNx_nx, wNx_ct, BK.f, CK.f, FK.f, MK.f, d_addI, d_subI, d_mulI, d_fdivI, d_modI, d_powI, d_addT, d_addS, d_eqI, d_neI, d_ltI, d_leI, d_gtI, d_geI, d_negI, d_int, d_absI, d_idxT, d_idxC, wIx_0, wIx_1, wIx_2, wIx_3, setTg_nm, setTg_tp, setTgs_nil, setTgs_nm, setTgs_tp, Option.bind_some, List.map_cons, List.map_nil, List.cons_append, List.nil_append, List.getElem?_cons_zero, List.getElem?_cons_succ, List.set_cons_zero, List.set_cons_succ, List.replicate_succ, List.replicate_zero, Nat.reduceSub, Nat.reduceAdd, if_true, if_false, Bool.false_eq_true, List.length_cons, List.length_nil, decide_eq_true_eq, Nat.reduceLeDiff, true_and, Bool.not_true]
  try rw [w_nil, wK_nx, w_nil]
  have kk := ((k2.trans k3).trans k4).trans k5
  first
    | exact ⟨t1.trans (kk.tos t1.sack), _, _, _, p, rfl⟩
end T

end
section
set_option Elab.async false
set_option linter.all false
set_option maxRecDepth 100000
set_option maxHeartbeats 4000000
set_option autoImplicit false
/-! Plain laws, part P: what is no plan. -/
namespace T
open PySem DV
def bad_body : List MS := [.ifS (.cmp .ne (.told (.call "plan_text" (.cons (.var 6) .nil))) (.tup (.cons (.con (.str "InvalidPlan +")) .nil))) [.ret (.con (.bl false))] []]
theorem bad_step {d : D} {S : Sto} {x0 x1 x2 x3 x4 x5 x7 x8 x9 : Option D} (b : BadP S d) : wpR (evSs Φ_law bad_body [x0, x1, x2, x3, x4, x5, some d, x7, x8, x9] S) (fun fl S' => fl = .nx [x0, x1, x2, x3, x4, x5, some d, x7, x8, x9] ∧ Keep S S') noX := by
  unfold bad_body
  rw [w_cons, w_if, w_cmp, w_told]
  simp only [w_var, w_con, w_bin, w_neg, w_not, w_and, w_or, w_ite, w_cmp, w_chain, w_isN, w_tup, w_lst, w_idx, wO_none, wO_some, w_slc, w_blt, w_nilE, w_consE, wTy_some, w_isi, wApp_ref, w_app, wStr_str, w_mt1, w_told, w_calls, wCall_some, MEs.len, d_lenC, d_lenT, wVar_some, wBl_bl, wIt_int, wK_nx, wK_rt, wK_bk, wK_ct, wTg_some, wRt_rt, wRt_nx, wNx_nx, wNx_ct, BK.f, CK.f, FK.f, MK.f, d_addI, d_subI, d_mulI, d_fdivI, d_modI, d_powI, d_addT, d_addS, d_eqI, d_neI, d_ltI, d_leI, d_gtI, d_geI, d_negI, d_int, d_absI, d_idxT, d_idxC, wIx_0, wIx_1, wIx_2, wIx_3, setTg_nm, setTg_tp, setTgs_nil, setTgs_nm, setTgs_tp, Option.bind_some, List.map_cons, List.map_nil, List.cons_append, List.nil_append, List.getElem?_cons_zero, List.getElem?_cons_succ, List.set_cons_zero, List.set_cons_succ, List.replicate_succ, List.replicate_zero, Nat.reduceSub, Nat.reduceAdd, if_true, if_false, Bool.false_eq_true, List.length_cons, List.length_nil, decide_eq_true_eq, Nat.reduceLeDiff, true_and, q_law_plan_text]
  refine (plan_text_bad b).mono2 (fun v S1 hv => hv.elim) fun x p S1 hx => ?_
  obtain ⟨rfl, rfl, k⟩ := hx
  have e : ∀ S, neD (.tup [.str ("InvalidPlan" ++ plus)]) (.tup [.str "InvalidPlan +"]) S = .ok (.bl false) S := fun S => by kernel_rfl
  refine ⟨rfl, by decide +kernel, ?_⟩
  simp only [w_var, w_con, w_bin, w_neg, w_not, w_and, w_or, w_ite, w_cmp, w_chain, w_isN, w_tup, w_lst, w_idx, wO_none, wO_some, w_slc, w_blt, w_nilE, w_consE, wTy_some, w_isi, wApp_ref, w_app, wStr_str, w_mt1, w_told, w_calls, wCall_some, MEs.len, d_lenC, d_lenT, wVar_some, wBl_bl, wIt_int, wK_nx, wK_rt, wK_bk, wK_ct, wTg_some, wRt_rt, wRt_nx, wNx_nx, wNx_ct, BK.f, CK.f, FK.f, MK.f, d_addI, d_subI, d_mulI, d_fdivI, d_modI, d_powI, d_addT, d_addS, d_eqI, d_neI, d_ltI, d_leI, d_gtI, d_geI, d_negI, d_int, d_absI, d_idxT, d_idxC, wIx_0, wIx_1, wIx_2, wIx_3, setTg_nm, setTg_tp, setTgs_nil, setTgs_nm, setTgs_tp, Option.bind_some, List.map_cons, List.map_nil, List.cons_append, List.nil_append, List.getElem?_cons_zero, List.getElem?_cons_succ, List.set_cons_zero, List.set_cons_succ, List.replicate_succ, List.replicate_zero, Nat.reduceSub, Nat.reduceAdd, if_true, if_false, Bool.false_eq_true, List.length_cons, List.length_nil, decide_eq_true_eq, Nat.reduceLeDiff, true_and, e, wpR_ok]
  rw [w_nil, wK_nx, w_nil]
  exact ⟨rfl, k⟩
theorem BadP.keep {S S' : Sto} {d : D} (b : BadP S d) : BadP S' d := b
theorem bads_ {lk : List (Nat × List D)} {x0 x1 x2 x3 x4 x5 x7 x8 x9 : Option D} {S0 : Sto} (hl : ∀ S, Keep S0 S → Locked S lk) : ∀ {ds : List D} {x6 : Option D} {S : Sto}, (∀ d ∈ ds, BadP S0 d) → Keep S0 S → wpR (forD lk (.nm 6) (evSs Φ_law bad_body) ds [x0, x1, x2, x3, x4, x5, x6, x7, x8, x9] S) (fun fl S' => ∃ y, fl = .nx [x0, x1, x2, x3, x4, x5, y, x7, x8, x9] ∧ Keep S0 S') noX
  | [], x6, S, _, k => forD_end (hl S k) ⟨x6, rfl, k⟩
  | d :: ds, x6, S, h, k => by
    refine forD_stepR (hl S k) rfl ?_
    refine (bad_step (S := S) (h d List.mem_cons_self)).mono fun fl S1 hf => ?_
    obtain ⟨rfl, k1⟩ := hf
    exact bads_ hl (fun y hy => h y (List.mem_cons_of_mem _ hy)) (k.trans k1)
theorem turns_ {n : Nat} {S0 : Sto} {x0 x1 x2 x3 x6 : Option D} : ∀ {ds : List D} {x5 x7 x8 x9 : Option D} {S : Sto}, Sack S n → Tos n S0 S → (ds = [] → ∃ p, PlanD p ∧ x7 = some p) → wpR (forD [] (.nm 5) (evSs Φ_law turn_body) ds [x0, x1, x2, x3, some (.ref n), x5, x6, x7, x8, x9] S) (fun fl S' => ∃ y5 p y8 y9, PlanD p ∧ fl = .nx [x0, x1, x2, x3, some (.ref n), y5, x6, some p, y8, y9] ∧ Tos n S0 S') noX
  | [], x5, x7, x8, x9, S, h, t, z => by
    obtain ⟨p, hp, rfl⟩ := z rfl
    exact forD_end locked_nil ⟨_, p, _, _, hp, rfl, t⟩
  | d :: ds, x5, x7, x8, x9, S, h, t, z => by
    refine forD_stepR locked_nil rfl ?_
    refine (turn_ h).mono fun fl S1 hf => ?_
    obtain ⟨t1, p, y8, y9, hp, rfl⟩ := hf
    exact turns_ t1.sack (t.trans t1) fun _ => ⟨p, hp, rfl⟩
end T

end
section
set_option Elab.async false
set_option linter.all false
set_option maxRecDepth 100000
set_option maxHeartbeats 4000000
set_option autoImplicit false
/-! Plain laws, part Q: the law. -/
namespace T
open PySem DV
def round_body : List MS := [.asg (.nm 4) (.call "_law_sack" (.cons (.var 0) (.cons (.var 1) .nil))),
  .forS (.nm 5) (.range1 (.con (.int 5))) turn_body,
  .forS (.nm 6) (.val (.lst (.cons (.con .non) (.cons (.blt .list (.cons (.var 7) .nil)) (.cons (.slc (.var 7) .none (.some (.con (.int 3)))) (.cons (.bin .add (.tup (.cons (.con (.int 3)) .nil)) (.slc (.var 7) (.some (.con (.int 1))) .none)) (.cons (.con (.str "jugglers 1")) .nil))))))) bad_body]
theorem Tos.keep_ {n : Nat} {S S1 S2 : Sto} (k : Keep S S1) (t : Tos n S1 S2) (h : S.length ≤ n) : Keep S S2 := ⟨Nat.le_trans k.len t.len, fun i hi => (t.keep i (Nat.lt_of_lt_of_le hi k.len) (by omega)).trans (k.at_ i hi)⟩
theorem round_ {d : D} {ns : List Int} {S : Sto} {k : Nat} {x2 x3 x4 x5 x6 x7 x8 x9 : Option D} (h : Scr S d ns) (hk : k < 1000) : wpR (evSs Φ_law round_body [some d, some (.int k), x2, x3, x4, x5, x6, x7, x8, x9] S) (fun fl S' => ∃ y4 y5 y6 y7 y8 y9, fl = .nx [some d, some (.int k), x2, x3, y4, y5, y6, y7, y8, y9] ∧ Keep S S') noX := by
  unfold round_body
  rw [w_cons, w_asg]
  simp only [w_var, w_con, w_bin, w_neg, w_not, w_and, w_or, w_ite, w_cmp, w_chain, w_isN, w_tup, w_lst, w_idx, wO_none, wO_some, w_slc, w_blt, w_nilE, w_consE, wTy_some, w_isi, wApp_ref, w_app, wStr_str, w_mt1, w_told, w_calls, wCall_some, MEs.len, d_lenC, d_lenT, wVar_some, wBl_bl, wIt_int, wK_nx, wK_rt, wK_bk, wK_ct, wTg_some, wRt_rt, wRt_nx, wNx_nx, wNx_ct, BK.f, CK.f, FK.f, MK.f, d_addI, d_subI, d_mulI, d_fdivI, d_modI, d_powI, d_addT, d_addS, d_eqI, d_neI, d_ltI, d_leI, d_gtI, d_geI, d_negI, d_int, d_absI, d_idxT, d_idxC, wIx_0, wIx_1, wIx_2, wIx_3, setTg_nm, setTg_tp, setTgs_nil, setTgs_nm, setTgs_tp, Option.bind_some, List.map_cons, List.map_nil, List.cons_append, List.nil_append, List.getElem?_cons_zero, List.getElem?_cons_succ, List.set_cons_zero, List.set_cons_succ, List.replicate_succ, List.replicate_zero, Nat.reduceSub, Nat.reduceAdd, if_true, if_false, Bool.false_eq_true, List.length_cons, List.length_nil, decide_eq_true_eq, Nat.reduceLeDiff, true_and, q_law__law_sack]
  refine (sack_ h hk).mono fun v S1 hv => ?_
  obtain ⟨rfl, a, b, rfl, h1, h2, h3⟩ := hv
  have sk : Sack (S ++ [.lst [.int a, .int b]]) S.length := ⟨a, b, new_at, h1, h2, h3⟩
  try simp only [w_var, w_con, w_bin, w_neg, w_not, w_and, w_or, w_ite, w_cmp, w_chain, w_isN, w_tup, w_lst, w_idx, wO_none, wO_some, w_slc, w_blt, w_nilE, w_consE, wTy_some, w_isi, wApp_ref, w_app, wStr_str, w_mt1, w_told, w_calls, wCall_some, MEs.len, d_lenC, d_lenT, wVar_some, wBl_bl, wIt_int, wK_nx, wK_rt, wK_bk, wK_ct, wTg_some, wRt_rt, wRt_nx, wNx_nx, wNx_ct, BK.f, CK.f, FK.f, MK.f, d_addI, d_subI, d_mulI, d_fdivI, d_modI, d_powI, d_addT, d_addS, d_eqI, d_neI, d_ltI, d_leI, d_gtI, d_geI, d_negI, d_int, d_absI, d_idxT, d_idxC, wIx_0, wIx_1, wIx_2, wIx_3, setTg_nm, setTg_tp, setTgs_nil, setTgs_nm, setTgs_tp, Option.bind_some, List.map_cons, List.map_nil, List.cons_append, List.nil_append, List.getElem?_cons_zero, List.getElem?_cons_succ, List.set_cons_zero, List.set_cons_succ, List.replicate_succ, List.replicate_zero, Nat.reduceSub, Nat.reduceAdd, if_true, if_false, Bool.false_eq_true, List.length_cons, List.length_nil, decide_eq_true_eq, Nat.reduceLeDiff, true_and]
  rw [w_cons, w_for, w_range1]
  try simp only [w_var, w_con, w_bin, w_neg, w_not, w_and, w_or, w_ite, w_cmp, w_chain, w_isN, w_tup, w_lst, w_idx, wO_none, wO_some, w_slc, w_blt, w_nilE, w_consE, wTy_some, w_isi, wApp_ref, w_app, wStr_str, w_mt1, w_told, w_calls, wCall_some, MEs.len, d_lenC, d_lenT, wVar_some, wBl_bl, wIt_int, wK_nx, wK_rt, wK_bk, wK_ct, wTg_some, wRt_rt, wRt_nx, wNx_nx, wNx_ct, BK.f, CK.f, FK.f, MK.f, d_addI, d_subI, d_mulI, d_fdivI, d_modI, d_powI, d_addT, d_addS, d_eqI, d_neI, d_ltI, d_leI, d_gtI, d_geI, d_negI, d_int, d_absI, d_idxT, d_idxC, wIx_0, wIx_1, wIx_2, wIx_3, setTg_nm, setTg_tp, setTgs_nil, setTgs_nm, setTgs_tp, Option.bind_some, List.map_cons, List.map_nil, List.cons_append, List.nil_append, List.getElem?_cons_zero, List.getElem?_cons_succ, List.set_cons_zero, List.set_cons_succ, List.replicate_succ, List.replicate_zero, Nat.reduceSub, Nat.reduceAdd, if_true, if_false, Bool.false_eq_true, List.length_cons, List.length_nil, decide_eq_true_eq, Nat.reduceLeDiff, true_and]
  refine ⟨by decide, ?_⟩
  show wpR (forD [] _ _ [.int 0, .int 1, .int 2, .int 3, .int 4] _ _) _ _
  refine (turns_ sk ((Keep.refl _).tos sk) (fun z => by cases z)).mono fun fl S2 hf => ?_
  obtain ⟨y5, p, y8, y9, hp, rfl, t⟩ := hf
  have k2 : Keep S S2 := Tos.keep_ Keep.more t (Nat.le_refl _)
  obtain ⟨h', a', b', c', rfl, hh, _⟩ := hp.open_
  rw [wK_nx, w_cons, w_for, w_val]
  have d_listT : ∀ (xs : List D) (S : Sto) (Q : D → Sto → Prop) (X : Str → Option (Str × D) → Sto → Prop), wpR (listD [.tup xs] S) Q X = Q (.ref S.length) (S ++ [.lst xs]) := fun xs S Q X => by
    simp only [listD, seqOf, wpR_ok]
  simp only [w_var, w_con, w_bin, w_neg, w_not, w_and, w_or, w_ite, w_cmp, w_chain, w_isN, w_tup, w_lst, w_idx, wO_none, wO_some, w_slc, w_blt, w_nilE, w_consE, wTy_some, w_isi, wApp_ref, w_app, wStr_str, w_mt1, w_told, w_calls, wCall_some, MEs.len, d_lenC, d_lenT, wVar_some, wBl_bl, wIt_int, wK_nx, wK_rt, wK_bk, wK_ct, wTg_some, wRt_rt, wRt_nx, wNx_nx, wNx_ct, BK.f, CK.f, FK.f, MK.f, d_addI, d_subI, d_mulI, d_fdivI, d_modI, d_powI, d_addT, d_addS, d_eqI, d_neI, d_ltI, d_leI, d_gtI, d_geI, d_negI, d_int, d_absI, d_idxT, d_idxC, wIx_0, wIx_1, wIx_2, wIx_3, setTg_nm, setTg_tp, setTgs_nil, setTgs_nm, setTgs_tp, Option.bind_some, List.map_cons, List.map_nil, List.cons_append, List.nil_append, List.getElem?_cons_zero, List.getElem?_cons_succ, List.set_cons_zero, List.set_cons_succ, List.replicate_succ, List.replicate_zero, Nat.reduceSub, Nat.reduceAdd, if_true, if_false, Bool.false_eq_true, List.length_cons, List.length_nil, decide_eq_true_eq, Nat.reduceLeDiff, true_and, d_listT, d_slT, cut_tail]
  refine ⟨by decide, ?_⟩
  rw [d_walkR new_at]
  generalize hS3 : S2 ++ [LO.lst [D.int h', D.tup a', D.tup b', D.tup c']] = S3
  have k3 : Keep S S3 := by rw [← hS3]; exact k2.trans Keep.more
  refine (bads_ (S0 := S3 ++ [_]) (fun S4 k4 p hp => ?_) (fun x hx => ?_) (Keep.refl _)).mono fun fl S4 hf => ?_
  · rw [List.mem_singleton.mp hp]
    rw [k4.at_ _ (by simp)]
    exact new_at
  · simp only [List.mem_cons, List.not_mem_nil, or_false] at hx
    rcases hx with rfl | rfl | rfl | rfl | rfl
    · exact .inl rfl
    · exact .inl rfl
    · exact .inr (.inl ⟨_, rfl, by simp [cutD]; try decide⟩)
    · exact .inr (.inr ⟨3, _, rfl, by decide⟩)
    · exact .inl rfl
  · obtain ⟨y, rfl, k4⟩ := hf
    rw [wK_nx, w_nil]
    exact ⟨_, _, _, _, _, _, rfl, (k3.trans Keep.more).trans k4⟩
theorem rounds_ {d : D} {ns : List Int} {x2 x3 : Option D} : ∀ {ds : List D} {S : Sto} {x1 x4 x5 x6 x7 x8 x9 : Option D}, (∀ x ∈ ds, ∃ k : Nat, x = .int k ∧ k < 1000) → Scr S d ns → wpR (forD [] (.nm 1) (evSs Φ_law round_body) ds [some d, x1, x2, x3, x4, x5, x6, x7, x8, x9] S) (fun fl S' => ∃ y1 y4 y5 y6 y7 y8 y9, fl = .nx [some d, y1, x2, x3, y4, y5, y6, y7, y8, y9] ∧ Scr S' d ns) noX
  | [], S, _, _, _, _, _, _, _, _, h => forD_end locked_nil ⟨_, _, _, _, _, _, _, rfl, h⟩
  | x :: ds, S, _, _, _, _, _, _, _, hd, h => by
    obtain ⟨k, rfl, hk⟩ := hd x List.mem_cons_self
    refine forD_stepR locked_nil rfl ?_
    refine (round_ h hk).mono fun fl S1 hf => ?_
    obtain ⟨_, _, _, _, _, _, rfl, k1⟩ := hf
    exact rounds_ (fun y hy => hd y (List.mem_cons_of_mem _ hy)) (h.keep k1.at_)
theorem eq_same {n : Nat} {d : D} {p : PyData} {S : Sto} (l : Lay n d p) (h : n ≤ 64) : eqD d d S = .ok (.bl true) S := by
  have e : toPy S d = some p := l.1 _
  unfold eqD
  rw [e]
  dsimp only
  rw [if_pos ⟨l.shaped h, l.shaped h⟩, SeqAt.eqv_refl p l.2.1]
def b1 : List D := [.tup [.tup [.int 1, .bl false]], .tup [.tup [.int (-1), .bl false]]]
def c1 : List D := [.tup [.non]]
def b2 : List D := [.tup [.tup [.int 0, .bl true], .non]]
theorem pb1 : ∀ x ∈ b1, Beat 1 x := by
  intro x hx
  simp only [b1, List.mem_cons, List.not_mem_nil, or_false] at hx
  rcases hx with rfl | rfl
  · exact ⟨_, rfl, rfl, fun c hc => by
      rw [List.mem_singleton.mp hc]
      exact .inr ⟨1, false, rfl, by decide, by decide, fun _ => rfl⟩⟩
  · exact ⟨_, rfl, rfl, fun c hc => by
      rw [List.mem_singleton.mp hc]
      exact .inr ⟨-1, false, rfl, by decide, by decide, fun _ => rfl⟩⟩
theorem pc1 : ∀ x ∈ c1, Beat 1 x := by
  intro x hx
  rw [List.mem_singleton.mp hx]
  exact ⟨_, rfl, rfl, fun c hc => by
    rw [List.mem_singleton.mp hc]
    exact .inl rfl⟩
theorem pb2 : ∀ x ∈ b2, Beat 2 x := by
  intro x hx
  rw [List.mem_singleton.mp hx]
  exact ⟨_, rfl, rfl, fun c hc => by
    simp only [List.mem_cons, List.not_mem_nil, or_false] at hc
    rcases hc with rfl | rfl
    · exact .inr ⟨0, true, rfl, by decide, by decide, fun z => by cases z⟩
    · exact .inl rfl⟩
theorem text1 : textT 1 [] b1 c1 = "jugglers 1\nbegin\nround 1 -1\nend _" := by decide +kernel
theorem text2 : Txt.split (textT 2 [] b2 []) "\n" = [("jugglers 2" : Str), "begin", "round 0p/_", "end"] := by decide +kernel
theorem plan1 : PlanD (.tup [.int 1, .tup [], .tup b1, .tup c1]) := ⟨1, _, _, _, rfl, .inl rfl, ⟨0, by decide, by decide, [], rfl, rfl, fun x hx => by cases hx⟩, ⟨2, by decide, by decide, b1, rfl, rfl, pb1⟩, ⟨1, by decide, by decide, c1, rfl, rfl, pc1⟩⟩
theorem plan2 : PlanD (.tup [.int 2, .tup [], .tup b2, .tup []]) := ⟨2, _, _, _, rfl, .inr rfl, ⟨0, by decide, by decide, [], rfl, rfl, fun x hx => by cases hx⟩, ⟨1, by decide, by decide, b2, rfl, rfl, pb2⟩, ⟨0, by decide, by decide, [], rfl, rfl, fun x hx => by cases hx⟩⟩
theorem law_true {ns : List Int} {d : D} {S : Sto} (h : Scr S d ns) : wpR (d_law [d] S) (fun v _ => v = .bl true) noX := by
  unfold d_law
  refine den_wp rfl ?_
  unfold m_law
  rw [w_cons, w_for, w_range1]
  have d_min : ∀ (i j : Int) (S : Sto) (Q : D → Sto → Prop) (X : Str → Option (Str × D) → Sto → Prop), wpR (minD [.int i, .int j] S) Q X = Q (.int (if j < i then j else i)) S := fun i j S Q X => wpR_ok
  simp only [w_var, w_con, w_bin, w_neg, w_not, w_and, w_or, w_ite, w_cmp, w_chain, w_isN, w_tup, w_lst, w_idx, wO_none, wO_some, w_slc, w_blt, w_nilE, w_consE, wTy_some, w_isi, wApp_ref, w_app, wStr_str, w_mt1, w_told, w_calls, wCall_some, MEs.len, d_lenC, d_lenT, wVar_some, wBl_bl, wIt_int, wK_nx, wK_rt, wK_bk, wK_ct, wTg_some, wRt_rt, wRt_nx, wNx_nx, wNx_ct, BK.f, CK.f, FK.f, MK.f, d_addI, d_subI, d_mulI, d_fdivI, d_modI, d_powI, d_addT, d_addS, d_eqI, d_neI, d_ltI, d_leI, d_gtI, d_geI, d_negI, d_int, d_absI, d_idxT, d_idxC, wIx_0, wIx_1, wIx_2, wIx_3, setTg_nm, setTg_tp, setTgs_nil, setTgs_nm, setTgs_tp, Option.bind_some, List.map_cons, List.map_nil, List.cons_append, List.nil_append, List.getElem?_cons_zero, List.getElem?_cons_succ, List.set_cons_zero, List.set_cons_succ, List.replicate_succ, List.replicate_zero, Nat.reduceSub, Nat.reduceAdd, if_true, if_false, Bool.false_eq_true, List.length_cons, List.length_nil, decide_eq_true_eq, Nat.reduceLeDiff, true_and, h.len, d_min, d_max]
  have hm : ∃ m : Nat, m ≤ 10 ∧ (if (if (ns.length : Int) < 10 then (ns.length : Int) else 10) > 1 then (if (ns.length : Int) < 10 then (ns.length : Int) else 10) else 1) = (m : Int) := by
    refine ⟨(if (if (ns.length : Int) < 10 then (ns.length : Int) else 10) > 1 then (if (ns.length : Int) < 10 then (ns.length : Int) else 10) else 1).toNat, ?_, ?_⟩ <;> (split <;> split <;> omega)
  obtain ⟨m, m1, m2⟩ := hm
  rw [m2]
  refine ⟨?_, ?_⟩
  · have : m = 0 ∨ m = 1 ∨ m = 2 ∨ m = 3 ∨ m = 4 ∨ m = 5 ∨ m = 6 ∨ m = 7 ∨ m = 8 ∨ m = 9 ∨ m = 10 := by omega
    rcases this with rfl | rfl | rfl | rfl | rfl | rfl | rfl | rfl | rfl | rfl | rfl <;> decide
  refine (rounds_ (fun x hx => ?_) h).mono fun fl S1 hf => ?_
  · obtain ⟨i, hi, rfl⟩ := List.mem_map.mp hx
    have : i < m := by simpa using hi
    exact ⟨i, by simp, by omega⟩
  obtain ⟨_, _, _, _, _, _, _, rfl, _⟩ := hf
  obtain ⟨q, lp⟩ := lay_plan (h := 1) (a := []) (fun x hx => by cases hx) pb1 pc1
  have ls : Lay 1 (.str "jugglers 1\nbegin\nround 1 -1\nend _") _ := lay_str 0 (by decide +kernel)
  have t1 := fun S => plan_text_ (S := S) plan1
  have t2 := fun S => plan_text_ (S := S) plan2
  have r1 := fun S => read_plan_ (S := S) plan1
  rw [text1] at t1 r1
  rw [wK_nx, w_cons, w_asg]
  try simp only [w_var, w_con, w_bin, w_neg, w_not, w_and, w_or, w_ite, w_cmp, w_chain, w_isN, w_tup, w_lst, w_idx, wO_none, wO_some, w_slc, w_blt, w_nilE, w_consE, wTy_some, w_isi, wApp_ref, w_app, wStr_str, w_mt1, w_told, w_calls, wCall_some, MEs.len, d_lenC, d_lenT, wVar_some, wBl_bl, wIt_int, wK_nx, wK_rt, wK_bk, wK_ct, wTg_some, wRt_rt, wRt_nx, wNx_nx, wNx_ct, BK.f, CK.f, FK.f, MK.f, d_addI, d_subI, d_mulI, d_fdivI, d_modI, d_powI, d_addT, d_addS, d_eqI, d_neI, d_ltI, d_leI, d_gtI, d_geI, d_negI, d_int, d_absI, d_idxT, d_idxC, wIx_0, wIx_1, wIx_2, wIx_3, setTg_nm, setTg_tp, setTgs_nil, setTgs_nm, setTgs_tp, Option.bind_some, List.map_cons, List.map_nil, List.cons_append, List.nil_append, List.getElem?_cons_zero, List.getElem?_cons_succ, List.set_cons_zero, List.set_cons_succ, List.replicate_succ, List.replicate_zero, Nat.reduceSub, Nat.reduceAdd, if_true, if_false, Bool.false_eq_true, List.length_cons, List.length_nil, decide_eq_true_eq, Nat.reduceLeDiff, true_and]
  try rw [w_cons, w_asg]
  try simp only [w_var, w_con, w_bin, w_neg, w_not, w_and, w_or, w_ite, w_cmp, w_chain, w_isN, w_tup, w_lst, w_idx, wO_none, wO_some, w_slc, w_blt, w_nilE, w_consE, wTy_some, w_isi, wApp_ref, w_app, wStr_str, w_mt1, w_told, w_calls, wCall_some, MEs.len, d_lenC, d_lenT, wVar_some, wBl_bl, wIt_int, wK_nx, wK_rt, wK_bk, wK_ct, wTg_some, wRt_rt, wRt_nx, wNx_nx, wNx_ct, BK.f, CK.f, FK.f, MK.f, d_addI, d_subI, d_mulI, d_fdivI, d_modI, d_powI, d_addT, d_addS, d_eqI, d_neI, d_ltI, d_leI, d_gtI, d_geI, d_negI, d_int, d_absI, d_idxT, d_idxC, wIx_0, wIx_1, wIx_2, wIx_3, setTg_nm, setTg_tp, setTgs_nil, setTgs_nm, setTgs_tp, Option.bind_some, List.map_cons, List.map_nil, List.cons_append, List.nil_append, List.getElem?_cons_zero, List.getElem?_cons_succ, List.set_cons_zero, List.set_cons_succ, List.replicate_succ, List.replicate_zero, Nat.reduceSub, Nat.reduceAdd, if_true, if_false, Bool.false_eq_true, List.length_cons, List.length_nil, decide_eq_true_eq, Nat.reduceLeDiff, true_and]
  rw [w_cons, w_if]
  simp only [w_var, w_con, w_bin, w_neg, w_not, w_and, w_or, w_ite, w_cmp, w_chain, w_isN, w_tup, w_lst, w_idx, wO_none, wO_some, w_slc, w_blt, w_nilE, w_consE, wTy_some, w_isi, wApp_ref, w_app, wStr_str, w_mt1, w_told, w_calls, wCall_some, MEs.len, d_lenC, d_lenT, wVar_some, wBl_bl, wIt_int, wK_nx, wK_rt, wK_bk, wK_ct, wTg_some, wRt_rt, wRt_nx, wNx_nx, wNx_ct, BK.f, CK.f, FK.f, MK.f, d_addI, d_subI, d_mulI, d_fdivI, d_modI, d_powI, d_addT, d_addS, d_eqI, d_neI, d_ltI, d_leI, d_gtI, d_geI, d_negI, d_int, d_absI, d_idxT, d_idxC, wIx_0, wIx_1, wIx_2, wIx_3, setTg_nm, setTg_tp, setTgs_nil, setTgs_nm, setTgs_tp, Option.bind_some, List.map_cons, List.map_nil, List.cons_append, List.nil_append, List.getElem?_cons_zero, List.getElem?_cons_succ, List.set_cons_zero, List.set_cons_succ, List.replicate_succ, List.replicate_zero, Nat.reduceSub, Nat.reduceAdd, if_true, if_false, Bool.false_eq_true, List.length_cons, List.length_nil, decide_eq_true_eq, Nat.reduceLeDiff, true_and, q_law_plan_text]
  refine (t1 _).mono fun v S2 hv => ?_
  obtain ⟨rfl, _⟩ := hv
  simp only [w_var, w_con, w_bin, w_neg, w_not, w_and, w_or, w_ite, w_cmp, w_chain, w_isN, w_tup, w_lst, w_idx, wO_none, wO_some, w_slc, w_blt, w_nilE, w_consE, wTy_some, w_isi, wApp_ref, w_app, wStr_str, w_mt1, w_told, w_calls, wCall_some, MEs.len, d_lenC, d_lenT, wVar_some, wBl_bl, wIt_int, wK_nx, wK_rt, wK_bk, wK_ct, wTg_some, wRt_rt, wRt_nx, wNx_nx, wNx_ct, BK.f, CK.f, FK.f, MK.f, d_addI, d_subI, d_mulI, d_fdivI, d_modI, d_powI, d_addT, d_addS, d_eqI, d_neI, d_ltI, d_leI, d_gtI, d_geI, d_negI, d_int, d_absI, d_idxT, d_idxC, wIx_0, wIx_1, wIx_2, wIx_3, setTg_nm, setTg_tp, setTgs_nil, setTgs_nm, setTgs_tp, Option.bind_some, List.map_cons, List.map_nil, List.cons_append, List.nil_append, List.getElem?_cons_zero, List.getElem?_cons_succ, List.set_cons_zero, List.set_cons_succ, List.replicate_succ, List.replicate_zero, Nat.reduceSub, Nat.reduceAdd, if_true, if_false, Bool.false_eq_true, List.length_cons, List.length_nil, decide_eq_true_eq, Nat.reduceLeDiff, true_and, ne_same ls (by omega), wpR_ok, q_law_plan_text]
  refine (t2 _).mono fun v S3 hv => ?_
  obtain ⟨rfl, _⟩ := hv
  show wpR (splitD (textT 2 [] b2 []) (.str "\n") S3) _ _
  rw [d_split, text2]
  refine ⟨⟨by decide, by decide +kernel⟩, ?_⟩
  have l3 : Lay 1 (.str "round 0p/_") _ := lay_str 0 (by decide +kernel)
  have g : (S3 ++ [LO.lst [D.str "jugglers 2", .str "begin", .str "round 0p/_", .str "end"]])[S3.length]? = some (.lst [.str "jugglers 2", .str "begin", .str "round 0p/_", .str "end"]) := new_at
  show wpR (idxD (.ref S3.length) (.int 2) (S3 ++ [LO.lst [D.str "jugglers 2", .str "begin", .str "round 0p/_", .str "end"]])) _ _
  rw [d_idxR g, wIx_2]
  try simp only [w_var, w_con, w_bin, w_neg, w_not, w_and, w_or, w_ite, w_cmp, w_chain, w_isN, w_tup, w_lst, w_idx, wO_none, wO_some, w_slc, w_blt, w_nilE, w_consE, wTy_some, w_isi, wApp_ref, w_app, wStr_str, w_mt1, w_told, w_calls, wCall_some, MEs.len, d_lenC, d_lenT, wVar_some, wBl_bl, wIt_int, wK_nx, wK_rt, wK_bk, wK_ct, wTg_some, wRt_rt, wRt_nx, wNx_nx, wNx_ct, BK.f, CK.f, FK.f, MK.f, d_addI, d_subI, d_mulI, d_fdivI, d_modI, d_powI, d_addT, d_addS, d_eqI, d_neI, d_ltI, d_leI, d_gtI, d_geI, d_negI, d_int, d_absI, d_idxT, d_idxC, wIx_0, wIx_1, wIx_2, wIx_3, setTg_nm, setTg_tp, setTgs_nil, setTgs_nm, setTgs_tp, Option.bind_some, List.map_cons, List.map_nil, List.cons_append, List.nil_append, List.getElem?_cons_zero, List.getElem?_cons_succ, List.set_cons_zero, List.set_cons_succ, List.replicate_succ, List.replicate_zero, Nat.reduceSub, Nat.reduceAdd, if_true, if_false, Bool.false_eq_true, List.length_cons, List.length_nil, decide_eq_true_eq, Nat.reduceLeDiff, true_and, ne_same l3 (by omega), wpR_ok]
  try rw [w_nil, wK_nx, w_cons, w_ret]
  try simp only [w_var, w_con, w_bin, w_neg, w_not, w_and, w_or, w_ite, w_cmp, w_chain, w_isN, w_tup, w_lst, w_idx, wO_none, wO_some, w_slc, w_blt, w_nilE, w_consE, wTy_some, w_isi, wApp_ref, w_app, wStr_str, w_mt1, w_told, w_calls, wCall_some, MEs.len, d_lenC, d_lenT, wVar_some, wBl_bl, wIt_int, wK_nx, wK_rt, wK_bk, wK_ct, wTg_some, wRt_rt, wRt_nx, wNx_nx, wNx_ct, BK.f, CK.f, FK.f, MK.f, d_addI, d_subI, d_mulI, d_fdivI, d_modI, d_powI, d_addT, d_addS, d_eqI, d_neI, d_ltI, d_leI, d_gtI, d_geI, d_negI, d_int, d_absI, d_idxT, d_idxC, wIx_0, wIx_1, wIx_2, wIx_3, setTg_nm, setTg_tp, setTgs_nil, setTgs_nm, setTgs_tp, Option.bind_some, List.map_cons, List.map_nil, List.cons_append, List.nil_append, List.getElem?_cons_zero, List.getElem?_cons_succ, List.set_cons_zero, List.set_cons_succ, List.replicate_succ, List.replicate_zero, Nat.reduceSub, Nat.reduceAdd, if_true, if_false, Bool.false_eq_true, List.length_cons, List.length_nil, decide_eq_true_eq, Nat.reduceLeDiff, true_and, q_law_read_plan]
  refine (r1 _).mono fun v S4 hv => ?_
  obtain ⟨rfl, _⟩ := hv
  have e4 : ∀ S, eqD (.tup [.int 1, .tup [], .tup b1, .tup c1]) (.tup [.int 1, .tup [], .tup b1, .tup c1]) S = .ok (.bl true) S := fun S => eq_same lp (by omega)
  refine wpR.of (e4 _) ?_
  rfl
theorem hden : ∀ (ns : List Int), ∀ d S, (d = .lstc (ns.map .int) ∧ S = []) ∨ (d = .ref 0 ∧ S = [.lst (ns.map .int)]) → ∃ S', T.d_law [d] S = .ok (.bl true) S' := by
  intro ns d S h
  have sc : Scr S d ns := by
    rcases h with ⟨rfl, rfl⟩ | ⟨rfl, rfl⟩
    · exact .inl rfl
    · exact .inr ⟨0, rfl, rfl⟩
  obtain ⟨v, S', e, rfl⟩ := (law_true sc).ex
  exact ⟨S', e⟩
end T

end
theorem PySem.Challenge.cw_anyballs_k12_whole_texts_of_plans_holds : PySem.Challenge.rw_anyballs_k12_whole_texts_of_plans.Holds :=
  T.holds fun ns _ _ => T.hden ns
