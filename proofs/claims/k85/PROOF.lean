import PyProof.Rows.All
import Wide.All
import OpenK.AllK
import Wide.FinOn
import HandS.ForMost
import HandS.Exc
import HandS.WordsExc
import HandS.Wide
import HandS.IsInst
import HandS.Style
import HandS.TupAny
import HandS.TupLe
import HandS.Deep
import HandS.CallSlots
import HandS.Ends
import HandS.EndBits
import HandS.Zip
import HandS.ExcOwn
import HandS.SortInts
import HandS.StrMore
import HandS.More
import HandS.Conv
import HandS.SetKeys
import PySem.Challenge.RW_oneowner_k85_whole_heaps_by_their_words
set_option Elab.async false
set_option linter.all false
set_option maxRecDepth 100000
set_option maxHeartbeats 4000000
set_option autoImplicit false
/-! DL1: values as data (D), a store of changing objects (Sto), programs as plain functions over them, and how they lie in the heap. -/
namespace DL
open PySem PySem.Spec PyProof.Rows L2

/-- a value: plain data to any depth; a changing object by its place in the store -/
inductive D where
  | non
  | bl (b : Bool)
  | int (i : Int)
  | str (x : Str)
  | tup (ds : List D)
  | lst (ds : List D)
  | fro (ds : List D)
  | dic (kvs : List (Key × D))
  | ref (n : Nat)
  | raw (v : V)

/-- a changing object -/
inductive Ob where
  | lst (ds : List D)
  | dK (kvs : List (Key × D))
  | dT (kvs : List (List Key × D))
  | ins (c : Str) (fs : List (Str × D))

abbrev Sto := List Ob
/-- an exception of an own class, with its fields -/
structure Exn where
  cls : Str
  fs : List (Str × D)

/-- what a run gives -/
inductive R (α : Type) where
  | ok (a : α) (st : Sto)
  | exc (x : Exn) (st : Sto)
  | bad

@[reducible] def R.bind {α β : Type} (r : R α) (k : α → Sto → R β) : R β := match r with
  | .ok a st => k a st
  | .exc x st => .exc x st
  | .bad => .bad

abbrev En := List (Option D)
abbrev DE := En → Sto → R D
abbrev DT := En → Sto → R Bool
abbrev DA := En → Sto → R (List D)
/-- a def -/
abbrev DF := List D → Sto → R D

/-! ### how data lies in the heap -/
/-- the addresses of the store's objects; addresses of things that are being made -/
structure Mp where
  m : List Addr
  x : List Addr
instance : Membership Addr Mp := ⟨fun as a => a ∈ as.m ∨ a ∈ as.x⟩
abbrev Mp.push (as : Mp) (p : Addr) : Mp := ⟨as.m ++ [p], as.x⟩
abbrev Mp.hide (as : Mp) (p : Addr) : Mp := ⟨as.m, p :: as.x⟩
theorem Mp.mem {as : Mp} {a : Addr} : a ∈ as ↔ a ∈ as.m ∨ a ∈ as.x := Iff.rfl
/-- a tuple, a list that nobody changes -/
def StT (K : PySem.W.Frag) (as : Mp) (H : Hp) (a : Addr) (xs : List V) : Prop :=
  (a ∉ as ∧ H a = some (.tup xs)) ∨
    ∃ (o : Obj) (its : Array Value) (n : Nat), K.lookup a = some o ∧ o.cls = .type "tuple" ∧ o.data = .seq its n ∧ its.size ≤ sizeLine ∧ Vals xs its.toList
/-- a list of the text's, or the script -/
def StF (K : PySem.W.Frag) (as : Mp) (H : Hp) (a : Addr) (xs : List V) : Prop :=
  (a ∉ as ∧ ∃ o, H a = some (.frz o (.lst xs))) ∨
    ∃ (o : Obj) (its : Array Value) (n : Nat), K.lookup a = some o ∧ o.cls = .type "list" ∧ o.dict = none ∧ o.data = .seq its n ∧ its.size ≤ sizeLine ∧ Vals xs its.toList
theorem StT.t {K : PySem.W.Frag} {as : Mp} {H : Hp} {a : Addr} {xs : List V} (h : StT K as H a xs) : SqT K H a xs := h.imp (fun z => .inl z.2) id
theorem StF.l {K : PySem.W.Frag} {as : Mp} {H : Hp} {a : Addr} {xs : List V} (h : StF K as H a xs) : SqL K H a xs := h.imp (fun z => .inr z.2) id

mutual
inductive Rep (K : PySem.W.Frag) (as : Mp) (H : Hp) : D → V → Prop
  | non : Rep K as H .non .non
  | bl (b : Bool) : Rep K as H (.bl b) (.bl b)
  | int (i : Int) : Rep K as H (.int i) (.int i)
  | str (x : Str) : Rep K as H (.str x) (.str x)
  | tup {a : Addr} {ds : List D} {xs : List V} : StT K as H a xs → Reps K as H ds xs → Rep K as H (.tup ds) (.ref a)
  | lst {a : Addr} {ds : List D} {xs : List V} : a ∉ as → H a = some (.lst xs) → Reps K as H ds xs → Rep K as H (.lst ds) (.ref a)
  | fro {a : Addr} {ds : List D} {xs : List V} : StF K as H a xs → Reps K as H ds xs → Rep K as H (.fro ds) (.ref a)
  | dic {a : Addr} {kvs : List (Key × D)} {kvx : List (Key × V)} : a ∉ as → H a = some (.dK kvx) → RepK K as H kvs kvx → Rep K as H (.dic kvs) (.ref a)
  | ref {n : Nat} {a : Addr} : as.m[n]? = some a → Rep K as H (.ref n) (.ref a)
  | raw (v : V) : Rep K as H (.raw v) v
inductive Reps (K : PySem.W.Frag) (as : Mp) (H : Hp) : List D → List V → Prop
  | nil : Reps K as H [] []
  | cons {d : D} {v : V} {ds : List D} {vs : List V} : Rep K as H d v → Reps K as H ds vs → Reps K as H (d :: ds) (v :: vs)
inductive RepK (K : PySem.W.Frag) (as : Mp) (H : Hp) : List (Key × D) → List (Key × V) → Prop
  | nil : RepK K as H [] []
  | cons {k : Key} {d : D} {v : V} {ds : List (Key × D)} {vs : List (Key × V)} : Rep K as H d v → RepK K as H ds vs → RepK K as H ((k, d) :: ds) ((k, v) :: vs)
end
/-- fields, other keyed rows -/
inductive RepF (K : PySem.W.Frag) (as : Mp) (H : Hp) {κ : Type} : List (κ × D) → List (κ × V) → Prop
  | nil : RepF K as H [] []
  | cons {k : κ} {d : D} {v : V} {ds : List (κ × D)} {vs : List (κ × V)} : Rep K as H d v → RepF K as H ds vs → RepF K as H ((k, d) :: ds) ((k, v) :: vs)

/-- the classes' addresses -/
abbrev Cl := Str → Addr
inductive RepO (K : PySem.W.Frag) (cl : Cl) (as : Mp) (H : Hp) : Ob → HO → Prop
  | lst {ds : List D} {xs : List V} : Reps K as H ds xs → RepO K cl as H (.lst ds) (.lst xs)
  | dK {kvs : List (Key × D)} {kvx : List (Key × V)} : RepF K as H kvs kvx → RepO K cl as H (.dK kvs) (.dK kvx)
  | dT {kvs : List (List Key × D)} {kvx : List (List Key × V)} : RepF K as H kvs kvx → RepO K cl as H (.dT kvs) (.dT kvx)
  | ins {c : Str} {dx : Addr} {fs : List (Str × D)} {fx : List (Str × V)} : RepF K as H fs fx → RepO K cl as H (.ins c fs) (.ins (cl c) dx fx)

/-- the store lies in the heap -/
structure Wd (K : PySem.W.Frag) (cl : Cl) (as : Mp) (st : Sto) (H : Hp) : Prop where
  len : as.m.length = st.length
  nd : as.m.Nodup
  sep : ∀ a, a ∈ as.m → a ∉ as.x
  lv : ∀ a, a ∈ as.x → ∃ o, H a = some o
  ob : ∀ (n : Nat) (o : Ob), st[n]? = some o → ∃ a h, as.m[n]? = some a ∧ H a = some h ∧ RepO K cl as H o h

/-- the world goes on: new objects, changes of the store's objects, nothing else changed -/
structure Evo (as : Mp) (H : Hp) (as' : Mp) (H' : Hp) : Prop where
  ext : ∃ bs, as'.m = as.m ++ bs ∧ ∀ b ∈ bs, H b = none
  exx : as'.x = as.x
  kx : ∀ a, a ∈ as.x → H' a = H a
  keep : ∀ a o, H a = some o → a ∉ as → H' a = some o
  live : ∀ a o, H a = some o → ∃ o', H' a = some o'

section
variable {K : PySem.W.Frag} {cl : Cl} {as as' as'' : Mp} {H H' H'' : Hp}
theorem Evo.refl : Evo as H as H := ⟨⟨[], by simp, by simp⟩, rfl, fun _ _ => rfl, fun _ _ h _ => h, fun _ o h => ⟨o, h⟩⟩
theorem Evo.out (e : Evo as H as' H') {a : Addr} {o : HO} (h : H a = some o) (n : a ∉ as) : a ∉ as' := by
  obtain ⟨bs, e1, hb⟩ := e.ext
  intro z
  rcases z with z | z
  · rw [e1] at z
    rcases List.mem_append.mp z with z | z
    · exact n (.inl z)
    · rw [hb a z] at h; cases h
  · rw [e.exx] at z
    exact n (.inr z)
theorem Evo.trans (e : Evo as H as' H') (f : Evo as' H' as'' H'') : Evo as H as'' H'' := by
  refine ⟨?_, f.exx.trans e.exx, fun a ha => (f.kx a (by rw [e.exx]; exact ha)).trans (e.kx a ha), fun a o h n => f.keep a o (e.keep a o h n) (e.out h n), fun a o h => ?_⟩
  · obtain ⟨bs, e1, hb⟩ := e.ext
    obtain ⟨cs, e2, hc⟩ := f.ext
    refine ⟨bs ++ cs, by rw [e2, e1, List.append_assoc], fun b hm => ?_⟩
    rcases List.mem_append.mp hm with hm | hm
    · exact hb b hm
    · cases h : H b with
      | none => rfl
      | some o =>
        obtain ⟨o', h'⟩ := e.live b o h
        rw [hc b hm] at h'; cases h'
  · obtain ⟨o', h'⟩ := e.live a o h
    exact f.live a o' h'
/-- how data move along -/
structure Mv (as : Mp) (H : Hp) (as' : Mp) (H' : Hp) : Prop where
  m : ∃ bs, as'.m = as.m ++ bs
  k : ∀ a o, H a = some o → a ∉ as → a ∉ as' ∧ H' a = some o
theorem Mv.at (l : Mv as H as' H') {n : Nat} {a : Addr} (h : as.m[n]? = some a) : as'.m[n]? = some a := by
  obtain ⟨bs, e⟩ := l.m
  rw [e, List.getElem?_append_left (List.getElem?_eq_some_iff.mp h).1]; exact h
theorem StT.mv (e : Mv as H as' H') {a : Addr} {xs : List V} (h : StT K as H a xs) : StT K as' H' a xs := h.imp (fun z => e.k _ _ z.2 z.1) id
theorem StF.mv (e : Mv as H as' H') {a : Addr} {xs : List V} (h : StF K as H a xs) : StF K as' H' a xs :=
  h.imp (fun ⟨n, o, z⟩ => let q := e.k _ _ z n; ⟨q.1, o, q.2⟩) id
mutual
theorem Rep.mv (e : Mv as H as' H') : ∀ {d : D} {v : V}, Rep K as H d v → Rep K as' H' d v
  | _, _, .non => .non
  | _, _, .bl b => .bl b
  | _, _, .int i => .int i
  | _, _, .str x => .str x
  | _, _, .tup s r => .tup (s.mv e) (Reps.mv e r)
  | _, _, .lst n h r => let q := e.k _ _ h n; .lst q.1 q.2 (Reps.mv e r)
  | _, _, .fro s r => .fro (s.mv e) (Reps.mv e r)
  | _, _, .dic n h r => let q := e.k _ _ h n; .dic q.1 q.2 (RepK.mv e r)
  | _, _, .ref h => .ref (e.at h)
  | _, _, .raw v => .raw v
theorem Reps.mv (e : Mv as H as' H') : ∀ {ds : List D} {vs : List V}, Reps K as H ds vs → Reps K as' H' ds vs
  | _, _, .nil => .nil
  | _, _, .cons r t => .cons (Rep.mv e r) (Reps.mv e t)
theorem RepK.mv (e : Mv as H as' H') : ∀ {ds : List (Key × D)} {vs : List (Key × V)}, RepK K as H ds vs → RepK K as' H' ds vs
  | _, _, .nil => .nil
  | _, _, .cons r t => .cons (Rep.mv e r) (RepK.mv e t)
end
theorem RepF.mv {κ : Type} (e : Mv as H as' H') : ∀ {ds : List (κ × D)} {vs : List (κ × V)}, RepF K as H ds vs → RepF K as' H' ds vs
  | _, _, .nil => .nil
  | _, _, .cons r t => .cons (r.mv e) (RepF.mv e t)
theorem RepO.mv (e : Mv as H as' H') : ∀ {o : Ob} {h : HO}, RepO K cl as H o h → RepO K cl as' H' o h
  | _, _, .lst r => .lst (r.mv e)
  | _, _, .dK r => .dK (r.mv e)
  | _, _, .dT r => .dT (r.mv e)
  | _, _, .ins r => .ins (r.mv e)
theorem Evo.mv (e : Evo as H as' H') : Mv as H as' H' := ⟨let ⟨bs, h, _⟩ := e.ext; ⟨bs, h⟩, fun a o h n => ⟨e.out h n, e.keep a o h n⟩⟩
theorem Evo.get (e : Evo as H as' H') {n : Nat} {a : Addr} (h : as.m[n]? = some a) : as'.m[n]? = some a := e.mv.at h
theorem Rep.evo (e : Evo as H as' H') {d : D} {v : V} (r : Rep K as H d v) : Rep K as' H' d v := r.mv e.mv
theorem Reps.evo (e : Evo as H as' H') {d : List D} {v : List V} (r : Reps K as H d v) : Reps K as' H' d v := r.mv e.mv
theorem RepF.evo {κ : Type} (e : Evo as H as' H') {ds : List (κ × D)} {vs : List (κ × V)} (r : RepF K as H ds vs) : RepF K as' H' ds vs := r.mv e.mv
theorem RepO.evo (e : Evo as H as' H') {o : Ob} {h : HO} (r : RepO K cl as H o h) : RepO K cl as' H' o h := r.mv e.mv
theorem Reps.len : ∀ {ds : List D} {vs : List V}, Reps K as H ds vs → ds.length = vs.length
  | _, _, .nil => rfl
  | _, _, .cons _ t => by rw [List.length_cons, List.length_cons, Reps.len t]
theorem Reps.get : ∀ {ds : List D} {vs : List V} {i : Nat} {d : D}, Reps K as H ds vs → ds[i]? = some d → ∃ v, vs[i]? = some v ∧ Rep K as H d v
  | _, _, _, _, .nil, e => by simp at e
  | _, _, 0, _, .cons r _, e => by simp at e; subst e; exact ⟨_, rfl, r⟩
  | _, _, i + 1, d, .cons _ t, e => by
    obtain ⟨v, h1, h2⟩ := Reps.get (i := i) (d := d) t (by simpa using e)
    exact ⟨v, by simpa using h1, h2⟩
theorem Reps.append : ∀ {ds es : List D} {vs ws : List V}, Reps K as H ds vs → Reps K as H es ws → Reps K as H (ds ++ es) (vs ++ ws)
  | _, _, _, _, .nil, s => s
  | _, _, _, _, .cons r t, s => .cons r (Reps.append t s)
theorem Reps.take : ∀ {ds : List D} {vs : List V} (n : Nat), Reps K as H ds vs → Reps K as H (ds.take n) (vs.take n)
  | _, _, 0, _ => .nil
  | _, _, _ + 1, .nil => .nil
  | _, _, n + 1, .cons r t => .cons r (Reps.take n t)
theorem Reps.drop : ∀ {ds : List D} {vs : List V} (n : Nat), Reps K as H ds vs → Reps K as H (ds.drop n) (vs.drop n)
  | _, _, 0, r => r
  | _, _, _ + 1, .nil => .nil
  | _, _, n + 1, .cons _ t => Reps.drop n t
theorem Reps.set {d : D} {v : V} (r : Rep K as H d v) : ∀ {ds : List D} {vs : List V} (i : Nat), Reps K as H ds vs → Reps K as H (ds.set i d) (vs.set i v)
  | _, _, _, .nil => .nil
  | _, _, 0, .cons _ t => .cons r t
  | _, _, i + 1, .cons q t => .cons q (Reps.set r i t)
theorem Reps.reverse : ∀ {ds : List D} {vs : List V}, Reps K as H ds vs → Reps K as H ds.reverse vs.reverse
  | _, _, .nil => .nil
  | _, _, .cons r t => by rw [List.reverse_cons, List.reverse_cons]; exact (Reps.reverse t).append (.cons r .nil)

/-! ### the names -/
structure RepE (K : PySem.W.Frag) (as : Mp) (H : Hp) (σ : En) (τ : L2.St) : Prop where
  len : σ.length = τ.length
  get : ∀ (i : Nat) (d : D), σ[i]? = some (some d) → ∃ v, τ[i]? = some (some v) ∧ Rep K as H d v
theorem RepE.mv {σ : En} {τ : L2.St} (e : Mv as H as' H') (r : RepE K as H σ τ) : RepE K as' H' σ τ :=
  ⟨r.len, fun i d h => let ⟨v, h1, h2⟩ := r.get i d h; ⟨v, h1, h2.mv e⟩⟩
theorem RepE.evo {σ : En} {τ : L2.St} (e : Evo as H as' H') (r : RepE K as H σ τ) : RepE K as' H' σ τ := r.mv e.mv
theorem RepE.set {σ : En} {τ : L2.St} {d : D} {v : V} (r : RepE K as H σ τ) (i : Nat) (q : Rep K as H d v) : RepE K as H (σ.set i (some d)) (τ.set i (some v)) := by
  refine ⟨by rw [List.length_set, List.length_set, r.len], fun j e h => ?_⟩
  by_cases hj : j = i
  · subst hj
    by_cases hl : j < σ.length
    · rw [List.getElem?_set_self hl] at h
      cases h
      exact ⟨v, List.getElem?_set_self (by rw [← r.len]; exact hl), q⟩
    · rw [List.getElem?_eq_none (by simpa using hl)] at h; cases h
  · rw [List.getElem?_set_ne (Ne.symm hj)] at h ⊢
    exact r.get j e h
theorem RepE.unset {σ : En} {τ : L2.St} (r : RepE K as H σ τ) (i : Nat) : RepE K as H (σ.set i none) (τ.set i none) := by
  refine ⟨by rw [List.length_set, List.length_set, r.len], fun j e h => ?_⟩
  by_cases hj : j = i
  · subst hj
    by_cases hl : j < σ.length
    · rw [List.getElem?_set_self hl] at h; cases h
    · rw [List.getElem?_eq_none (by simpa using hl)] at h; cases h
  · rw [List.getElem?_set_ne (Ne.symm hj)] at h ⊢
    exact r.get j e h
def wipeD (σ : En) : List Nat → En
  | [] => σ
  | v :: vs => (wipeD σ vs).set v none
theorem RepE.wipe {σ : En} {τ : L2.St} (r : RepE K as H σ τ) : ∀ vs : List Nat, RepE K as H (wipeD σ vs) (L2.wipe τ vs)
  | [] => r
  | v :: vs => (r.wipe vs).unset v
/-- the start -/
def startD (n : Nat) (ds : List D) : En := ds.map some ++ List.replicate (n - ds.length) none
theorem RepE.start {N : List Str} {ds : List D} {vs : List V} (r : Reps K as H ds vs) : RepE K as H (startD N.length ds) (L2.start N vs) := by
  have hl := r.len
  refine ⟨by unfold startD L2.start; simp [hl], fun i d h => ?_⟩
  unfold startD at h
  by_cases hi : i < ds.length
  · rw [List.getElem?_append_left (by simpa using hi), List.getElem?_map] at h
    cases e : ds[i]? with
    | none => rw [e] at h; cases h
    | some d' =>
      rw [e] at h; cases h
      obtain ⟨v, h1, h2⟩ := r.get e
      refine ⟨v, ?_, h2⟩
      unfold L2.start
      rw [List.getElem?_append_left (by simpa using (List.getElem?_eq_some_iff.mp h1).1), List.getElem?_map, h1]
      rfl
  · rw [List.getElem?_append_right (by simpa using hi), List.getElem?_replicate] at h
    split at h <;> cases h

/-! ### the store -/
variable {st st' : Sto}
theorem Wd.at (w : Wd K cl as st H) {n : Nat} {a : Addr} {o : Ob} (ha : as.m[n]? = some a) (ho : st[n]? = some o) : ∃ h, H a = some h ∧ RepO K cl as H o h := by
  obtain ⟨b, h, e, h1, h2⟩ := w.ob n o ho
  rw [ha] at e; cases e
  exact ⟨h, h1, h2⟩
theorem Wd.mv (w : Wd K cl as st H) (e : Mv as H as H') (l : ∀ a, a ∈ as.x → ∃ o, H' a = some o) (h : ∀ a, a ∈ as.m → H' a = H a) : Wd K cl as st H' :=
  ⟨w.len, w.nd, w.sep, l, fun n o ho => by
    obtain ⟨a, u, h1, h2, h3⟩ := w.ob n o ho
    exact ⟨a, u, h1, by rw [h a (List.mem_of_getElem? h1)]; exact h2, h3.mv e⟩⟩
/-- the addresses are known -/
theorem Wd.has (w : Wd K cl as st H) {a : Addr} (h : a ∈ as) : ∃ o, H a = some o := by
  rcases h with h | h
  · obtain ⟨n, hn, e⟩ := List.getElem_of_mem h
    have hl : n < st.length := by rw [← w.len]; exact hn
    obtain ⟨b, u, h1, h2, _⟩ := w.ob n _ (List.getElem?_eq_getElem hl)
    rw [List.getElem?_eq_getElem hn, e] at h1
    cases h1
    exact ⟨u, h2⟩
  · exact w.lv a h
theorem mem_m {n : Nat} {a : Addr} (h : as.m[n]? = some a) : a ∈ as := .inl (List.mem_of_getElem? h)
/-- a new thing that nobody changes -/
theorem Wd.ne (w : Wd K cl as st H) {p a : Addr} (hp : H p = none) (ha : a ∈ as) : a ≠ p := by
  obtain ⟨o, h⟩ := w.has ha
  exact ne_of_none h hp
theorem Evo.new (w : Wd K cl as st H) {p : Addr} {o : HO} (hp : H p = none) : Evo as H as (upd H p o) :=
  ⟨⟨[], by simp, by simp⟩, rfl, fun a ha => upd_ne (w.ne hp (.inr ha)), fun a u h _ => by rw [upd_ne (ne_of_none h hp)]; exact h, fun a u h => ⟨u, by rw [upd_ne (ne_of_none h hp)]; exact h⟩⟩
theorem Wd.new (w : Wd K cl as st H) {p : Addr} {o : HO} (hp : H p = none) : Wd K cl as st (upd H p o) :=
  w.mv (Evo.new w hp).mv (fun a ha => let ⟨o, h⟩ := w.lv a ha; ⟨o, by rw [upd_ne (w.ne hp (.inr ha))]; exact h⟩) fun a ha => upd_ne (w.ne hp (.inl ha))
theorem Wd.nin (w : Wd K cl as st H) {p : Addr} (hp : H p = none) : p ∉ as := fun z => by
  obtain ⟨u, h⟩ := w.has z
  rw [hp] at h; cases h
/-- a new object of the store -/
theorem Evo.push (w : Wd K cl as st H) {p : Addr} {o : HO} (hp : H p = none) : Evo as H (as.push p) (upd H p o) :=
  ⟨⟨[p], rfl, fun b hb => by rw [List.mem_singleton.mp hb]; exact hp⟩, rfl, fun a ha => upd_ne (w.ne hp (.inr ha)), fun a u h _ => by rw [upd_ne (ne_of_none h hp)]; exact h, fun a u h => ⟨u, by rw [upd_ne (ne_of_none h hp)]; exact h⟩⟩
theorem Wd.push (w : Wd K cl as st H) {p : Addr} {o : Ob} {h : HO} (hp : H p = none) (r : RepO K cl as H o h) : Wd K cl (as.push p) (st ++ [o]) (upd H p h) := by
  have e := Evo.push w (o := h) hp
  refine ⟨by simp [w.len], ?_, fun a ha => ?_, fun a ha => let ⟨o, h⟩ := w.lv a ha; e.live a o h, fun n ob hn => ?_⟩
  · rw [List.nodup_append]
    exact ⟨w.nd, by simp, fun a ha b hb z => w.nin hp (by rw [← List.mem_singleton.mp hb, ← z]; exact .inl ha)⟩
  · rcases List.mem_append.mp ha with ha | ha
    · exact w.sep a ha
    · rw [List.mem_singleton.mp ha]
      exact fun z => w.nin hp (.inr z)
  · by_cases hl : n < st.length
    · rw [List.getElem?_append_left hl] at hn
      obtain ⟨a, u, h1, h2, h3⟩ := w.ob n ob hn
      exact ⟨a, u, e.get h1, by rw [upd_ne (ne_of_none h2 hp)]; exact h2, h3.evo e⟩
    · rw [List.getElem?_append_right (by omega)] at hn
      have h0 : n - st.length = 0 := by
        rcases Nat.eq_zero_or_pos (n - st.length) with z | z
        · exact z
        · rw [List.getElem?_eq_none (by simp; omega)] at hn; cases hn
      rw [h0] at hn
      cases hn
      have hnn : n = as.m.length := by have := w.len; omega
      subst hnn
      exact ⟨p, h, by simp, upd_same, r.evo e⟩
/-- an object changed -/
theorem Evo.wr (w : Wd K cl as st H) {n : Nat} {a : Addr} {o : HO} (ha : as.m[n]? = some a) : Evo as H as (upd H a o) :=
  ⟨⟨[], by simp, by simp⟩, rfl, fun b hb => upd_ne fun z => w.sep a (List.mem_of_getElem? ha) (by rw [← z]; exact hb), fun b v hb n => by rw [upd_ne (fun z => n (by rw [z]; exact mem_m ha))]; exact hb, fun b v hb => by
    by_cases z : b = a
    · subst z; exact ⟨o, upd_same⟩
    · exact ⟨v, by rw [upd_ne z]; exact hb⟩⟩
theorem Wd.wr (w : Wd K cl as st H) {n : Nat} {a : Addr} {o : Ob} {h : HO} (ha : as.m[n]? = some a) (r : RepO K cl as H o h) : Wd K cl as (st.set n o) (upd H a h) := by
  obtain ⟨u, hu⟩ := w.has (mem_m ha)
  have e := Evo.wr w (o := h) ha
  refine ⟨by simp [w.len], w.nd, w.sep, fun a ha => let ⟨o, h⟩ := w.lv a ha; e.live a o h, fun m ob hm => ?_⟩
  by_cases hmn : m = n
  · subst hmn
    by_cases hl : m < st.length
    · rw [List.getElem?_set_self hl] at hm; cases hm
      exact ⟨a, h, ha, upd_same, r.evo e⟩
    · rw [List.getElem?_eq_none (by simpa using hl)] at hm; cases hm
  · rw [List.getElem?_set_ne (Ne.symm hmn)] at hm
    obtain ⟨b, v, h1, h2, h3⟩ := w.ob m ob hm
    refine ⟨b, v, h1, ?_, h3.evo e⟩
    rw [upd_ne ?_]; exact h2
    intro z
    subst z
    exact hmn (nd_ix w.nd h1 ha)
/-! ### a thing in the making -/
theorem Mv.side {p : Addr} {o : HO} (hp : p ∈ as) : Mv as H as (upd H p o) := ⟨⟨[], by simp⟩, fun a u h n => ⟨n, by rw [upd_ne fun z => n (by rw [z]; exact hp)]; exact h⟩⟩
theorem Wd.wrx (w : Wd K cl as st H) {a : Addr} {h : HO} (ha : a ∈ as.x) : Wd K cl as st (upd H a h) :=
  w.mv (Mv.side (.inr ha)) (fun b hb => by
    by_cases z : b = a
    · subst z; exact ⟨h, upd_same⟩
    · obtain ⟨o, q⟩ := w.lv b hb
      exact ⟨o, by rw [upd_ne z]; exact q⟩) fun b hb => upd_ne fun z => w.sep b hb (by rw [z]; exact ha)
theorem Mv.hide {p : Addr} {o : HO} (hp : H p = none) : Mv as H (as.hide p) (upd H p o) := ⟨⟨[], by simp⟩, fun a u h n => by
  have hne := ne_of_none h hp
  refine ⟨fun z => ?_, by rw [upd_ne hne]; exact h⟩
  rcases z with z | z
  · exact n (.inl z)
  · rcases List.mem_cons.mp z with z | z
    · exact hne z
    · exact n (.inr z)⟩
theorem Wd.hide {p : Addr} {o : HO} (hp : H p = none) (w : Wd K cl as st H) : Wd K cl (as.hide p) st (upd H p o) :=
  ⟨w.len, w.nd, fun a ha z => by
    rcases List.mem_cons.mp z with z | z
    · subst z; exact w.nin hp (.inl ha)
    · exact w.sep a ha z, fun a ha => by
    rcases List.mem_cons.mp ha with z | z
    · subst z; exact ⟨o, upd_same⟩
    · obtain ⟨u, h⟩ := w.lv a z
      exact ⟨u, by rw [upd_ne (ne_of_none h hp)]; exact h⟩, fun n b hb => by
    obtain ⟨a, u, h1, h2, h3⟩ := w.ob n b hb
    exact ⟨a, u, h1, by rw [upd_ne (ne_of_none h2 hp)]; exact h2, h3.mv (Mv.hide hp)⟩⟩
/-- the world around a thing at p that is being made, since H -/
structure Mk1 (as : Mp) (H : Hp) (p : Addr) (as' : Mp) (H' : Hp) : Prop where
  free : H p = none
  evo : Evo as H ⟨as'.m, as.x⟩ H'
  x : as'.x = p :: as.x
theorem Mk1.start (w : Wd K cl as st H) {p : Addr} {o : HO} (hp : H p = none) : Mk1 as H p (as.hide p) (upd H p o) := ⟨hp, Evo.new w hp, rfl⟩
theorem Mk1.next {p : Addr} (e : Mk1 as H p as' H') (f : Evo as' H' as'' H'') (w0 : Wd K cl as st H) : Mk1 as H p as'' H'' ∧ H'' p = H' p := by
  have hp : p ∈ as'.x := by rw [e.x]; exact List.mem_cons_self
  refine ⟨⟨e.free, ?_, by rw [f.exx, e.x]⟩, f.kx p hp⟩
  obtain ⟨bs, h1, h2⟩ := e.evo.ext
  obtain ⟨cs, h3, h4⟩ := f.ext
  have sx : ∀ a, a ∈ as.x → a ∈ as'.x := fun a ha => by rw [e.x]; exact List.mem_cons_of_mem _ ha
  refine ⟨⟨bs ++ cs, by show as''.m = _; rw [h3, show as'.m = as.m ++ bs from h1, List.append_assoc], fun b hb => ?_⟩, rfl, fun a ha => (f.kx a (sx a ha)).trans (e.evo.kx a ha), fun a o h n => ?_, fun a o h => ?_⟩
  · rcases List.mem_append.mp hb with z | z
    · exact h2 b z
    · cases h : H b with
      | none => rfl
      | some o =>
        obtain ⟨o', h'⟩ := e.evo.live b o h
        rw [h4 b z] at h'; cases h'
  · have q := e.evo.out h n
    refine f.keep a o (e.evo.keep a o h n) fun z => ?_
    rcases z with z | z
    · exact q (.inl z)
    · rw [e.x] at z
      rcases List.mem_cons.mp z with z | z
      · exact ne_of_none h e.free z
      · exact n (.inr z)
  · obtain ⟨o', h'⟩ := e.evo.live a o h
    exact f.live a o' h'
/-- the thing changes -/
theorem Mk1.set {p : Addr} {o : HO} (e : Mk1 as H p as' H') (w0 : Wd K cl as st H) : Mk1 as H p as' (upd H' p o) := by
  refine ⟨e.free, ⟨e.evo.ext, rfl, fun a ha => ?_, fun a u h n => ?_, fun a u h => ?_⟩, e.x⟩
  · rw [upd_ne (w0.ne e.free (.inr ha))]; exact e.evo.kx a ha
  · rw [upd_ne (ne_of_none h e.free)]; exact e.evo.keep a u h n
  · rw [upd_ne (ne_of_none h e.free)]; exact e.evo.live a u h
theorem Mk1.mv {p : Addr} (e : Mk1 as H p as' H') : Mv as' H' ⟨as'.m, as.x⟩ H' := ⟨⟨[], by simp⟩, fun a o h n => ⟨fun z => n (z.imp id fun z => by rw [e.x]; exact List.mem_cons_of_mem _ z), h⟩⟩
theorem Mk1.mem {p : Addr} (e : Mk1 as H p as' H') : p ∈ as'.x := by rw [e.x]; exact List.mem_cons_self
/-- in the end a thing that nobody changes -/
theorem Mk1.fix {p : Addr} (e : Mk1 as H p as' H') (w0 : Wd K cl as st H) (w : Wd K cl as' st' H') : Wd K cl ⟨as'.m, as.x⟩ st' H' ∧ p ∉ (⟨as'.m, as.x⟩ : Mp) := by
  have sx : ∀ a, a ∈ as.x → a ∈ as'.x := fun a ha => by rw [e.x]; exact List.mem_cons_of_mem _ ha
  refine ⟨⟨w.len, w.nd, fun a ha z => w.sep a ha (sx a z), fun a ha => w.lv a (sx a ha), fun n b hb => ?_⟩, fun z => ?_⟩
  · obtain ⟨a, u, h1, h2, h3⟩ := w.ob n b hb
    exact ⟨a, u, h1, h2, h3.mv e.mv⟩
  · rcases z with z | z
    · exact w.sep p z e.mem
    · exact w0.nin e.free (.inr z)
/-- in the end an object of the store -/
theorem Mk1.push {p : Addr} {b : Ob} {h : HO} (e : Mk1 as H p as' H') (w0 : Wd K cl as st H) (w : Wd K cl as' st' H') (hp : H' p = some h) (r : RepO K cl as' H' b h) :
    Evo as H ⟨as'.m ++ [p], as.x⟩ H' ∧ Wd K cl ⟨as'.m ++ [p], as.x⟩ (st' ++ [b]) H' := by
  have sx : ∀ a, a ∈ as.x → a ∈ as'.x := fun a ha => by rw [e.x]; exact List.mem_cons_of_mem _ ha
  have hm : p ∉ as'.m := fun z => w.sep p z e.mem
  have l : Mv as' H' (⟨as'.m ++ [p], as.x⟩ : Mp) H' := ⟨⟨[p], rfl⟩, fun a o h n => ⟨fun z => n (by
    rcases z with z | z
    · rcases List.mem_append.mp z with z | z
      · exact .inl z
      · rw [List.mem_singleton.mp z]; exact .inr e.mem
    · exact .inr (sx a z)), h⟩⟩
  refine ⟨⟨?_, rfl, e.evo.kx, e.evo.keep, e.evo.live⟩, ?_, ?_, ?_, ?_, ?_⟩
  · obtain ⟨bs, h1, h2⟩ := e.evo.ext
    refine ⟨bs ++ [p], by show as'.m ++ [p] = _; rw [show as'.m = as.m ++ bs from h1, List.append_assoc], fun b hb => ?_⟩
    rcases List.mem_append.mp hb with z | z
    · exact h2 b z
    · rw [List.mem_singleton.mp z]; exact e.free
  · show (as'.m ++ [p]).length = (st' ++ [b]).length
    simp [w.len]
  · show (as'.m ++ [p]).Nodup
    rw [List.nodup_append]
    exact ⟨w.nd, by simp, fun a ha c hc z => hm (by rw [← List.mem_singleton.mp hc, ← z]; exact ha)⟩
  · intro a ha
    rcases List.mem_append.mp (show a ∈ as'.m ++ [p] from ha) with z | z
    · exact fun q => w.sep a z (sx a q)
    · rw [List.mem_singleton.mp z]; exact fun q => w0.nin e.free (.inr q)
  · exact fun a ha => w.lv a (sx a ha)
  · intro n c hn
    by_cases hl : n < st'.length
    · rw [List.getElem?_append_left hl] at hn
      obtain ⟨a, u, h1, h2, h3⟩ := w.ob n c hn
      exact ⟨a, u, l.at h1, h2, h3.mv l⟩
    · rw [List.getElem?_append_right (by omega)] at hn
      have h0 : n - st'.length = 0 := by
        rcases Nat.eq_zero_or_pos (n - st'.length) with z | z
        · exact z
        · rw [List.getElem?_eq_none (by simp; omega)] at hn; cases hn
      rw [h0] at hn
      cases hn
      have hnn : n = as'.m.length := by have := w.len; omega
      subst hnn
      exact ⟨p, h, by simp, hp, r.mv l⟩
end
end DL

/-! DL2: readings of plain functions over data: lifts, and the rules for expressions, tests, statements, defs. -/
namespace DL
open PySem PySem.Spec PyProof.Rows L2

inductive Fl where
  | nx | rt (d : D) | bk | ct | ex (x : Exn)
abbrev DS := En → Sto → R (Fl × En)
/-- an expression within a statement -/
@[reducible] def R.stm {α : Type} (r : R α) (σ : En) (k : α → Sto → R (Fl × En)) : R (Fl × En) := match r with
  | .ok a st => k a st
  | .exc x st => .ok (.ex x, σ) st
  | .bad => .bad

section
variable {K : PySem.W.Frag} {cl : Cl} {as as' : Mp} {H H' : Hp} {st : Sto}
/-- an exception's object -/
def RepX (K : PySem.W.Frag) (cl : Cl) (as : Mp) (H : Hp) (x : Exn) (u : Value) (dx : Option Addr) : Prop :=
  u = .ref (cl x.cls) ∧ ((x.fs = [] ∧ dx = none) ∨ ∃ d fx, dx = some d ∧ d ∉ as ∧ H d = some (.xd fx) ∧ RepF K as H x.fs fx)
theorem RepX.evo {x : Exn} {u : Value} {dx : Option Addr} (e : Evo as H as' H') (r : RepX K cl as H x u dx) : RepX K cl as' H' x u dx := by
  obtain ⟨h, r⟩ := r
  refine ⟨h, r.imp id fun ⟨d, fx, h1, h2, h3, h4⟩ => ⟨d, fx, h1, e.out h3 h2, e.keep _ _ h3 h2, h4.evo e⟩⟩

/-- what is wanted behind a run -/
def Post {α : Type} (K : PySem.W.Frag) (cl : Cl) (E : XK) (as : Mp) (H : Hp) (r : R α) (Q : α → Sto → Mp → Hp → Prop) : Prop := match r with
  | .ok a st => ∀ as' H', Evo as H as' H' → Wd K cl as' st H' → Q a st as' H'
  | .exc x st => ∀ u dx as' H', Evo as H as' H' → Wd K cl as' st H' → RepX K cl as' H' x u dx → E u dx H'
  | .bad => False
theorem Post.evo {α : Type} {E : XK} {r : R α} {Q : α → Sto → Mp → Hp → Prop} (e : Evo as H as' H') (p : Post K cl E as H r Q) : Post K cl E as' H' r Q := by
  cases r with
  | ok a st => exact fun bs J f w => p bs J (e.trans f) w
  | exc x st => exact fun u dx bs J f w => p u dx bs J (e.trans f) w
  | bad => exact p
theorem Post.mono {α : Type} {E : XK} {r : R α} {Q Q' : α → Sto → Mp → Hp → Prop} (p : Post K cl E as H r Q)
    (h : ∀ a st as' H', Evo as H as' H' → Wd K cl as' st H' → Q a st as' H' → Q' a st as' H') : Post K cl E as H r Q' := by
  cases r with
  | ok a st => exact fun bs J f w => h _ _ _ _ f w (p bs J f w)
  | exc x st => exact p
  | bad => exact p
theorem Post.bind {α β : Type} {E : XK} {r : R α} {k : α → Sto → R β} {Q : β → Sto → Mp → Hp → Prop} (p : Post K cl E as H (r.bind k) Q) :
    Post K cl E as H r fun a st as' H' => Post K cl E as' H' (k a st) Q := by
  cases r with
  | ok a st => exact fun bs J f w => Post.evo f p
  | exc x st => exact p
  | bad => exact p
theorem Post.here {α : Type} {E : XK} {a : α} {Q : α → Sto → Mp → Hp → Prop} (p : Post K cl E as H (.ok a st) Q) (w : Wd K cl as st H) : Q a st as H := p as H .refl w
end

abbrev W0 : WX := fun _ _ _ _ => False
/-- a value's end -/
abbrev QV (K : PySem.W.Frag) (Q : VK) : D → Sto → Mp → Hp → Prop := fun d _ as H => ∀ v, Rep K as H d v → Q v H
def lift (K : PySem.W.Frag) (cl : Cl) (W : WX) (t : DE) : TE := fun σ H Q => ∃ as st τ, Wd K cl as st H ∧ RepE K as H τ σ ∧ Post K cl (WE W σ) as H (t τ st) (QV K Q)
def liftT (K : PySem.W.Frag) (cl : Cl) (W : WX) (t : DT) : TT := fun σ H Q => ∃ as st τ, Wd K cl as st H ∧ RepE K as H τ σ ∧ Post K cl (WE W σ) as H (t τ st) fun b _ _ H' => Q b H'
def liftA (K : PySem.W.Frag) (cl : Cl) (W : WX) (t : DA) : TA := fun σ H Q => ∃ as st τ, Wd K cl as st H ∧ RepE K as H τ σ ∧ Post K cl (WE W σ) as H (t τ st) fun ds _ as' H' => ∀ vs, Reps K as' H' ds vs → Q vs H'
def FlOk (K : PySem.W.Frag) (cl : Cl) (W : WX) (M : Ends) (as : Mp) (H : Hp) (τ : En) : Fl → Prop
  | .nx => ∀ σ, RepE K as H τ σ → M.nx σ H
  | .rt d => ∀ v, Rep K as H d v → M.rt v H
  | .bk => ∀ σ, RepE K as H τ σ → M.bk σ H
  | .ct => ∀ σ, RepE K as H τ σ → M.ct σ H
  | .ex x => ∀ σ u dx, RepE K as H τ σ → RepX K cl as H x u dx → W u dx σ H
abbrev E00 : XK := fun _ _ _ => False
def liftS (K : PySem.W.Frag) (cl : Cl) (W : WX) (t : DS) : TS := fun M σ H => ∃ as st τ, Wd K cl as st H ∧ RepE K as H τ σ ∧ Post K cl E00 as H (t τ st) fun r _ as' H' => FlOk K cl W M as' H' r.2 r.1

abbrev JE (X : Cx) (cl : Cl) (W : WX) (e : Expr) (t : DE) : Prop := PE X e (lift X.K cl W t)
abbrev JT (X : Cx) (cl : Cl) (W : WX) (e : Expr) (t : DT) : Prop := PT X e (liftT X.K cl W t)
abbrev JW (X : Cx) (cl : Cl) (W : WX) (e : Expr) (t : DT) : Prop := PW X e (liftT X.K cl W t)
abbrev JA (X : Cx) (cl : Cl) (W : WX) (es : List Expr) (t : DA) : Prop := PA X es (liftA X.K cl W t)
abbrev JS (X : Cx) (cl : Cl) (W : WX) (s : Stmt) (t : DS) : Prop := PS X s (liftS X.K cl W t)
abbrev JSs (X : Cx) (cl : Cl) (W : WX) (s : List Stmt) (t : DS) : Prop := PSs X s (liftS X.K cl W t)

section
variable {X : Cx}
theorem PE.mono {e : Expr} {t t' : TE} (h : PE X e t) (k : ∀ σ H Q, t' σ H Q → t σ H Q) : PE X e t' := ⟨fun pins s σ H Q I q => h.run pins s σ H Q I (k _ _ _ q)⟩
theorem PT.mono {e : Expr} {t t' : TT} (h : PT X e t) (k : ∀ σ H Q, t' σ H Q → t σ H Q) : PT X e t' := ⟨fun pins s σ H Q I q => h.run pins s σ H Q I (k _ _ _ q)⟩
theorem PW.mono {e : Expr} {t t' : TT} (h : PW X e t) (k : ∀ σ H Q, t' σ H Q → t σ H Q) : PW X e t' := ⟨fun wh pins s σ H Q I q => h.run wh pins s σ H Q I (k _ _ _ q)⟩
theorem PA.mono {e : List Expr} {t t' : TA} (h : PA X e t) (k : ∀ σ H Q, t' σ H Q → t σ H Q) : PA X e t' := ⟨fun pos pins s σ H Q I q => h.run pos pins s σ H Q I (k _ _ _ q)⟩
theorem PS.mono {e : Stmt} {t t' : TS} (h : PS X e t) (k : ∀ M σ H, t' M σ H → t M σ H) : PS X e t' := ⟨fun pins s σ H M I q => h.run pins s σ H M I (k _ _ _ q)⟩
theorem PSs.mono {e : List Stmt} {t t' : TS} (h : PSs X e t) (k : ∀ M σ H, t' M σ H → t M σ H) : PSs X e t' := ⟨fun pins s σ H M I q => h.run pins s σ H M I (k _ _ _ q)⟩
theorem PG.mono {e : Expr} {t t' : TG} (h : PG X e t) (k : ∀ v σ H Q, t' v σ H Q → t v σ H Q) : PG X e t' := ⟨fun pins s σ H v u Q I r q => h.run pins s σ H v u Q I r (k _ _ _ _ q)⟩
theorem OpR.mono {f : Value → Value → Sem Value} {r r' : R2} (h : OpR X f r) (k : ∀ x y H Q, r' x y H Q → r x y H Q) : OpR X f r' := fun pins s σ H x y v u Q I r1 r2 q => h pins s σ H x y v u Q I r1 r2 (k _ _ _ _ q)
theorem OpR.or {f : Value → Value → Sem Value} {r r' : R2} (h : OpR X f r) (h' : OpR X f r') : OpR X f (fun x y H Q => r x y H Q ∨ r' x y H Q) := fun pins s σ H x y v u Q I r1 r2 q =>
  q.elim (h pins s σ H x y v u Q I r1 r2) (h' pins s σ H x y v u Q I r1 r2)
theorem CallR.mono {f : Value} {r r' : List V → Hp → VK → Prop} (h : CallR X f r) (k : ∀ xs H Q, r' xs H Q → r xs H Q) : CallR X f r' := fun pins s σ H xs us Q I r q => h pins s σ H xs us Q I r (k _ _ _ q)
theorem IxR.mono {r r' : R2} (h : IxR X r) (k : ∀ x y H Q, r' x y H Q → r x y H Q) : IxR X r' := fun a b pins s σ H x y v u Q I r1 r2 q => h a b pins s σ H x y v u Q I r1 r2 (k _ _ _ _ q)
theorem PI.mono {tg e : Expr} {t t' : TI} (h : PI X tg e t) (k : ∀ σ H R, t' σ H R → t σ H R) : PI X tg e t' := ⟨fun pins s σ H R I q => h.run pins s σ H R I (k _ _ _ q)⟩
end

/-! ### names, constants -/
def dVar (i : Nat) : DE := fun τ st => match τ[i]? with
  | some (some d) => .ok d st
  | _ => .bad
def dC (d : D) : DE := fun _ st => .ok d st
section
variable {X : Cx} {cl : Cl} {W : WX} {pos : Pos}
theorem j_var {i : Nat} {e : Expr} (h : PE X e (tVar i)) : JE X cl W e (dVar i) := PE.mono h fun σ H Q ⟨as, st, τ, w, e, p⟩ => by
  unfold dVar at p
  split at p
  · rename_i d hd
    obtain ⟨v, h1, h2⟩ := e.get i d hd
    exact ⟨v, h1, Post.here p w v h2⟩
  · exact p.elim
theorem j_c {e : Expr} {d : D} {v : V} (h : PE X e (tC v)) (r : ∀ as H, Rep X.K as H d v) : JE X cl W e (dC d) := PE.mono h fun σ H Q ⟨as, st, τ, w, e, p⟩ => Post.here p w v (r as H)
theorem j_int {i j} : JE X cl W (.Constant (.int i) j pos) (dC (.int i)) := j_c pe_int fun _ _ => .int i
theorem j_bl {b j} : JE X cl W (.Constant (.bool b) j pos) (dC (.bl b)) := j_c pe_bl fun _ _ => .bl b
theorem j_non {j} : JE X cl W (.Constant .none j pos) (dC .non) := j_c pe_non fun _ _ => .non
theorem j_str {x j} : JE X cl W (.Constant (.str x) j pos) (dC (.str x)) := j_c pe_str fun _ _ => .str x
end

/-! ### operations on two values -/
abbrev D2 := D → D → Sto → R D
def liftR (K : PySem.W.Frag) (cl : Cl) (E : XK) (r : D2) : R2 := fun x y H Q => ∃ as st dx dy, Wd K cl as st H ∧ Rep K as H dx x ∧ Rep K as H dy y ∧ Post K cl E as H (r dx dy st) (QV K Q)
def dBin (r : D2) (ta tb : DE) : DE := fun τ st => (ta τ st).bind fun x st => (tb τ st).bind fun y st => r x y st
/-- the rule of an operator, whatever is wished for exceptions -/
def OpJ (X : Cx) (cl : Cl) (f : Value → Value → Sem Value) (r : D2) : Prop := ∀ E : XK, OpR X f (liftR X.K cl E r)
section
variable {X : Cx} {cl : Cl} {W : WX} {pos : Pos} {a b c : Expr} {ta tb tc : DE}
theorem lift_bin {r : D2} {σ : L2.St} {H : Hp} {Q : VK} (h : lift X.K cl W (dBin r ta tb) σ H Q) : tOp (liftR X.K cl (WE W σ) r) (lift X.K cl W ta) (lift X.K cl W tb) σ H Q := by
  obtain ⟨as, st, τ, w, e, p⟩ := h
  refine ⟨as, st, τ, w, e, p.bind.mono fun d st1 as1 H1 e1 w1 p1 x rx => ⟨as1, st1, τ, w1, e.evo e1, p1.bind.mono fun d2 st2 as2 H2 e2 w2 p2 y ry => ?_⟩⟩
  exact ⟨as2, st2, d, d2, w2, rx.evo e2, ry, p2⟩
/-- an operator's rule at a wish that hangs on the slots -/
theorem pe_opS {op : Operator} {r : L2.St → R2} {t1 t2 : TE} (ho : ∀ σ, OpR X (binaryOp op) (r σ)) (ha : PE X a t1) (hb : PE X b t2) : PE X (.BinOp a op b pos) (fun σ H Q => tOp (r σ) t1 t2 σ H Q) :=
  ⟨fun pins s σ H Q I h => (pe_op (pos := pos) (ho σ) ha hb).run pins s σ H Q I h⟩
theorem j_op {op : Operator} {r : D2} (ho : OpJ X cl (binaryOp op) r) (ha : JE X cl W a ta) (hb : JE X cl W b tb) : JE X cl W (.BinOp a op b pos) (dBin r ta tb) :=
  PE.mono (pe_opS (fun σ => ho (WE W σ)) ha hb) fun _ _ _ h => lift_bin h
theorem pe_cmpS {op : CmpOp} {r : L2.St → R2} {t1 t2 : TE} (ho : ∀ σ, OpR X (compareOp op) (r σ)) (ha : PE X a t1) (hb : PE X b t2) (hm : behindInMarks op b = false) : PE X (.Compare a [op] [b] pos) (fun σ H Q => tOp (r σ) t1 t2 σ H Q) :=
  ⟨fun pins s σ H Q I h => (pe_cmpR (pos := pos) (ho σ) ha hb hm).run pins s σ H Q I h⟩
theorem j_cmp {op : CmpOp} {r : D2} (ho : OpJ X cl (compareOp op) r) (ha : JE X cl W a ta) (hb : JE X cl W b tb) (hm : behindInMarks op b = false) : JE X cl W (.Compare a [op] [b] pos) (dBin r ta tb) :=
  PE.mono (pe_cmpS (fun σ => ho (WE W σ)) ha hb hm) fun _ _ _ h => lift_bin h
theorem pt_cmpS {op : CmpOp} {r : L2.St → R2} {t1 t2 : TE} (ho : ∀ σ, OpR X (compareOp op) (r σ)) (ha : PE X a t1) (hb : PE X b t2) (hm : behindInMarks op b = false) : PT X (.Compare a [op] [b] pos) (fun σ H Q => tTest (tOp (r σ) t1 t2) σ H Q) :=
  ⟨fun pins s σ H Q I h => (pt_cmpR (pos := pos) (ho σ) ha hb hm).run pins s σ H Q I h⟩
/-- a value that is a truth -/
@[reducible] def R.tru (r : R D) : R Bool := r.bind fun d st => match d with
  | .bl b => .ok b st
  | _ => .bad
def dTst (t : DE) : DT := fun τ st => (t τ st).tru
theorem j_tcmp {op : CmpOp} {r : D2} (ho : OpJ X cl (compareOp op) r) (ha : JE X cl W a ta) (hb : JE X cl W b tb) (hm : behindInMarks op b = false) : JT X cl W (.Compare a [op] [b] pos) (dTst (dBin r ta tb)) := by
  refine PT.mono (pt_cmpS (fun σ => ho (WE W σ)) ha hb hm) fun σ H Q ⟨as, st, τ, w, e, p⟩ => ?_
  show tOp _ _ _ σ H _
  refine lift_bin ⟨as, st, τ, w, e, p.bind.mono fun d st1 as1 H1 e1 w1 p1 v rv => ?_⟩
  cases d with
  | bl b => cases rv; exact ⟨b, rfl, p1.here w1⟩
  | _ => exact p1.elim
end

/-! ### tests -/
/-- a value's truth -/
def truD (d : D) (st : Sto) : Option Bool := match d with
  | .non => some false
  | .bl b => some b
  | .int i => some (i != 0)
  | .str y => if y.length ≤ sizeLine then some ((y.length : Int) != 0) else none
  | .tup ds => some (!ds.isEmpty)
  | .lst ds => some (!ds.isEmpty)
  | .fro ds => some (!ds.isEmpty)
  | .dic kvs => some (!kvs.isEmpty)
  | .ref n => match st[n]? with
    | some (.lst ds) => some (!ds.isEmpty)
    | some (.dK kvs) => some (!kvs.isEmpty)
    | _ => none
  | .raw _ => none
@[reducible] def R.opt {α : Type} (o : Option α) (st : Sto) : R α := match o with
  | some a => .ok a st
  | none => .bad
def dTru (t : DE) : DT := fun τ st => (t τ st).bind fun d st => R.opt (truD d st) st
theorem isEmpty_len {α β : Type} {l : List α} {m : List β} (h : l.length = m.length) : l.isEmpty = m.isEmpty := by
  cases l <;> cases m <;> first | rfl | cases h
theorem RepF.len {K : PySem.W.Frag} {as : Mp} {H : Hp} {κ : Type} : ∀ {ds : List (κ × D)} {vs : List (κ × V)}, RepF K as H ds vs → ds.length = vs.length
  | _, _, .nil => rfl
  | _, _, .cons _ t => by rw [List.length_cons, List.length_cons, RepF.len t]
theorem RepK.f {K : PySem.W.Frag} {as : Mp} {H : Hp} : ∀ {ds : List (Key × D)} {vs : List (Key × V)}, RepK K as H ds vs → RepF K as H ds vs
  | _, _, .nil => .nil
  | _, _, .cons r t => .cons r (RepK.f t)
theorem RepF.k {K : PySem.W.Frag} {as : Mp} {H : Hp} : ∀ {ds : List (Key × D)} {vs : List (Key × V)}, RepF K as H ds vs → RepK K as H ds vs
  | _, _, .nil => .nil
  | _, _, .cons r t => .cons r (RepF.k t)
section
variable {X : Cx} {cl : Cl} {W : WX} {pos : Pos} {a b c : Expr} {ta tb tc : DE} {ua ub : DT} {rest : List Expr}
theorem truD_ok {as : Mp} {st : Sto} {H : Hp} {d : D} {v : V} {k : Bool} (w : Wd X.K cl as st H) (r : Rep X.K as H d v) (h : truD d st = some k) : TruV X.K v H k := by
  cases r with
  | non => cases h; exact rfl
  | bl b => cases h; exact rfl
  | int i => cases h; exact rfl
  | str y =>
    have h : (if y.length ≤ sizeLine then some ((y.length : Int) != 0) else none) = some k := h
    by_cases hy : y.length ≤ sizeLine
    · rw [if_pos hy] at h; cases h; exact ⟨hy, rfl⟩
    · rw [if_neg hy] at h; cases h
  | tup s r => cases h; exact .inr (.inl ⟨_, s.t, by rw [isEmpty_len r.len]⟩)
  | lst n h1 r => cases h; exact .inl ⟨_, .of h1, by rw [isEmpty_len r.len]⟩
  | fro s r => cases h; exact .inl ⟨_, s.l, by rw [isEmpty_len r.len]⟩
  | dic n h1 r => cases h; exact .inr (.inr ⟨_, h1, by rw [isEmpty_len r.f.len]⟩)
  | @ref n a h1 =>
    have h : (match st[n]? with | some (.lst ds) => some (!ds.isEmpty) | some (.dK kvs) => some (!kvs.isEmpty) | _ => none) = some k := h
    cases hs : st[n]? with
    | none => rw [hs] at h; cases h
    | some o =>
      rw [hs] at h
      obtain ⟨ho, h2, h3⟩ := w.at h1 hs
      cases h3 with
      | lst r => cases h; exact .inl ⟨_, .of h2, by rw [isEmpty_len r.len]⟩
      | dK r => cases h; exact .inr (.inr ⟨_, h2, by rw [isEmpty_len r.len]⟩)
      | dT r => cases h
      | ins r => cases h
  | raw => cases h
theorem j_tru (ha : JE X cl W a ta) (he : ∀ whole, isTrue a X.env whole = (do let v ← whole; standAt a.pos; holding [v] (truthy v))) : JT X cl W a (dTru ta) := by
  refine PT.mono (pt_truth ha he) fun σ H Q ⟨as, st, τ, w, e, p⟩ => ⟨as, st, τ, w, e, p.bind.mono fun d st1 as1 H1 e1 w1 p1 v rv => ?_⟩
  cases h : truD d st1 with
  | none => rw [h] at p1; exact p1.elim
  | some k => rw [h] at p1; exact ⟨k, truD_ok w1 rv h, p1.here w1⟩
def dNotT (t : DT) : DT := fun τ st => (t τ st).bind fun b st => .ok (!b) st
def dAndT (t u : DT) : DT := fun τ st => (t τ st).bind fun b st => if b = true then u τ st else .ok false st
def dOrT (t u : DT) : DT := fun τ st => (t τ st).bind fun b st => if b = true then .ok true st else u τ st
theorem liftT_not {σ : L2.St} {H : Hp} {Q : Bool → Hp → Prop} (h : liftT X.K cl W (dNotT ua) σ H Q) : tNot (liftT X.K cl W ua) σ H Q := by
  obtain ⟨as, st, τ, w, e, p⟩ := h
  exact ⟨as, st, τ, w, e, p.bind.mono fun d st1 as1 H1 e1 w1 p1 => p1.here w1⟩
theorem liftT_and {σ : L2.St} {H : Hp} {Q : Bool → Hp → Prop} (h : liftT X.K cl W (dAndT ua ub) σ H Q) : tAnd (liftT X.K cl W ua) (liftT X.K cl W ub) σ H Q := by
  obtain ⟨as, st, τ, w, e, p⟩ := h
  refine ⟨as, st, τ, w, e, p.bind.mono fun d st1 as1 H1 e1 w1 p1 => ?_⟩
  cases d with
  | true => exact ⟨as1, st1, τ, w1, e.evo e1, p1⟩
  | false => exact p1.here w1
theorem liftT_or {σ : L2.St} {H : Hp} {Q : Bool → Hp → Prop} (h : liftT X.K cl W (dOrT ua ub) σ H Q) : tOr (liftT X.K cl W ua) (liftT X.K cl W ub) σ H Q := by
  obtain ⟨as, st, τ, w, e, p⟩ := h
  refine ⟨as, st, τ, w, e, p.bind.mono fun d st1 as1 H1 e1 w1 p1 => ?_⟩
  cases d with
  | false => exact ⟨as1, st1, τ, w1, e.evo e1, p1⟩
  | true => exact p1.here w1
theorem j_tnot (ha : JT X cl W a ua) : JT X cl W (.UnaryOp .Not a pos) (dNotT ua) := PT.mono (pt_not ha) fun _ _ _ h => liftT_not h
theorem j_and1 (ha : JT X cl W a ua) : JW X cl W (.BoolOp .And [a] pos) ua := pw_and1 ha
theorem j_or1 (ha : JT X cl W a ua) : JW X cl W (.BoolOp .Or [a] pos) ua := pw_or1 ha
theorem j_and (ha : JT X cl W a ua) (hb : JW X cl W (.BoolOp .And (b :: rest) pos) ub) : JW X cl W (.BoolOp .And (a :: b :: rest) pos) (dAndT ua ub) := PW.mono (pw_and ha hb) fun _ _ _ h => liftT_and h
theorem j_or (ha : JT X cl W a ua) (hb : JW X cl W (.BoolOp .Or (b :: rest) pos) ub) : JW X cl W (.BoolOp .Or (a :: b :: rest) pos) (dOrT ua ub) := PW.mono (pw_or ha hb) fun _ _ _ h => liftT_or h
theorem j_w (h : JW X cl W a ua) : JT X cl W a ua := h.pt
/-- as values: all but the last are truths -/
def dAndV (t u : DE) : DE := fun τ st => (t τ st).tru.bind fun b st => if b = true then u τ st else .ok (.bl false) st
def dOrV (t u : DE) : DE := fun τ st => (t τ st).tru.bind fun b st => if b = true then .ok (.bl true) st else u τ st
def dNotV (t : DE) : DE := fun τ st => (t τ st).tru.bind fun b st => .ok (.bl (!b)) st
theorem Post.tru {K : PySem.W.Frag} {E : XK} {as : Mp} {H : Hp} {r : R D} {Q : Bool → Sto → Mp → Hp → Prop} (p : Post K cl E as H r.tru Q) :
    Post K cl E as H r fun d st as' H' => ∃ b, d = .bl b ∧ Q b st as' H' := p.bind.mono fun d st as' H' e w p1 => by
  cases d with
  | bl b => exact ⟨b, rfl, p1.here w⟩
  | _ => exact p1.elim
theorem j_vone {op} (h : JE X cl W a ta) : JE X cl W (.BoolOp op [a] pos) ta := pe_one h
theorem j_vand (ha : JE X cl W a ta) (hb : JE X cl W (.BoolOp .And (b :: rest) pos) tb) : JE X cl W (.BoolOp .And (a :: b :: rest) pos) (dAndV ta tb) := by
  refine PE.mono (pe_and ha hb) fun σ H Q ⟨as, st, τ, w, e, p⟩ => ⟨as, st, τ, w, e, p.bind.tru.mono fun d st1 as1 H1 e1 w1 ⟨k, hk, p1⟩ v rv => ?_⟩
  subst hk
  cases rv
  refine ⟨k, rfl, ?_⟩
  cases k with
  | true => exact ⟨as1, st1, τ, w1, e.evo e1, p1⟩
  | false => exact p1.here w1 _ (.bl false)
theorem j_vor (ha : JE X cl W a ta) (hb : JE X cl W (.BoolOp .Or (b :: rest) pos) tb) : JE X cl W (.BoolOp .Or (a :: b :: rest) pos) (dOrV ta tb) := by
  refine PE.mono (pe_or ha hb) fun σ H Q ⟨as, st, τ, w, e, p⟩ => ⟨as, st, τ, w, e, p.bind.tru.mono fun d st1 as1 H1 e1 w1 ⟨k, hk, p1⟩ v rv => ?_⟩
  subst hk
  cases rv
  refine ⟨k, rfl, ?_⟩
  cases k with
  | false => exact ⟨as1, st1, τ, w1, e.evo e1, p1⟩
  | true => exact p1.here w1 _ (.bl true)
theorem j_vnot (ha : JE X cl W a ta) : JE X cl W (.UnaryOp .Not a pos) (dNotV ta) := by
  refine PE.mono (pe_not ha) fun σ H Q ⟨as, st, τ, w, e, p⟩ => ⟨as, st, τ, w, e, p.bind.tru.mono fun d st1 as1 H1 e1 w1 ⟨k, hk, p1⟩ v rv => ?_⟩
  subst hk
  cases rv
  exact ⟨k, rfl, p1.here w1 _ (.bl _)⟩
def dIf (t : DT) (u v : DE) : DE := fun τ st => (t τ st).bind fun b st => if b = true then u τ st else v τ st
theorem j_if (hc : JT X cl W c ua) (ha : JE X cl W a ta) (hb : JE X cl W b tb) : JE X cl W (.IfExp c a b pos) (dIf ua ta tb) := by
  refine PE.mono (pe_ifExp hc ha hb) fun σ H Q ⟨as, st, τ, w, e, p⟩ => ⟨as, st, τ, w, e, p.bind.mono fun d st1 as1 H1 e1 w1 p1 => ?_⟩
  cases d with
  | true => exact ⟨as1, st1, τ, w1, e.evo e1, p1⟩
  | false => exact ⟨as1, st1, τ, w1, e.evo e1, p1⟩
/-- a op1 b op2 c -/
def dChain (r r' : D2) (ta tb tc : DE) : DE := fun τ st => (ta τ st).bind fun x st => (tb τ st).bind fun y st => (r x y st).tru.bind fun k st => if k = true then (tc τ st).bind fun z st => r' y z st else .ok (.bl false) st
theorem lift_chain {r r' : D2} {σ : L2.St} {H : Hp} {Q : VK} (h : lift X.K cl W (dChain r r' ta tb tc) σ H Q) :
    tChain (liftR X.K cl (WE W σ) r) (liftR X.K cl (WE W σ) r') (lift X.K cl W ta) (lift X.K cl W tb) (lift X.K cl W tc) σ H Q := by
  obtain ⟨as, st, τ, w, e, p⟩ := h
  refine ⟨as, st, τ, w, e, p.bind.mono fun d1 st1 as1 H1 e1 w1 p1 x rx => ⟨as1, st1, τ, w1, e.evo e1, p1.bind.mono fun d2 st2 as2 H2 e2 w2 p2 y ry => ?_⟩⟩
  refine ⟨as2, st2, d1, d2, w2, rx.evo e2, ry, p2.bind.tru.mono fun d3 st3 as3 H3 e3 w3 ⟨k, hk, p3⟩ z rz => ?_⟩
  subst hk
  cases rz
  refine ⟨k, rfl, ?_⟩
  cases k with
  | false => exact p3.here w3 _ (.bl _)
  | true =>
    show lift _ _ _ _ _ _ _
    refine ⟨as3, st3, τ, w3, ((e.evo e1).evo e2).evo e3, Post.mono (Post.bind p3) fun d4 st4 as4 H4 e4 w4 p4 z rz => ⟨as4, st4, d2, d4, w4, (ry.evo e3).evo e4, rz, p4⟩⟩
theorem pe_chainS {op op' : CmpOp} {r r' : L2.St → R2} {t1 t2 t3 : TE} (ho : ∀ σ, OpR X (compareOp op) (r σ)) (ho' : ∀ σ, OpR X (compareOp op') (r' σ)) (ha : PE X a t1) (hb : PE X b t2) (hc : PE X c t3)
    (hm : lastMarks [op, op'] [b, c] = false) : PE X (.Compare a [op, op'] [b, c] pos) (fun σ H Q => tChain (r σ) (r' σ) t1 t2 t3 σ H Q) :=
  ⟨fun pins s σ H Q I h => (pe_chain (pos := pos) (ho σ) (ho' σ) ha hb hc hm).run pins s σ H Q I h⟩
theorem pt_chainS {op op' : CmpOp} {r r' : L2.St → R2} {t1 t2 t3 : TE} (ho : ∀ σ, OpR X (compareOp op) (r σ)) (ho' : ∀ σ, OpR X (compareOp op') (r' σ)) (ha : PE X a t1) (hb : PE X b t2) (hc : PE X c t3)
    (hm : lastMarks [op, op'] [b, c] = false) : PT X (.Compare a [op, op'] [b, c] pos) (fun σ H Q => tTest (tChain (r σ) (r' σ) t1 t2 t3) σ H Q) :=
  ⟨fun pins s σ H Q I h => (pt_chain (pos := pos) (ho σ) (ho' σ) ha hb hc hm).run pins s σ H Q I h⟩
theorem j_chain {op op' : CmpOp} {r r' : D2} (ho : OpJ X cl (compareOp op) r) (ho' : OpJ X cl (compareOp op') r') (ha : JE X cl W a ta) (hb : JE X cl W b tb) (hc : JE X cl W c tc) (hm : lastMarks [op, op'] [b, c] = false := by with_unfolding_all rfl) :
    JE X cl W (.Compare a [op, op'] [b, c] pos) (dChain r r' ta tb tc) := PE.mono (pe_chainS (fun σ => ho (WE W σ)) (fun σ => ho' (WE W σ)) ha hb hc hm) fun _ _ _ h => lift_chain h
theorem j_tchain {op op' : CmpOp} {r r' : D2} (ho : OpJ X cl (compareOp op) r) (ho' : OpJ X cl (compareOp op') r') (ha : JE X cl W a ta) (hb : JE X cl W b tb) (hc : JE X cl W c tc) (hm : lastMarks [op, op'] [b, c] = false := by with_unfolding_all rfl) :
    JT X cl W (.Compare a [op, op'] [b, c] pos) (dTst (dChain r r' ta tb tc)) := by
  refine PT.mono (pt_chainS (fun σ => ho (WE W σ)) (fun σ => ho' (WE W σ)) ha hb hc hm) fun σ H Q ⟨as, st, τ, w, e, p⟩ => ?_
  show tChain _ _ _ _ _ σ H _
  refine lift_chain ⟨as, st, τ, w, e, p.tru.mono fun d st1 as1 H1 e1 w1 ⟨k, hk, p1⟩ v rv => ?_⟩
  subst hk
  cases rv
  exact ⟨k, rfl, p1⟩
end

/-! ### lists of expressions -/
def dNil : DA := fun _ st => .ok [] st
def dCons (t : DE) (u : DA) : DA := fun τ st => (t τ st).bind fun d st => (u τ st).bind fun ds st => .ok (d :: ds) st
section
variable {X : Cx} {cl : Cl} {W : WX} {pos : Pos} {e : Expr} {es : List Expr} {te : DE} {t : DA}
theorem ja_nil : JA X cl W [] dNil := PA.mono pa_nil fun σ H Q ⟨as, st, τ, w, e, p⟩ => p.here w _ .nil
theorem ja_cons (he : JE X cl W e te) (hr : JA X cl W es t) (hs : starEach (e :: es) X.env = (false, eval e X.env) :: starEach es X.env := by rfl) : JA X cl W (e :: es) (dCons te t) := by
  refine PA.mono (pa_cons he hr hs) fun σ H Q ⟨as, st, τ, w, e, p⟩ => ⟨as, st, τ, w, e, p.bind.mono fun d st1 as1 H1 e1 w1 p1 x rx => ⟨as1, st1, τ, w1, e.evo e1, p1.bind.mono fun ds st2 as2 H2 e2 w2 p2 xs rxs => ?_⟩⟩
  exact p2.here w2 _ (.cons (rx.evo e2) rxs)
def dTup (t : DA) : DE := fun τ st => (t τ st).bind fun ds st => if ds.length ≤ sizeLine then .ok (.tup ds) st else .bad
def dLst (t : DA) : DE := fun τ st => (t τ st).bind fun ds st => if ds.length ≤ sizeLine then .ok (.lst ds) st else .bad
/-- a list that will change -/
def dNew (t : DA) : DE := fun τ st => (t τ st).bind fun ds st => if ds.length ≤ sizeLine then .ok (.ref st.length) (st ++ [.lst ds]) else .bad
theorem Rep.newT {K : PySem.W.Frag} {as : Mp} {st : Sto} {H : Hp} {p : Addr} {ds : List D} {xs : List V} (w : Wd K cl as st H) (hp : H p = none) (r : Reps K as H ds xs) : Rep K as (upd H p (.tup xs)) (.tup ds) (.ref p) :=
  .tup (.inl ⟨w.nin hp, upd_same⟩) (r.evo (Evo.new w hp))
theorem Rep.newL {K : PySem.W.Frag} {as : Mp} {st : Sto} {H : Hp} {p : Addr} {ds : List D} {xs : List V} (w : Wd K cl as st H) (hp : H p = none) (r : Reps K as H ds xs) : Rep K as (upd H p (.lst xs)) (.lst ds) (.ref p) :=
  .lst (w.nin hp) upd_same (r.evo (Evo.new w hp))
theorem Rep.newRef {K : PySem.W.Frag} {as : Mp} {st : Sto} {H H2 : Hp} {p : Addr} (w : Wd K cl as st H) : Rep K (as.push p) H2 (.ref st.length) (.ref p) :=
  .ref (by rw [← w.len]; simp)
theorem j_tup {k} (h : JA X cl W es t) : JE X cl W (.Tuple es k pos) (dTup t) := by
  refine PE.mono (pe_tup h) fun σ H Q ⟨as, st, τ, w, e, p⟩ => ⟨as, st, τ, w, e, p.bind.mono fun ds st1 as1 H1 e1 w1 p1 xs rx => ?_⟩
  by_cases hl : ds.length ≤ sizeLine
  · rw [if_pos hl] at p1
    exact ⟨by rw [← rx.len]; exact hl, fun a ha => p1 as1 _ (Evo.new w1 ha) (w1.new ha) _ (Rep.newT w1 ha rx)⟩
  · rw [if_neg hl] at p1; exact p1.elim
theorem j_lst (h : JA X cl W es t) : JE X cl W (.List es pos) (dLst t) := by
  refine PE.mono (pe_lst h) fun σ H Q ⟨as, st, τ, w, e, p⟩ => ⟨as, st, τ, w, e, p.bind.mono fun ds st1 as1 H1 e1 w1 p1 xs rx => ?_⟩
  by_cases hl : ds.length ≤ sizeLine
  · rw [if_pos hl] at p1
    exact ⟨by rw [← rx.len]; exact hl, fun a ha => p1 as1 _ (Evo.new w1 ha) (w1.new ha) _ (Rep.newL w1 ha rx)⟩
  · rw [if_neg hl] at p1; exact p1.elim
theorem j_new (h : JA X cl W es t) : JE X cl W (.List es pos) (dNew t) := by
  refine PE.mono (pe_lst h) fun σ H Q ⟨as, st, τ, w, e, p⟩ => ⟨as, st, τ, w, e, p.bind.mono fun ds st1 as1 H1 e1 w1 p1 xs rx => ?_⟩
  by_cases hl : ds.length ≤ sizeLine
  · rw [if_pos hl] at p1
    exact ⟨by rw [← rx.len]; exact hl, fun a ha => p1 _ _ (Evo.push w1 ha) (w1.push ha (.lst rx)) _ (Rep.newRef w1)⟩
  · rw [if_neg hl] at p1; exact p1.elim
end

/-! ### statements -/
def dNext : DS := fun τ st => .ok (.nx, τ) st
def dSeq (t u : DS) : DS := fun τ st => (t τ st).bind fun r st => match r with
  | (.nx, τ) => u τ st
  | r => .ok r st
def dRet (t : DE) : DS := fun τ st => (t τ st).stm τ fun d st => .ok (.rt d, τ) st
def dRetN : DS := fun τ st => .ok (.rt .non, τ) st
def dDrop (t : DE) : DS := fun τ st => (t τ st).stm τ fun _ st => .ok (.nx, τ) st
def dBreak : DS := fun τ st => .ok (.bk, τ) st
def dCont : DS := fun τ st => .ok (.ct, τ) st
def dIfS (c : DT) (t u : DS) : DS := fun τ st => (c τ st).stm τ fun b st => if b = true then t τ st else u τ st
def dNever : DS := fun _ _ => .bad
section
variable {X : Cx} {cl : Cl} {W : WX} {pos : Pos} {e : Expr} {te : DE} {t u : DS} {s : Stmt} {rest body : List Stmt} {c : DT}
theorem Post.stm {α : Type} {K : PySem.W.Frag} {as : Mp} {H : Hp} {σ : L2.St} {τ : En} {r : R α} {k : α → Sto → R (Fl × En)} {M : Ends} (e : RepE K as H τ σ)
    (p : Post K cl E00 as H (r.stm τ k) fun r _ as' H' => FlOk K cl W M as' H' r.2 r.1) :
    Post K cl (WE W σ) as H r fun a st as' H' => Post K cl E00 as' H' (k a st) fun r _ as' H' => FlOk K cl W M as' H' r.2 r.1 := by
  cases r with
  | ok a st => exact fun bs J f w => Post.evo f p
  | exc x st => exact fun u dx bs J f w rx => p bs J f w σ u dx (e.evo f) rx
  | bad => exact p
theorem js_nil : JSs X cl W [] dNext := PSs.mono pss_nil fun M σ H ⟨as, st, τ, w, e, p⟩ => p.here w σ e
theorem js_cons (h1 : JS X cl W s t) (h2 : JSs X cl W rest u) : JSs X cl W (s :: rest) (dSeq t u) := by
  refine PSs.mono (pss_cons h1 h2) fun M σ H ⟨as, st, τ, w, e, p⟩ => ⟨as, st, τ, w, e, p.bind.mono fun r st1 as1 H1 e1 w1 p1 => ?_⟩
  obtain ⟨f, τ1⟩ := r
  cases f with
  | nx => exact fun σ1 r1 => ⟨as1, st1, τ1, w1, r1, p1⟩
  | rt d => exact p1.here w1
  | bk => exact p1.here w1
  | ct => exact p1.here w1
  | ex x => exact p1.here w1
theorem js_one (h1 : JS X cl W s t) : JSs X cl W [s] t := pss_one h1
theorem js_ret (he : JE X cl W e te) : JS X cl W (.Return (some e) pos) (dRet te) := by
  refine PS.mono (ps_ret he) fun M σ H ⟨as, st, τ, w, e, p⟩ => ⟨as, st, τ, w, e, (Post.stm e p).mono fun d st1 as1 H1 e1 w1 p1 v rv => ?_⟩
  exact p1.here w1 v rv
theorem js_retN : JS X cl W (.Return none pos) dRetN := PS.mono ps_retN fun M σ H ⟨as, st, τ, w, e, p⟩ => p.here w _ .non
theorem js_pass : JS X cl W (.Pass pos) dNext := PS.mono ps_pass fun M σ H ⟨as, st, τ, w, e, p⟩ => p.here w σ e
theorem js_break : JS X cl W (.Break pos) dBreak := PS.mono ps_break fun M σ H ⟨as, st, τ, w, e, p⟩ => p.here w σ e
theorem js_cont : JS X cl W (.Continue pos) dCont := PS.mono ps_continue fun M σ H ⟨as, st, τ, w, e, p⟩ => p.here w σ e
theorem js_never : JS X cl W s dNever := PS.mono ps_never fun M σ H ⟨as, st, τ, w, e, p⟩ => p.elim
theorem js_doc {x j p p'} : JS X cl W (.Expr (.Constant (.str x) j p) p') dNext := PS.mono ps_doc fun M σ H ⟨as, st, τ, w, e, p⟩ => p.here w σ e
theorem js_expr (he : JE X cl W e te) (hs : swapsWith e none pos.line X.env = pure false := by rfl) : JS X cl W (.Expr e pos) (dDrop te) := by
  refine PS.mono (ps_expr he hs) fun M σ H ⟨as, st, τ, w, e, p⟩ => ⟨as, st, τ, w, e, (Post.stm e p).mono fun d st1 as1 H1 e1 w1 p1 v rv => ?_⟩
  exact p1.here w1 σ (e.evo e1)
theorem js_if {c : Expr} {a b : List Stmt} {tc : DT} (hc : JT X cl W c tc) (ha : JSs X cl W a t) (hb : JSs X cl W b u) : JS X cl W (.If c a b pos) (dIfS tc t u) := by
  refine PS.mono (ps_if hc ha hb) fun M σ H ⟨as, st, τ, w, e, p⟩ => ⟨as, st, τ, w, e, (Post.stm e p).mono fun d st1 as1 H1 e1 w1 p1 => ?_⟩
  cases d with
  | true => exact ⟨as1, st1, τ, w1, e.evo e1, p1⟩
  | false => exact ⟨as1, st1, τ, w1, e.evo e1, p1⟩
end

/-! ### targets -/
abbrev DG := D → En → Sto → R En
def liftG (K : PySem.W.Frag) (cl : Cl) (W : WX) (t : DG) : TG := fun v σ H Q => ∃ as st τ d, Wd K cl as st H ∧ RepE K as H τ σ ∧ Rep K as H d v ∧ Post K cl (WE W σ) as H (t d τ st) fun τ' _ as' H' => ∀ σ', RepE K as' H' τ' σ' → Q σ' H'
abbrev JG (X : Cx) (cl : Cl) (W : WX) (e : Expr) (t : DG) : Prop := PG X e (liftG X.K cl W t)
def gN (i : Nat) : DG := fun d τ st => .ok (τ.set i (some d)) st
def dAsg (te : DE) (g : DG) : DS := fun τ st => (te τ st).stm τ fun d st => (g d τ st).stm τ fun τ' st => .ok (.nx, τ') st
section
variable {X : Cx} {cl : Cl} {W : WX} {pos : Pos} {e tg : Expr} {te : DE} {g : DG}
theorem jg_name {i : Nat} (h : PG X e (gName i)) : JG X cl W e (gN i) := PG.mono h fun v σ H Q ⟨as, st, τ, d, w, e, r, p⟩ => p.here w _ (e.set i r)
theorem js_asg (he : JE X cl W e te) (hg : JG X cl W tg g) (hs : swapsWithSole [tg] e pos.line X.env = pure false := by rfl) (hw : swappedStores [tg] e X.env = pure none := by rfl)
    (h1 : (assignEach [tg] X.env).map (·.2) = [assign tg X.env] := by rfl) : JS X cl W (.Assign [tg] e pos) (dAsg te g) := by
  refine PS.mono (ps_asg he hg hs hw h1) fun M σ H ⟨as, st, τ, w, e, p⟩ => ⟨as, st, τ, w, e, (Post.stm e p).mono fun d st1 as1 H1 e1 w1 p1 v rv => ?_⟩
  refine ⟨as1, st1, τ, d, w1, e.evo e1, rv, (Post.stm (e.evo e1) p1).mono fun τ' st2 as2 H2 e2 w2 p2 σ' r' => ?_⟩
  exact p2.here w2 σ' r'
/-- name = value -/
theorem js_set {i : Nat} {x : Str} {pos' : Pos} (hN : X.N.Nodup) (hi : X.N[i]? = some x) (hx : Loc X.env.scope x) (he : JE X cl W e te) (hs : swapsWith e (some (.Name x pos')) pos.line X.env = pure false := by rfl)
    (hf : X.fn x = true ∨ X.env.scope.names.lookup x = some .local := by first | exact .inl rfl | exact .inr rfl | assumption) : JS X cl W (.Assign [.Name x pos'] e pos) (dAsg te (gN i)) := by
  refine PS.mono (ps_set hN hi hx he hs hf) fun M σ H ⟨as, st, τ, w, e, p⟩ => ⟨as, st, τ, w, e, (Post.stm e p).mono fun d st1 as1 H1 e1 w1 p1 v rv => ?_⟩
  exact p1.here w1 _ ((e.evo e1).set i rv)
end
/-- several targets, for a tuple -/
abbrev DGs := List D → En → Sto → R En
def liftGs (K : PySem.W.Frag) (cl : Cl) (W : WX) (t : DGs) : TGs := fun vs σ H Q => ∃ as st τ ds, Wd K cl as st H ∧ RepE K as H τ σ ∧ Reps K as H ds vs ∧ Post K cl (WE W σ) as H (t ds τ st) fun τ' _ as' H' => ∀ σ', RepE K as' H' τ' σ' → Q σ' H'
theorem PGs.mono {X : Cx} {e : List Expr} {t t' : TGs} (h : PGs X e t) (k : ∀ v σ H Q, t' v σ H Q → t v σ H Q) : PGs X e t' := ⟨fun pins s σ H v u Q I r q => h.run pins s σ H v u Q I r (k _ _ _ _ q)⟩
abbrev JGs (X : Cx) (cl : Cl) (W : WX) (e : List Expr) (t : DGs) : Prop := PGs X e (liftGs X.K cl W t)
/-- names alone, by their places -/
def gNames : List Nat → DGs
  | [], ds, τ, st => if ds.isEmpty then .ok τ st else .bad
  | i :: is, ds, τ, st => match ds with
    | d :: ds => gNames is ds (τ.set i (some d)) st
    | [] => .bad
/-- the items of a tuple -/
def tupOf : D → Option (List D)
  | .tup ds => some ds
  | _ => none
def gTupN (is : List Nat) : DG := fun d τ st => match d with
  | .tup ds => if ds.length = is.length then gNames is ds τ st else .bad
  | _ => .bad
section
variable {X : Cx} {cl : Cl} {W : WX} {pos : Pos}
theorem jgs_nil : JGs X cl W [] (gNames []) := PGs.mono pgs_nil fun vs σ H Q ⟨as, st, τ, ds, w, e, r, p⟩ => by
  cases r with
  | nil => exact ⟨rfl, Post.here (show Post X.K cl (WE W σ) as H (.ok τ st) _ from p) w σ e⟩
  | cons _ _ => exact (show False from p).elim
theorem gNames_ok : ∀ (is : List Nat) (ds : List D) (τ : En) (st : Sto), (∃ τ', gNames is ds τ st = .ok τ' st) ∨ gNames is ds τ st = .bad
  | [], ds, τ, st => by
    cases ds with
    | nil => exact .inl ⟨τ, rfl⟩
    | cons _ _ => exact .inr rfl
  | i :: is, ds, τ, st => by
    cases ds with
    | nil => exact .inr rfl
    | cons d ds => exact gNames_ok is ds _ st
theorem jgs_cons {e : Expr} {es : List Expr} {i : Nat} {is : List Nat} (h1 : PG X e (gName i)) (h2 : JGs X cl W es (gNames is))
    (hs : (assignEach (e :: es) X.env).map (·.2) = assign e X.env :: (assignEach es X.env).map (·.2) := by rfl) : JGs X cl W (e :: es) (gNames (i :: is)) := by
  refine PGs.mono (pgs_cons h1 h2 hs) fun vs σ H Q ⟨as, st, τ, ds, w, e, r, p⟩ => ?_
  cases r with
  | nil => exact (show False from p).elim
  | @cons d v ds vs r rs =>
    refine ⟨v, vs, rfl, as, st, τ.set i (some d), ds, w, e.set i r, rs, ?_⟩
    have p : Post X.K cl (WE W σ) as H (gNames is ds (τ.set i (some d)) st) fun τ' _ as' H' => ∀ σ', RepE X.K as' H' τ' σ' → Q σ' H' := p
    rcases gNames_ok is ds (τ.set i (some d)) st with ⟨τ', h⟩ | h
    · rw [h] at p ⊢; exact p
    · rw [h] at p ⊢; exact p
theorem jg_tup {es : List Expr} {k : Nat} {is : List Nat} (hc : X.calm = true) (h : JGs X cl W es (gNames is))
    (hn : (assignEach es X.env).length = is.length := by rfl) (hst : (assignEach es X.env).findIdx? (·.1) = none := by rfl) : JG X cl W (.Tuple es k pos) (gTupN is) := by
  refine PG.mono (pg_tup hc h hn hst) fun v σ H Q ⟨as, st, τ, d, w, e, r, p⟩ => ?_
  unfold gTupN at p
  split at p
  · rename_i ds
    by_cases hl : ds.length = is.length
    · rw [if_pos hl] at p
      cases r with
      | tup s rs => exact ⟨_, _, rfl, s.t, by rw [← rs.len]; exact hl, as, st, τ, ds, w, e, rs, p⟩
    · rw [if_neg hl] at p; exact p.elim
  · exact p.elim
end

/-! ### defs -/
/-- a body's end, as its def's -/
@[reducible] def R.fin (r : R (Fl × En)) : R D := match r with
  | .ok (.nx, _) st => .ok .non st
  | .ok (.rt d, _) st => .ok d st
  | .ok (.ex x, _) st => .exc x st
  | _ => .bad
def dDef (N n : Nat) (body : DS) : DF := fun ds st => if ds.length = n then (body (startD N ds) st).fin else .bad
theorem def_go {N n : Nat} {body : DS} {ds : List D} {st : Sto} (h : ds.length = n) : dDef N n body ds st = (body (startD N ds) st).fin := if_pos h
/-- a promise by a plain function -/
def spD (K : PySem.W.Frag) (cl : Cl) (F : DF) : Sp := fun vs H Q E => ∃ as st ds, Wd K cl as st H ∧ Reps K as H ds vs ∧ Post K cl E as H (F ds st) (QV K Q)
/-- a def that keeps the promise of a plain function -/
abbrev FnD (P : Program) (w : World) (K : PySem.W.Frag) (mg : Str → Option Value) (base : Heap) (cl : Cl) (k : Nat) (f : Addr) (fd : FuncData) (ps : List Str) (F : DF) : Prop :=
  FnOk P w K mg base (L2.CX P w) k f fd ps (spD K cl F)
/-- a def's wish -/
abbrev Wk (E : XK) : WX := fun u dx _ H => E u dx H
section
variable {P : Program} {w : World} {K : PySem.W.Frag} {mg : Str → Option Value} {base : Heap} {cl : Cl}
theorem FnD.of {x qual : Str} {st : Stmt} {f : Addr} {fd : FuncData} {N ps : List Str} {k : Nat} {body : DS} (F : Fun K x qual st f fd) (S : FnScope N ps (defScope st))
    (hb : ∀ (cdv : Value) (A : Around) (outer : List Env) (s : Shared) (H : Hp) (E : XK), Room k (A.deeper (envOfC qual (defScope st) s.heap.objs.size f cdv)) →
      JSs (cxOf (L2.CX P w) P w K mg base N qual (defScope st) f cdv A outer s H E) cl (Wk E) (defBody st) body) :
    FnD P w K mg base cl (k + 1) f fd ps (dDef N.length ps.length body) := by
  refine F.okX S (fun vs H Q E h => ?_) fun cdv A outer s H vs Q E hr h => ⟨_, hb cdv A outer s H E hr, ?_⟩
  · obtain ⟨as, st, ds, wd, r, p⟩ := h
    unfold dDef at p
    split at p
    · rename_i hl
      rw [← r.len]; exact hl
    · exact p.elim
  · obtain ⟨as, st, ds, wd, r, p⟩ := h
    refine ⟨as, st, startD N.length ds, wd, RepE.start r, ?_⟩
    unfold dDef at p
    split at p
    · cases h : body (startD N.length ds) st with
      | bad => rw [h] at p; exact p.elim
      | exc x st1 => rw [h] at p; exact p.elim
      | ok r st1 =>
        rw [h] at p
        obtain ⟨fl, τ1⟩ := r
        cases fl with
        | nx => exact fun as1 H1 e1 w1 σ1 r1 => p as1 H1 e1 w1 .non .non
        | rt d => exact fun as1 H1 e1 w1 v rv => p as1 H1 e1 w1 v rv
        | bk => exact p.elim
        | ct => exact p.elim
        | ex x => exact fun as1 H1 e1 w1 σ1 u dx r1 rx => p u dx as1 H1 e1 w1 rx
    · exact p.elim
/-- another function that says the same where it says something -/
theorem FnD.imp {k : Nat} {f : Addr} {fd : FuncData} {ps : List Str} {F G : DF} (h : FnD P w K mg base cl k f fd ps F) (hg : ∀ ds st, G ds st ≠ .bad → F ds st = G ds st) : FnD P w K mg base cl k f fd ps G :=
  FnOk.imp h fun vs H Q E ⟨as, st, ds, wd, r, p⟩ => ⟨as, st, ds, wd, r, by
    rw [hg ds st (fun e => by rw [e] at p; exact p)]
    exact p⟩
end
end DL

/-! DL3: operators, calls of built-ins, subscripts, loops, comprehensions, dicts, fields, calls of defs. -/
namespace DL
open PySem PySem.Spec PyProof.Rows L2

/-! ### rows of values -/
def seqOf (d : D) (st : Sto) : Option (List D) := match d with
  | .tup ds => some ds
  | .lst ds => some ds
  | .fro ds => some ds
  | .ref n => match st[n]? with
    | some (.lst ds) => some ds
    | _ => none
  | _ => none
section
variable {K : PySem.W.Frag} {cl : Cl} {as : Mp} {st : Sto} {H : Hp}
theorem Wd.lst (w : Wd K cl as st H) {n : Nat} {a : Addr} {ds : List D} (h1 : as.m[n]? = some a) (hs : st[n]? = some (.lst ds)) : ∃ xs, H a = some (.lst xs) ∧ Reps K as H ds xs := by
  obtain ⟨ho, h2, h3⟩ := w.at h1 hs
  cases h3 with
  | lst r => exact ⟨_, h2, r⟩
theorem Wd.dK (w : Wd K cl as st H) {n : Nat} {a : Addr} {ds : List (Key × D)} (h1 : as.m[n]? = some a) (hs : st[n]? = some (.dK ds)) : ∃ xs, H a = some (.dK xs) ∧ RepF K as H ds xs := by
  obtain ⟨ho, h2, h3⟩ := w.at h1 hs
  cases h3 with
  | dK r => exact ⟨_, h2, r⟩
theorem Wd.dT (w : Wd K cl as st H) {n : Nat} {a : Addr} {ds : List (List Key × D)} (h1 : as.m[n]? = some a) (hs : st[n]? = some (.dT ds)) : ∃ xs, H a = some (.dT xs) ∧ RepF K as H ds xs := by
  obtain ⟨ho, h2, h3⟩ := w.at h1 hs
  cases h3 with
  | dT r => exact ⟨_, h2, r⟩
theorem Wd.ins (w : Wd K cl as st H) {n : Nat} {a : Addr} {c : Str} {ds : List (Str × D)} (h1 : as.m[n]? = some a) (hs : st[n]? = some (.ins c ds)) : ∃ dx xs, H a = some (.ins (cl c) dx xs) ∧ RepF K as H ds xs := by
  obtain ⟨ho, h2, h3⟩ := w.at h1 hs
  cases h3 with
  | ins r => exact ⟨_, _, h2, r⟩
theorem seqOf_ok {d : D} {v : V} {ds : List D} (w : Wd K cl as st H) (r : Rep K as H d v) (h : seqOf d st = some ds) : ∃ p xs, v = .ref p ∧ (SqL K H p xs ∨ SqT K H p xs) ∧ Reps K as H ds xs := by
  cases r with
  | tup s r => cases h; exact ⟨_, _, rfl, .inr s.t, r⟩
  | lst n h1 r => cases h; exact ⟨_, _, rfl, .inl (.of h1), r⟩
  | fro s r => cases h; exact ⟨_, _, rfl, .inl s.l, r⟩
  | @ref n a h1 =>
    have h : (match st[n]? with | some (.lst ds) => some ds | _ => none) = some ds := h
    cases hs : st[n]? with
    | none => rw [hs] at h; cases h
    | some o =>
      rw [hs] at h
      cases o with
      | lst es =>
        cases h
        obtain ⟨xs, h2, r⟩ := w.lst h1 hs
        exact ⟨_, _, rfl, .inl (.of h2), r⟩
      | _ => cases h
  | _ => cases h
/-- lists alone -/
def lstOf (d : D) (st : Sto) : Option (List D) := match d with
  | .lst ds => some ds
  | .ref n => match st[n]? with
    | some (.lst ds) => some ds
    | _ => none
  | _ => none
theorem lstOf_ok {d : D} {v : V} {ds : List D} (w : Wd K cl as st H) (r : Rep K as H d v) (h : lstOf d st = some ds) : ∃ p xs, v = .ref p ∧ H p = some (.lst xs) ∧ Reps K as H ds xs := by
  cases r with
  | lst n h1 r => cases h; exact ⟨_, _, rfl, h1, r⟩
  | @ref n a h1 =>
    have h : (match st[n]? with | some (.lst ds) => some ds | _ => none) = some ds := h
    cases hs : st[n]? with
    | none => rw [hs] at h; cases h
    | some o =>
      rw [hs] at h
      cases o with
      | lst es =>
        cases h
        obtain ⟨xs, h2, r⟩ := w.lst h1 hs
        exact ⟨_, _, rfl, h2, r⟩
      | _ => cases h
  | _ => cases h
/-- dicts by ints and texts -/
def dicOf (d : D) (st : Sto) : Option (List (Key × D)) := match d with
  | .dic ds => some ds
  | .ref n => match st[n]? with
    | some (.dK ds) => some ds
    | _ => none
  | _ => none
theorem dicOf_ok {d : D} {v : V} {ds : List (Key × D)} (w : Wd K cl as st H) (r : Rep K as H d v) (h : dicOf d st = some ds) : ∃ p xs, v = .ref p ∧ H p = some (.dK xs) ∧ RepF K as H ds xs := by
  cases r with
  | dic n h1 r => cases h; exact ⟨_, _, rfl, h1, r.f⟩
  | @ref n a h1 =>
    have h : (match st[n]? with | some (.dK ds) => some ds | _ => none) = some ds := h
    cases hs : st[n]? with
    | none => rw [hs] at h; cases h
    | some o =>
      rw [hs] at h
      cases o with
      | dK es =>
        cases h
        obtain ⟨xs, h2, r⟩ := w.dK h1 hs
        exact ⟨_, _, rfl, h2, r⟩
      | _ => cases h
  | _ => cases h

/-! ### equality of data -/
mutual
def toPy : D → Option PyData
  | .non => some .none
  | .bl b => some (.bool b)
  | .int i => some (.int i)
  | .str x => some (.str x)
  | .tup ds => (toPys ds).map .tuple
  | .lst ds => (toPys ds).map .list
  | .fro ds => (toPys ds).map .list
  | .dic _ => none
  | .ref _ => none
  | .raw _ => none
def toPys : List D → Option (List PyData)
  | [] => some []
  | d :: ds => match toPy d, toPys ds with
    | some p, some ps => some (p :: ps)
    | _, _ => none
end
mutual
theorem toPy_ok : ∀ {d : D} {v : V} {p : PyData}, Rep K as H d v → toPy d = some p → Dp K H v p
  | _, _, _, .non, h => by cases h; exact .non
  | _, _, _, .bl b, h => by cases h; exact .bl b
  | _, _, _, .int i, h => by cases h; exact .int i
  | _, _, _, .str x, h => by cases h; exact .str x
  | .tup ds, _, _, .tup s r, h => by
    have h : (toPys ds).map PyData.tuple = some _ := h
    obtain ⟨ps, h1, h2⟩ := Option.map_eq_some_iff.mp h
    subst h2
    exact .tup s.t (toPys_ok r h1)
  | .lst ds, _, _, .lst n h0 r, h => by
    have h : (toPys ds).map PyData.list = some _ := h
    obtain ⟨ps, h1, h2⟩ := Option.map_eq_some_iff.mp h
    subst h2
    exact .lst (.of h0) (toPys_ok r h1)
  | .fro ds, _, _, .fro s r, h => by
    have h : (toPys ds).map PyData.list = some _ := h
    obtain ⟨ps, h1, h2⟩ := Option.map_eq_some_iff.mp h
    subst h2
    exact .lst s.l (toPys_ok r h1)
theorem toPys_ok : ∀ {ds : List D} {vs : List V} {ps : List PyData}, Reps K as H ds vs → toPys ds = some ps → DpAll K H vs ps
  | _, _, _, .nil, h => by cases h; exact .nil
  | d :: ds, _, _, .cons r rs, h => by
    unfold toPys at h
    cases h1 : toPy d with
    | none => rw [h1] at h; cases h
    | some p =>
      cases h2 : toPys ds with
      | none => rw [h1, h2] at h; cases h
      | some ps =>
        rw [h1, h2] at h
        cases h
        exact .cons (toPy_ok r h1) (toPys_ok rs h2)
end
/-- with the store's lists -/
def topPy (d : D) (st : Sto) : Option PyData := match d with
  | .ref n => match st[n]? with
    | some (.lst ds) => (toPys ds).map .list
    | _ => none
  | d => toPy d
theorem topPy_ok {d : D} {v : V} {p : PyData} (w : Wd K cl as st H) (r : Rep K as H d v) (h : topPy d st = some p) : Dp K H v p := by
  cases d with
  | ref n =>
    have h : (match st[n]? with | some (.lst ds) => (toPys ds).map PyData.list | _ => none) = some p := h
    cases r with
    | ref h1 =>
      cases hs : st[n]? with
      | none => rw [hs] at h; cases h
      | some o =>
        rw [hs] at h
        cases o with
        | lst es =>
          obtain ⟨xs, h2, r⟩ := w.lst h1 hs
          obtain ⟨ps, h3, h4⟩ := Option.map_eq_some_iff.mp h
          subst h4
          exact .lst (.of h2) (toPys_ok r h3)
        | _ => cases h
  | _ => exact toPy_ok r h
def flatD : D → Bool
  | .non => true
  | .bl _ => true
  | .int _ => true
  | .str _ => true
  | _ => false
def eqF : D → D → Bool
  | .non, .non => true
  | .bl a, .bl b => a == b
  | .bl a, .int b => (if a then 1 else 0) == b
  | .int a, .bl b => a == (if b then 1 else 0)
  | .int a, .int b => a == b
  | .str a, .str b => a == b
  | _, _ => false
theorem flatD_ok {d : D} {v : V} (r : Rep K as H d v) (h : flatD d = true) : flatV v = true := by
  cases r <;> first | rfl | cases h
theorem eqF_ok {d e : D} {v u : V} (r : Rep K as H d v) (s : Rep K as H e u) (h : flatD d = true) (h' : flatD e = true) : eqV v u = eqF d e := by
  cases r <;> first | (cases h; done) | (cases s <;> first | (cases h'; done) | rfl)
theorem flats_ok : ∀ {ds : List D} {vs : List V}, Reps K as H ds vs → ds.all flatD = true → vs.all flatV = true
  | _, _, .nil, _ => rfl
  | d :: ds, _, .cons r rs, h => by
    rw [List.all_cons, Bool.and_eq_true_iff] at h
    rw [List.all_cons, flatD_ok r h.1, flats_ok rs h.2]
    rfl
def inD (x : D) (ds : List D) : Bool := ds.any fun y => eqF y x
theorem inD_ok {x : D} {v : V} (r : Rep K as H x v) (hx : flatD x = true) : ∀ {ds : List D} {vs : List V}, Reps K as H ds vs → ds.all flatD = true → inV v vs = inD x ds
  | _, _, .nil, _ => rfl
  | d :: ds, _, .cons q rs, h => by
    rw [List.all_cons, Bool.and_eq_true_iff] at h
    unfold inV inD
    rw [List.any_cons, List.any_cons, eqF_ok q r h.1 hx]
    congr 1
    exact inD_ok r hx rs h.2
end

/-! ### operators -/
section
variable {X : Cx} {cl : Cl}
theorem OpJ.of {f : Value → Value → Sem Value} {r : D2} {r0 : R2} (h : OpR X f r0)
    (k : ∀ (E : XK) (as : Mp) (st : Sto) (H : Hp) (x y : V) (dx dy : D) (Q : VK), Wd X.K cl as st H → Rep X.K as H dx x → Rep X.K as H dy y → Post X.K cl E as H (r dx dy st) (QV X.K Q) → r0 x y H Q) : OpJ X cl f r :=
  fun E => OpR.mono h fun x y H Q ⟨as, st, dx, dy, w, rx, ry, p⟩ => k E as st H x y dx dy Q w rx ry p
/-- the end of a step that makes nothing -/
theorem Post.val {K : PySem.W.Frag} {E : XK} {as : Mp} {st : Sto} {H : Hp} {d : D} {v : V} {Q : VK} (p : Post K cl E as H (.ok d st) (QV K Q)) (w : Wd K cl as st H) (r : Rep K as H d v) : Q v H := p as H .refl w v r

def cmpI (f : Int → Int → Bool) : D2 := fun x y st => match x, y with
  | .int i, .int j => .ok (.bl (f i j)) st
  | _, _ => .bad
def opI2 (f : Int → Int → Int) (c : Int → Int → Bool) : D2 := fun x y st => match x, y with
  | .int i, .int j => if c i j = true then .ok (.int (f i j)) st else .bad
  | _, _ => .bad
theorem oj_I0 {f : Value → Value → Sem Value} {g : Int → Int → Bool} (h : OpR X f (rI0 fun i j => .bl (g i j))) : OpJ X cl f (cmpI g) := OpJ.of h fun E as st H x y dx dy Q w rx ry p => by
  unfold cmpI at p
  split at p
  · cases rx; cases ry
    exact ⟨_, _, rfl, rfl, p.val w (.bl _)⟩
  · exact p.elim
theorem oj_I {f : Value → Value → Sem Value} {C : Int → Int → Prop} {g : Int → Int → Int} {c : Int → Int → Bool} (h : OpR X f (rI C fun i j => .int (g i j))) (hc : ∀ i j, c i j = true → C i j) : OpJ X cl f (opI2 g c) := OpJ.of h fun E as st H x y dx dy Q w rx ry p => by
  unfold opI2 at p
  split at p
  · cases rx; cases ry
    split at p
    · rename_i i j hq
      exact ⟨i, j, rfl, rfl, hc _ _ hq, p.val w (.int _)⟩
    · exact p.elim
  · exact p.elim
def dLtI : D2 := cmpI fun i j => decide (i < j)
def dLeI : D2 := cmpI fun i j => decide (i ≤ j)
def dGtI : D2 := cmpI fun i j => decide (j < i)
def dGeI : D2 := cmpI fun i j => decide (j ≤ i)
theorem oj_lt : OpJ X cl (compareOp .Lt) dLtI := oj_I0 op_lt
theorem oj_le : OpJ X cl (compareOp .LtE) dLeI := oj_I0 op_le
theorem oj_gt : OpJ X cl (compareOp .Gt) dGtI := oj_I0 op_gt
theorem oj_ge : OpJ X cl (compareOp .GtE) dGeI := oj_I0 op_ge
def dSub : D2 := opI2 (fun i j => i - j) fun _ _ => true
def dMul : D2 := opI2 (fun i j => i * j) fun i j => decide (i.natAbs.log2 + j.natAbs.log2 < 1000000)
def dDiv : D2 := opI2 (fun i j => i / j) fun i j => decide (0 < j) && decide (j.natAbs.log2 < 9000)
def dMod : D2 := opI2 (fun i j => i % j) fun _ j => decide (0 < j)
def dPow : D2 := opI2 (fun i j => i ^ j.toNat) fun i j => decide (0 ≤ j) && decide (j ≤ 1000000) && decide (i.natAbs < 2 ^ 64)
def dShl : D2 := opI2 (fun i j => i * 2 ^ j.toNat) fun i j => decide (0 ≤ j) && decide (j ≤ 1000000) && decide (i.natAbs < 2 ^ 64)
theorem op_subC : OpR X (binaryOp .Sub) (rI (fun _ _ => True) fun i j => .int (i - j)) := OpR.mono op_sub fun _ _ _ _ ⟨i, j, h1, h2, _, q⟩ => ⟨i, j, h1, h2, q⟩
theorem oj_sub : OpJ X cl (binaryOp .Sub) dSub := oj_I op_subC fun _ _ _ => trivial
theorem oj_mul : OpJ X cl (binaryOp .Mult) dMul := oj_I op_mulW fun i j h => show i.natAbs.log2 + j.natAbs.log2 < 1000000 from of_decide_eq_true h
theorem oj_div : OpJ X cl (binaryOp .FloorDiv) dDiv := oj_I op_fdivW fun _ _ h => by
  rw [Bool.and_eq_true_iff] at h
  exact ⟨of_decide_eq_true h.1, of_decide_eq_true h.2⟩
theorem oj_mod : OpJ X cl (binaryOp .Mod) dMod := oj_I op_mod fun _ _ h => of_decide_eq_true h
theorem oj_pow : OpJ X cl (binaryOp .Pow) dPow := oj_I op_pow fun _ _ h => by
  rw [Bool.and_eq_true_iff, Bool.and_eq_true_iff] at h
  exact ⟨of_decide_eq_true h.1.1, of_decide_eq_true h.1.2, of_decide_eq_true h.2⟩
theorem oj_shl : OpJ X cl (binaryOp .LShift) dShl := oj_I op_shl fun _ _ h => by
  rw [Bool.and_eq_true_iff, Bool.and_eq_true_iff] at h
  exact ⟨of_decide_eq_true h.1.1, of_decide_eq_true h.1.2, of_decide_eq_true h.2⟩
/-- +: ints, texts, tuples, lists -/
def dAdd : D2 := fun x y st => match x, y with
  | .int i, .int j => .ok (.int (i + j)) st
  | .str a, .str b => if a.length + b.length ≤ sizeLine then .ok (.str (a ++ b)) st else .bad
  | .tup a, .tup b => if a.length + b.length ≤ sizeLine then .ok (.tup (a ++ b)) st else .bad
  | x, y => match lstOf x st, lstOf y st with
    | some a, some b => if a.length + b.length ≤ sizeLine then .ok (.lst (a ++ b)) st else .bad
    | _, _ => .bad
theorem Post.newT {K : PySem.W.Frag} {E : XK} {as : Mp} {st : Sto} {H : Hp} {ds : List D} {xs : List V} {Q : VK} (p : Post K cl E as H (.ok (.tup ds) st) (QV K Q)) (w : Wd K cl as st H) (r : Reps K as H ds xs) :
    ∀ a, H a = none → Q (.ref a) (upd H a (.tup xs)) := fun a ha => p as _ (Evo.new w ha) (w.new ha) _ (Rep.newT w ha r)
theorem Post.newL {K : PySem.W.Frag} {E : XK} {as : Mp} {st : Sto} {H : Hp} {ds : List D} {xs : List V} {Q : VK} (p : Post K cl E as H (.ok (.lst ds) st) (QV K Q)) (w : Wd K cl as st H) (r : Reps K as H ds xs) :
    ∀ a, H a = none → Q (.ref a) (upd H a (.lst xs)) := fun a ha => p as _ (Evo.new w ha) (w.new ha) _ (Rep.newL w ha r)
theorem oj_add : OpJ X cl (binaryOp .Add) dAdd := OpJ.of (OpR.or (X := X) op_add (OpR.or op_add_str (OpR.or op_catA op_cat))) fun E as st H x y dx dy Q w rx ry p => by
  unfold dAdd at p
  split at p
  · cases rx; cases ry
    exact .inl ⟨_, _, rfl, rfl, p.val w (.int _)⟩
  · cases rx; cases ry
    split at p
    · rename_i hl
      exact .inr (.inl ⟨_, _, rfl, rfl, hl, p.val w (.str _)⟩)
    · exact p.elim
  · rename_i a b
    cases rx with
    | tup s1 r1 =>
      cases ry with
      | tup s2 r2 =>
        split at p
        · rename_i hl
          refine .inr (.inr (.inl ⟨_, _, _, _, rfl, rfl, s1.t, s2.t, by rw [← r1.len, ← r2.len]; exact hl, fun e => ?_, fun _ e => ?_, fun _ _ => p.newT w (r1.append r2)⟩))
          · subst e; cases r1; exact p.val w (.tup s2 r2)
          · subst e; cases r2; rw [List.append_nil] at p; exact p.val w (.tup s1 r1)
        · exact p.elim
  · cases h1 : lstOf dx st with
    | none => rw [h1] at p; exact p.elim
    | some a =>
      cases h2 : lstOf dy st with
      | none => rw [h1, h2] at p; exact p.elim
      | some b =>
        rw [h1, h2] at p
        dsimp only at p
        obtain ⟨pa, xs, rfl, ha, ra⟩ := lstOf_ok w rx h1
        obtain ⟨pb, ys, rfl, hb, rb⟩ := lstOf_ok w ry h2
        split at p
        · rename_i hl
          exact .inr (.inr (.inr ⟨pa, pb, xs, ys, rfl, rfl, ha, hb, by rw [← ra.len, ← rb.len]; exact hl, p.newL w (ra.append rb)⟩))
        · exact p.elim
/-- == and != -/
def dEq (neg : Bool) : D2 := fun x y st => match topPy x st, topPy y st with
  | some p, some q => if SeqAt.shaped p && SeqAt.shaped q then .ok (.bl (neg ^^ PyData.eqv p q)) st else .bad
  | _, _ => .bad
theorem dEq_ok {E : XK} {as : Mp} {st : Sto} {H : Hp} {x y : V} {dx dy : D} {Q : VK} {neg : Bool} (w : Wd X.K cl as st H) (rx : Rep X.K as H dx x) (ry : Rep X.K as H dy y) (p : Post X.K cl E as H (dEq neg dx dy st) (QV X.K Q)) :
    ∃ d e, Dp X.K H x d ∧ Dp X.K H y e ∧ SeqAt.shaped d = true ∧ SeqAt.shaped e = true ∧ Q (.bl (neg ^^ PyData.eqv d e)) H := by
  unfold dEq at p
  cases h1 : topPy dx st with
  | none => rw [h1] at p; exact p.elim
  | some a =>
    cases h2 : topPy dy st with
    | none => rw [h1, h2] at p; exact p.elim
    | some b =>
      rw [h1, h2] at p
      dsimp only at p
      split at p
      · rename_i hs
        rw [Bool.and_eq_true_iff] at hs
        exact ⟨a, b, topPy_ok w rx h1, topPy_ok w ry h2, hs.1, hs.2, p.val w (.bl _)⟩
      · exact p.elim
theorem oj_eq (hu : X.A.units + 64 < cLine) : OpJ X cl (compareOp .Eq) (dEq false) := OpJ.of (op_eqD hu) fun E as st H x y dx dy Q w rx ry p => by
  obtain ⟨d, e, h1, h2, h3, h4, h5⟩ := dEq_ok w rx ry p
  exact ⟨d, e, h1, h2, h3, h4, by rw [Bool.false_xor] at h5; exact h5⟩
theorem oj_ne (hu : X.A.units + 64 < cLine) : OpJ X cl (compareOp .NotEq) (dEq true) := OpJ.of (op_neD hu) fun E as st H x y dx dy Q w rx ry p => by
  obtain ⟨d, e, h1, h2, h3, h4, h5⟩ := dEq_ok w rx ry p
  exact ⟨d, e, h1, h2, h3, h4, by rw [Bool.true_xor] at h5; exact h5⟩
/-- in and not in: texts; flat rows; lists of data -/
def dIn (neg : Bool) : D2 := fun x y st => match x, y with
  | .str a, .str b => .ok (.bl (neg ^^ !(Builtin.Str.occurrences b a 0 b.length 1).isEmpty)) st
  | x, y => match seqOf y st with
    | some ds => if flatD x && ds.all flatD then .ok (.bl (neg ^^ inD x ds)) st else
      match toPy x, topPy y st with
      | some p, some (.list qs) => if SeqAt.shaped p && SeqAt.shaped (.list qs) then .ok (.bl (neg ^^ qs.any fun z => PyData.eqv z p)) st else .bad
      | _, _ => .bad
    | none => .bad
theorem dIn_ok {E : XK} {as : Mp} {st : Sto} {H : Hp} {x y : V} {dx dy : D} {Q : VK} {neg : Bool} (w : Wd X.K cl as st H) (rx : Rep X.K as H dx x) (ry : Rep X.K as H dy y) (p : Post X.K cl E as H (dIn neg dx dy st) (QV X.K Q)) :
    (∃ i j, x = .str i ∧ y = .str j ∧ Q (.bl (neg ^^ !(Builtin.Str.occurrences j i 0 j.length 1).isEmpty)) H) ∨ rIn X.K neg x y H Q ∨
    ∃ d ds, Dp X.K H x d ∧ Dp X.K H y (.list ds) ∧ SeqAt.shaped d = true ∧ SeqAt.shaped (.list ds) = true ∧ Q (.bl (neg ^^ ds.any fun z => PyData.eqv z d)) H := by
  unfold dIn at p
  split at p
  · cases rx; cases ry
    exact .inl ⟨_, _, rfl, rfl, p.val w (.bl _)⟩
  · cases h1 : seqOf dy st with
    | none => rw [h1] at p; exact p.elim
    | some ds =>
      rw [h1] at p
      dsimp only at p
      by_cases hf : (flatD dx && ds.all flatD) = true
      · rw [if_pos hf] at p
        rw [Bool.and_eq_true_iff] at hf
        obtain ⟨q, xs, rfl, hq, rs⟩ := seqOf_ok w ry h1
        refine .inr (.inl ⟨q, xs, rfl, hq, flatD_ok rx hf.1, flats_ok rs hf.2, ?_⟩)
        have e := p.val w (.bl _)
        rw [inD_ok rx hf.1 rs hf.2]
        cases neg
        · rw [Bool.false_xor] at e; exact e
        · rw [Bool.true_xor] at e; exact e
      · rw [if_neg hf] at p
        cases h2 : toPy dx with
        | none => rw [h2] at p; exact p.elim
        | some d =>
          cases h3 : topPy dy st with
          | none => rw [h2, h3] at p; exact p.elim
          | some e =>
            rw [h2, h3] at p
            cases e with
            | list qs =>
              dsimp only at p
              split at p
              · rename_i hs
                rw [Bool.and_eq_true_iff] at hs
                exact .inr (.inr ⟨d, qs, toPy_ok rx h2, topPy_ok w ry h3, hs.1, hs.2, p.val w (.bl _)⟩)
              · exact p.elim
            | _ => exact p.elim
theorem oj_in (hu : X.A.units + 65 < cLine) : OpJ X cl (compareOp .In) (dIn false) := OpJ.of (OpR.or (X := X) op_in_str (OpR.or op_in_seq (op_inD hu))) fun E as st H x y dx dy Q w rx ry p => by
  rcases dIn_ok w rx ry p with ⟨i, j, h1, h2, h3⟩ | h | ⟨d, ds, h1, h2, h3, h4, h5⟩
  · exact .inl ⟨i, j, h1, h2, by rw [Bool.false_xor] at h3; exact h3⟩
  · exact .inr (.inl h)
  · exact .inr (.inr ⟨d, ds, h1, h2, h3, h4, by rw [Bool.false_xor] at h5; exact h5⟩)
theorem oj_notIn (hu : X.A.units + 65 < cLine) : OpJ X cl (compareOp .NotIn) (dIn true) := OpJ.of (OpR.or (X := X) op_notIn_str (OpR.or op_notIn_seq (op_notInD hu))) fun E as st H x y dx dy Q w rx ry p => by
  rcases dIn_ok w rx ry p with ⟨i, j, h1, h2, h3⟩ | h | ⟨d, ds, h1, h2, h3, h4, h5⟩
  · exact .inl ⟨i, j, h1, h2, by rw [Bool.true_xor] at h3; exact h3⟩
  · exact .inr (.inl h)
  · exact .inr (.inr ⟨d, ds, h1, h2, h3, h4, by rw [Bool.true_xor] at h5; exact h5⟩)
/-- is, is not: None, truths -/
def isNon : D → Option Bool
  | .non => some true
  | .bl _ => some false
  | .int _ => some false
  | .str _ => some false
  | .tup _ => some false
  | .lst _ => some false
  | .fro _ => some false
  | .dic _ => some false
  | .ref _ => some false
  | .raw _ => none
def dIs (neg : Bool) : D2 := fun x y st => match x, y with
  | .bl a, .bl b => .ok (.bl (neg ^^ decide (a = b))) st
  | x, .non => match isNon x with
    | some b => .ok (.bl (neg ^^ b)) st
    | none => .bad
  | _, _ => .bad
theorem isNon_ok {K : PySem.W.Frag} {as : Mp} {H : Hp} {d : D} {v : V} {b : Bool} (r : Rep K as H d v) (h : isNon d = some b) : decide (v = .non) = b := by
  cases r <;> cases h <;> simp
theorem dIs_ok {E : XK} {as : Mp} {st : Sto} {H : Hp} {x y : V} {dx dy : D} {Q : VK} {neg : Bool} (w : Wd X.K cl as st H) (rx : Rep X.K as H dx x) (ry : Rep X.K as H dy y) (p : Post X.K cl E as H (dIs neg dx dy st) (QV X.K Q)) :
    (y = .non ∧ Q (.bl (neg ^^ decide (x = .non))) H) ∨ ∃ a b : Bool, x = .bl a ∧ y = .bl b ∧ Q (.bl (neg ^^ decide (a = b))) H := by
  unfold dIs at p
  split at p
  · cases rx; cases ry
    exact .inr ⟨_, _, rfl, rfl, p.val w (.bl _)⟩
  · cases ry
    split at p
    · rename_i b hb
      exact .inl ⟨rfl, by rw [isNon_ok rx hb]; exact p.val w (.bl _)⟩
    · exact p.elim
  · exact p.elim
theorem oj_is : OpJ X cl (compareOp .Is) (dIs false) := OpJ.of (OpR.or (X := X) op_isN op_isBl) fun E as st H x y dx dy Q w rx ry p => by
  rcases dIs_ok w rx ry p with ⟨h1, h2⟩ | ⟨a, b, h1, h2, h3⟩
  · exact .inl ⟨h1, by rw [Bool.false_xor] at h2; exact h2⟩
  · exact .inr ⟨a, b, h1, h2, by rw [Bool.false_xor] at h3; exact h3⟩
theorem oj_isNot : OpJ X cl (compareOp .IsNot) (dIs true) := OpJ.of (OpR.or (X := X) op_notN op_notBl) fun E as st H x y dx dy Q w rx ry p => by
  rcases dIs_ok w rx ry p with ⟨h1, h2⟩ | ⟨a, b, h1, h2, h3⟩
  · exact .inl ⟨h1, by rw [Bool.true_xor] at h2; exact h2⟩
  · exact .inr ⟨a, b, h1, h2, by rw [Bool.true_xor] at h3; exact h3⟩
end

/-! ### -a -/
def dNeg (t : DE) : DE := fun τ st => (t τ st).bind fun d st => match d with
  | .int i => .ok (.int (-i)) st
  | _ => .bad
section
variable {X : Cx} {cl : Cl} {W : WX} {pos : Pos} {a b : Expr} {ta tb : DE}
theorem j_neg (ha : JE X cl W a ta) : JE X cl W (.UnaryOp .USub a pos) (dNeg ta) := by
  refine PE.mono (pe_un un_neg ha) fun σ H Q ⟨as, st, τ, w, e, p⟩ => ⟨as, st, τ, w, e, p.bind.mono fun d st1 as1 H1 e1 w1 p1 v rv => ?_⟩
  cases d with
  | int i => cases rv; exact ⟨i, rfl, p1.val w1 (.int _)⟩
  | _ => exact p1.elim
end

/-! ### built-ins by their names -/
abbrev DC := DF
def liftC (K : PySem.W.Frag) (cl : Cl) (E : XK) (r : DC) : List V → Hp → VK → Prop := fun xs H Q => ∃ as st ds, Wd K cl as st H ∧ Reps K as H ds xs ∧ Post K cl E as H (r ds st) (QV K Q)
def CallJ (X : Cx) (cl : Cl) (f : Value) (r : DC) : Prop := ∀ E : XK, CallR X f (liftC X.K cl E r)
theorem CallR.or' {X : Cx} {f : Value} {r r' : List V → Hp → VK → Prop} (h : CallR X f r) (h' : CallR X f r') : CallR X f (fun xs H Q => r xs H Q ∨ r' xs H Q) := fun pins s σ H xs us Q I r q =>
  q.elim (h pins s σ H xs us Q I r) (h' pins s σ H xs us Q I r)
theorem CallJ.of {X : Cx} {cl : Cl} {f : Value} {r : DC} {r0 : List V → Hp → VK → Prop} (h : CallR X f r0)
    (k : ∀ (E : XK) (as : Mp) (st : Sto) (H : Hp) (xs : List V) (ds : List D) (Q : VK), Wd X.K cl as st H → Reps X.K as H ds xs → Post X.K cl E as H (r ds st) (QV X.K Q) → r0 xs H Q) : CallJ X cl f r :=
  fun E => CallR.mono h fun xs H Q ⟨as, st, ds, w, rs, p⟩ => k E as st H xs ds Q w rs p
def dApp (r : DC) (t : DA) : DE := fun τ st => (t τ st).bind fun ds st => r ds st
section
variable {X : Cx} {cl : Cl} {W : WX} {p pos : Pos} {e : Expr} {es : List Expr} {t : DA} {x : Str} {r : DC}
theorem lift_app {σ : L2.St} {H : Hp} {Q : VK} (h : lift X.K cl W (dApp r t) σ H Q) : tCB (liftC X.K cl (WE W σ) r) (liftA X.K cl W t) σ H Q := by
  obtain ⟨as, st, τ, w, e, p⟩ := h
  exact ⟨as, st, τ, w, e, p.bind.mono fun ds st1 as1 H1 e1 w1 p1 xs rx => ⟨as1, st1, ds, w1, rx, p1⟩⟩
theorem j_callB {id : String} (hc : CallJ X cl (.builtin id) r) (hg : Gl X x) (hm : X.mg x = none) (hv : bootBuiltins x = some (.builtin id)) (ha : JA X cl W (e :: es) t) (hn : x ≠ "__name__" := by decide) (hdb : (x == ("__debug__" : Str)) = false := by decide)
    (he : starEach (e :: es) X.env = (false, eval e X.env) :: starEach es X.env := by rfl) (hpl : (backTo pos (starEach es X.env)).any (·.1) = false := by rfl) : JE X cl W (.Call (.Name x p) (e :: es) [] pos) (dApp r t) :=
  ⟨fun pins s σ H Q I h => (pe_callB (hc (WE W σ)) hg hm hv ha hn hdb he hpl).run pins s σ H Q I (lift_app h)⟩
theorem j_callTy {T : String} (hc : CallJ X cl (.type T) r) (hg : Gl X x) (hm : X.mg x = none) (hv : bootBuiltins x = some (.type T)) (ha : JA X cl W (e :: es) t) (hn : x ≠ "__name__" := by decide) (hdb : (x == ("__debug__" : Str)) = false := by decide)
    (he : starEach (e :: es) X.env = (false, eval e X.env) :: starEach es X.env := by rfl) (hpl : (backTo pos (starEach es X.env)).any (·.1) = false := by rfl) : JE X cl W (.Call (.Name x p) (e :: es) [] pos) (dApp r t) :=
  ⟨fun pins s σ H Q I h => (pe_callTy (hc (WE W σ)) hg hm hv ha hn hdb he hpl).run pins s σ H Q I (lift_app h)⟩
end
section
variable {X : Cx} {cl : Cl}
theorem Reps.one {K : PySem.W.Frag} {as : Mp} {H : Hp} {d : D} : ∀ {xs : List V}, Reps K as H [d] xs → ∃ v, xs = [v] ∧ Rep K as H d v
  | _, .cons r .nil => ⟨_, rfl, r⟩
theorem Reps.two {K : PySem.W.Frag} {as : Mp} {H : Hp} {d e : D} : ∀ {xs : List V}, Reps K as H [d, e] xs → ∃ v u, xs = [v, u] ∧ Rep K as H d v ∧ Rep K as H e u
  | _, .cons r (.cons q .nil) => ⟨_, _, rfl, r, q⟩
/-- len -/
def cLen : DC := fun ds st => match ds with
  | [.str y] => if y.length ≤ sizeLine then .ok (.int y.length) st else .bad
  | [d] => match seqOf d st with
    | some xs => .ok (.int xs.length) st
    | none => match dicOf d st with
      | some kvs => .ok (.int kvs.length) st
      | none => .bad
  | _ => .bad
theorem cj_len : CallJ X cl (.builtin "len") cLen := CallJ.of (CallR.or' (X := X) call_len_str (CallR.or' call_len_seq call_lenD)) fun E as st H xs ds Q w rs p => by
  unfold cLen at p
  split at p
  · obtain ⟨v, rfl, r⟩ := rs.one
    cases r
    split at p
    · rename_i hl
      exact .inl ⟨_, rfl, hl, p.val w (.int _)⟩
    · exact p.elim
  · rename_i d _
    obtain ⟨v, rfl, r⟩ := rs.one
    cases h1 : seqOf d st with
    | some ys =>
      rw [h1] at p
      obtain ⟨q, zs, rfl, hq, rz⟩ := seqOf_ok w r h1
      exact .inr (.inl ⟨q, zs, rfl, hq, by rw [← rz.len]; exact p.val w (.int _)⟩)
    | none =>
      rw [h1] at p
      cases h2 : dicOf d st with
      | none => rw [h2] at p; exact p.elim
      | some kvs =>
        rw [h2] at p
        obtain ⟨q, zs, rfl, hq, rz⟩ := dicOf_ok w r h2
        exact .inr (.inr ⟨q, zs, rfl, hq, by rw [← rz.len]; exact p.val w (.int _)⟩)
  · exact p.elim
def cAbs : DC := fun ds st => match ds with
  | [.int i] => .ok (.int (if i < 0 then -i else i)) st
  | _ => .bad
theorem cj_abs : CallJ X cl (.builtin "abs") cAbs := CallJ.of call_abs fun E as st H xs ds Q w rs p => by
  unfold cAbs at p
  split at p
  · obtain ⟨v, rfl, r⟩ := rs.one
    cases r
    exact ⟨_, rfl, p.val w (.int _)⟩
  · exact p.elim
def cMin2 : DC := fun ds st => match ds with
  | [.int i, .int j] => .ok (.int (if j < i then j else i)) st
  | _ => .bad
theorem cj_min2 (hc : X.calm = true) : CallJ X cl (.builtin "min") cMin2 := CallJ.of (call_min2 hc) fun E as st H xs ds Q w rs p => by
  unfold cMin2 at p
  split at p
  · obtain ⟨v, u, rfl, r, q⟩ := rs.two
    cases r; cases q
    exact ⟨_, _, rfl, p.val w (.int _)⟩
  · exact p.elim
def cMax2 : DC := fun ds st => match ds with
  | [.int i, .int j] => .ok (.int (if j > i then j else i)) st
  | _ => .bad
theorem cj_max2 (hc : X.calm = true) : CallJ X cl (.builtin "max") cMax2 := CallJ.of (call_max2 hc) fun E as st H xs ds Q w rs p => by
  unfold cMax2 at p
  split at p
  · obtain ⟨v, u, rfl, r, q⟩ := rs.two
    cases r; cases q
    exact ⟨_, _, rfl, p.val w (.int _)⟩
  · exact p.elim
def cInt : DC := fun ds st => match ds with
  | [.int i] => .ok (.int i) st
  | [.bl b] => .ok (.int (if b then 1 else 0)) st
  | _ => .bad
theorem cj_int : CallJ X cl (.type "int") cInt := CallJ.of call_int1 fun E as st H xs ds Q w rs p => by
  unfold cInt at p
  split at p
  · obtain ⟨v, rfl, r⟩ := rs.one
    cases r
    exact .inl ⟨_, rfl, p.val w (.int _)⟩
  · obtain ⟨v, rfl, r⟩ := rs.one
    cases r
    exact .inr ⟨_, rfl, p.val w (.int _)⟩
  · exact p.elim
/-- tuple(xs), list(xs) -/
def cTuple : DC := fun ds st => match ds with
  | [.tup xs] => .ok (.tup xs) st
  | [d] => match seqOf d st with
    | some xs => .ok (.tup xs) st
    | none => .bad
  | _ => .bad
theorem seqOf_list {K : PySem.W.Frag} {as : Mp} {st : Sto} {H : Hp} {d : D} {v : V} {ds : List D} (w : Wd K cl as st H) (r : Rep K as H d v) (h : seqOf d st = some ds) : (d = .tup ds) ∨ ∃ p xs, v = .ref p ∧ SqL K H p xs ∧ Reps K as H ds xs := by
  cases r with
  | tup s r => cases h; exact .inl rfl
  | lst n h1 r => cases h; exact .inr ⟨_, _, rfl, .of h1, r⟩
  | fro s r => cases h; exact .inr ⟨_, _, rfl, s.l, r⟩
  | @ref n a h1 =>
    have h : (match st[n]? with | some (.lst ds) => some ds | _ => none) = some ds := h
    cases hs : st[n]? with
    | none => rw [hs] at h; cases h
    | some o =>
      rw [hs] at h
      cases o with
      | lst es =>
        cases h
        obtain ⟨xs, h2, r⟩ := w.lst h1 hs
        exact .inr ⟨_, _, rfl, .of h2, r⟩
      | _ => cases h
  | _ => cases h
theorem cj_tuple : CallJ X cl (.type "tuple") cTuple := CallJ.of call_tuple_of fun E as st H xs ds Q w rs p => by
  unfold cTuple at p
  split at p
  · obtain ⟨v, rfl, r⟩ := rs.one
    cases r with
    | tup s r => exact ⟨_, _, rfl, .inr ⟨s.t, p.val w (.tup s r)⟩⟩
  · rename_i d hd
    obtain ⟨v, rfl, r⟩ := rs.one
    cases h1 : seqOf d st with
    | none => rw [h1] at p; exact p.elim
    | some ys =>
      rw [h1] at p
      rcases seqOf_list w r h1 with e | ⟨q, zs, rfl, hq, rz⟩
      · exact (hd ys e).elim
      · exact ⟨q, zs, rfl, .inl ⟨hq, p.newT w rz⟩⟩
  · exact p.elim
def cList : DC := fun ds st => match ds with
  | [d] => match seqOf d st with
    | some xs => .ok (.lst xs) st
    | none => .bad
  | _ => .bad
theorem cj_list : CallJ X cl (.type "list") cList := CallJ.of call_list_of fun E as st H xs ds Q w rs p => by
  unfold cList at p
  split at p
  · rename_i d
    obtain ⟨v, rfl, r⟩ := rs.one
    cases h1 : seqOf d st with
    | none => rw [h1] at p; exact p.elim
    | some ys =>
      rw [h1] at p
      obtain ⟨q, zs, rfl, hq, rz⟩ := seqOf_ok w r h1
      exact ⟨q, zs, rfl, hq, p.newL w rz⟩
  · exact p.elim
/-- .. that will change -/
def cListN : DC := fun ds st => match ds with
  | [d] => match seqOf d st with
    | some xs => .ok (.ref st.length) (st ++ [.lst xs])
    | none => .bad
  | _ => .bad
theorem cj_listN : CallJ X cl (.type "list") cListN := CallJ.of call_list_of fun E as st H xs ds Q w rs p => by
  unfold cListN at p
  split at p
  · rename_i d
    obtain ⟨v, rfl, r⟩ := rs.one
    cases h1 : seqOf d st with
    | none => rw [h1] at p; exact p.elim
    | some ys =>
      rw [h1] at p
      obtain ⟨q, zs, rfl, hq, rz⟩ := seqOf_ok w r h1
      exact ⟨q, zs, rfl, hq, fun a ha => p _ _ (Evo.push w ha) (w.push ha (.lst rz)) _ (Rep.newRef w)⟩
  · exact p.elim
/-- isinstance(x, T), T a built-in type -/
def tyNm : D → Sto → Option String
  | .non, _ => some "NoneType"
  | .bl _, _ => some "bool"
  | .int _, _ => some "int"
  | .str _, _ => some "str"
  | .tup _, _ => some "tuple"
  | .lst _, _ => some "list"
  | .fro _, _ => some "list"
  | .dic _, _ => some "dict"
  | .ref n, st => match st[n]? with
    | some (.lst _) => some "list"
    | some (.dK _) => some "dict"
    | _ => none
  | .raw _, _ => none
def isTy (T : String) (n : String) : Bool := n == T || (n == "bool" && T == "int")
def cIsi (T : String) : DC := fun ds st => match ds with
  | [d, .raw (.ty U)] => if U = T then (match tyNm d st with
    | some n => .ok (.bl (isTy T n)) st
    | none => .bad) else .bad
  | _ => .bad
theorem tyNm_ok {as : Mp} {st : Sto} {H : Hp} {d : D} {v : V} {n : String} (w : Wd X.K cl as st H) (r : Rep X.K as H d v) (h : tyNm d st = some n) :
    TyX X.K H v (.type n) ∧ n ∈ ["NoneType", "bool", "int", "str", "tuple", "list", "dict"] := by
  cases r with
  | non => cases h; exact ⟨.base .non, by decide⟩
  | bl b => cases h; exact ⟨.base (.bl _), by decide⟩
  | int i => cases h; exact ⟨.base (.int _), by decide⟩
  | str x => cases h; exact ⟨.base (.str _), by decide⟩
  | tup s r =>
    cases h
    rcases s with ⟨_, s⟩ | ⟨o, its, n, h1, h2, _⟩
    · exact ⟨.base (.tup s), by decide⟩
    · exact ⟨.kTuple h1 h2, by decide⟩
  | lst n h1 r => cases h; exact ⟨.base (.lst h1), by decide⟩
  | fro s r =>
    cases h
    rcases s with ⟨_, o, s⟩ | ⟨o, its, n, h1, h2, _⟩
    · exact ⟨.base (.frz s), by decide⟩
    · exact ⟨.kList h1 h2, by decide⟩
  | dic n h1 r => cases h; exact ⟨.base (.dK h1), by decide⟩
  | @ref m a h1 =>
    have h : (match st[m]? with | some (.lst _) => some "list" | some (.dK _) => some "dict" | _ => none) = some n := h
    cases hs : st[m]? with
    | none => rw [hs] at h; cases h
    | some o =>
      rw [hs] at h
      cases o with
      | lst es =>
        cases h
        obtain ⟨xs, h2, r⟩ := w.lst h1 hs
        exact ⟨.base (.lst h2), by decide⟩
      | dK es =>
        cases h
        obtain ⟨xs, h2, r⟩ := w.dK h1 hs
        exact ⟨.base (.dK h2), by decide⟩
      | _ => cases h
  | raw => cases h
theorem cj_isi {T : String} (hT : ∀ n ∈ ["NoneType", "bool", "int", "str", "tuple", "list", "dict"], PySem.W.kitOne X.K (.type n) (.type T) = some (isTy T n)) : CallJ X cl (.builtin "isinstance") (cIsi T) := CallJ.of call_isi fun E as st H xs ds Q w rs p => by
  unfold cIsi at p
  split at p
  · rename_i d U
    by_cases hU : U = T
    · rw [if_pos hU] at p
      subst hU
      obtain ⟨v, u, rfl, r, q⟩ := rs.two
      cases q
      cases h1 : tyNm d st with
      | none => rw [h1] at p; exact p.elim
      | some n =>
        rw [h1] at p
        obtain ⟨h2, h3⟩ := tyNm_ok w r h1
        exact ⟨v, .ty U, _, _, _, rfl, .ty U, h2, hT n h3, p.val w (.bl _)⟩
    · rw [if_neg hU] at p; exact p.elim
  · exact p.elim
theorem kit_all {K : PySem.W.Frag} {T : String} (h : (["NoneType", "bool", "int", "str", "tuple", "list", "dict"].all fun n => L2.kitB n T == some (isTy T n)) = true) :
    ∀ n ∈ ["NoneType", "bool", "int", "str", "tuple", "list", "dict"], PySem.W.kitOne K (.type n) (.type T) = some (isTy T n) := fun n hn => kit_ty (by
  have := List.all_eq_true.mp h n hn
  exact beq_iff_eq.mp this)
theorem cj_isi_int : CallJ X cl (.builtin "isinstance") (cIsi "int") := cj_isi (kit_all (by decide +kernel))
theorem cj_isi_bool : CallJ X cl (.builtin "isinstance") (cIsi "bool") := cj_isi (kit_all (by decide +kernel))
theorem cj_isi_str : CallJ X cl (.builtin "isinstance") (cIsi "str") := cj_isi (kit_all (by decide +kernel))
theorem cj_isi_tuple : CallJ X cl (.builtin "isinstance") (cIsi "tuple") := cj_isi (kit_all (by decide +kernel))
theorem cj_isi_list : CallJ X cl (.builtin "isinstance") (cIsi "list") := cj_isi (kit_all (by decide +kernel))
theorem cj_isi_dict : CallJ X cl (.builtin "isinstance") (cIsi "dict") := cj_isi (kit_all (by decide +kernel))
end
end DL

/-! DL4: subscripts, slices, dicts, fields, calls of defs, loops, comprehensions, methods of lists. -/
namespace DL
open PySem PySem.Spec PyProof.Rows L2

/-! ### subscripts -/
theorem pe_ixS {X : Cx} {a b : Expr} {t1 t2 : TE} {pos : Pos} {r : L2.St → R2} (hr : ∀ σ, IxR X (r σ)) (ha : PE X a t1) (hb : PE X b t2) (hs : PlainIx b) : PE X (.Subscript a b pos) (fun σ H Q => tOp (r σ) t1 t2 σ H Q) :=
  ⟨fun pins s σ H Q I h => (pe_ix (pos := pos) (hr σ) ha hb hs).run pins s σ H Q I h⟩
def dIx : D2 := fun x y st => match x, y with
  | .str z, .int i => if z.length ≤ sizeLine then (match atI z.cps.toList i with
    | some c => .ok (.str ⟨#[c]⟩) st
    | none => .bad) else .bad
  | x, .int i => match seqOf x st with
    | some ds => (match atI ds i with
      | some d => .ok d st
      | none => .bad)
    | none => .bad
  | _, _ => .bad
section
variable {X : Cx} {cl : Cl} {W : WX} {pos : Pos} {a b : Expr} {ta tb : DE}
theorem atI_rep {K : PySem.W.Frag} {as : Mp} {H : Hp} {ds : List D} {xs : List V} {i : Int} {d : D} (r : Reps K as H ds xs) (h : atI ds i = some d) : ∃ v, atI xs i = some v ∧ Rep K as H d v := by
  unfold atI at h ⊢
  rw [← r.len]
  cases hn : ixN ds.length i with
  | none => rw [hn] at h; cases h
  | some j =>
    rw [hn] at h
    obtain ⟨v, h1, h2⟩ := r.get (i := j) (d := d) h
    exact ⟨v, h1, h2⟩
theorem IxR.or3 {r r' r'' : R2} (h : IxR X r) (h' : IxR X r') (h'' : IxR X r'') : IxR X (fun x y H Q => r x y H Q ∨ r' x y H Q ∨ r'' x y H Q) := IxR.or h (IxR.or h' h'')
theorem ix_ok (E : XK) : IxR X (liftR X.K cl E dIx) := IxR.mono (IxR.or3 (X := X) ix_str ix_list ix_tup) fun x y H Q ⟨as, st, dx, dy, w, rx, ry, p⟩ => by
  unfold dIx at p
  split at p
  · rename_i z i
    cases rx; cases ry
    split at p
    · rename_i hz
      cases h : atI z.cps.toList i with
      | none => rw [h] at p; exact p.elim
      | some c => rw [h] at p; exact .inl ⟨_, _, _, rfl, rfl, hz, h, p.val w (.str _)⟩
    · exact p.elim
  · rename_i i _
    cases ry
    cases h1 : seqOf dx st with
    | none => rw [h1] at p; exact p.elim
    | some ds =>
      rw [h1] at p
      dsimp only at p
      obtain ⟨q, xs, rfl, hq, rs⟩ := seqOf_ok w rx h1
      cases h2 : atI ds i with
      | none => rw [h2] at p; exact p.elim
      | some d =>
        rw [h2] at p
        obtain ⟨v, h3, h4⟩ := atI_rep rs h2
        rcases hq with hq | hq
        · exact .inr (.inl ⟨q, xs, i, v, rfl, rfl, hq, h3, p.val w h4⟩)
        · exact .inr (.inr ⟨q, xs, i, v, rfl, rfl, hq, h3, p.val w h4⟩)
  · exact p.elim
theorem j_ix (ha : JE X cl W a ta) (hb : JE X cl W b tb) (hs : PlainIx b := by intro _ _; rfl) : JE X cl W (.Subscript a b pos) (dBin dIx ta tb) :=
  PE.mono (pe_ixS (fun σ => ix_ok (WE W σ)) ha hb hs) fun _ _ _ h => lift_bin h
end

/-! ### slices -/
abbrev DO := En → Sto → R (Option Int)
def liftO (K : PySem.W.Frag) (cl : Cl) (W : WX) (t : DO) : TO := fun σ H Q => ∃ as st τ, Wd K cl as st H ∧ RepE K as H τ σ ∧ Post K cl (WE W σ) as H (t τ st) fun o _ _ H' => Q o H'
abbrev JO (X : Cx) (cl : Cl) (W : WX) (e : Option Expr) (t : DO) : Prop := PO X e (liftO X.K cl W t)
theorem PO.mono {X : Cx} {e : Option Expr} {t t' : TO} (h : PO X e t) (k : ∀ σ H Q, t' σ H Q → t σ H Q) : PO X e t' := ⟨fun pins s σ H Q I q => h.run pins s σ H Q I (k _ _ _ q)⟩
def dNoPart : DO := fun _ st => .ok none st
def dPart (t : DE) : DO := fun τ st => (t τ st).bind fun d st => match d with
  | .int i => .ok (some i) st
  | _ => .bad
def cutL {α : Type} (xs : List α) (lo hi : Option Int) : List α := (xs.drop (HT.sIx xs.length 0 lo)).take (HT.sIx xs.length xs.length hi - HT.sIx xs.length 0 lo)
def dCut (x : D) (lo hi : Option Int) (st : Sto) : R D := match x with
  | .str z => if z.length ≤ sizeLine then .ok (.str (cutS z lo hi)) st else .bad
  | .tup ds => .ok (.tup (cutL ds lo hi)) st
  | x => match seqOf x st with
    | some ds => .ok (.lst (cutL ds lo hi)) st
    | none => .bad
def dSl (te : DE) (tl th : DO) : DE := fun τ st => (te τ st).bind fun x st => (tl τ st).bind fun lo st => (th τ st).bind fun hi st => dCut x lo hi st
section
variable {X : Cx} {cl : Cl} {W : WX} {pos p2 : Pos} {e : Expr} {lo hi : Option Expr} {te : DE} {tl th : DO}
theorem jo_none : JO X cl W none dNoPart := PO.mono po_none fun σ H Q ⟨as, st, τ, w, e, p⟩ => p.here w
theorem jo_some (h : JE X cl W e te) : JO X cl W (some e) (dPart te) := PO.mono (po_some h) fun σ H Q ⟨as, st, τ, w, e, p⟩ => ⟨as, st, τ, w, e, p.bind.mono fun d st1 as1 H1 e1 w1 p1 v rv => by
  cases d with
  | int i => cases rv; exact ⟨i, rfl, p1.here w1⟩
  | _ => exact p1.elim⟩
theorem cutL_whole {α : Type} {xs : List α} {lo hi : Option Int} (h : HT.sIx xs.length 0 lo = 0 ∧ HT.sIx xs.length xs.length hi = xs.length) : cutL xs lo hi = xs := by
  unfold cutL
  rw [h.1, h.2, List.drop_zero, Nat.sub_zero, List.take_length]
theorem Reps.cut {K : PySem.W.Frag} {as : Mp} {H : Hp} {ds : List D} {xs : List V} (r : Reps K as H ds xs) (lo hi : Option Int) : Reps K as H (cutL ds lo hi) (cutV xs lo hi) := by
  unfold cutL cutV
  rw [r.len]
  exact (r.drop _).take _
theorem SlR.mono {r r' : V → Option Int → Option Int → Hp → VK → Prop} (h : SlR X r) (k : ∀ x lo hi H Q, r' x lo hi H Q → r x lo hi H Q) : SlR X r' := fun pins s σ H x v vl vu lo hi sl Q I rx hs pl pu q => h pins s σ H x v vl vu lo hi sl Q I rx hs pl pu (k _ _ _ _ _ q)
def rSlD (K : PySem.W.Frag) (cl : Cl) (E : XK) : V → Option Int → Option Int → Hp → VK → Prop := fun x lo hi H Q => ∃ as st d, Wd K cl as st H ∧ Rep K as H d x ∧ Post K cl E as H (dCut d lo hi st) (QV K Q)
theorem sl_ok (E : XK) : SlR X (rSlD X.K cl E) := SlR.mono (SlR.or (X := X) sl_str (SlR.or sl_tupA sl_list)) fun x lo hi H Q ⟨as, st, d, w, rx, p⟩ => by
  unfold dCut at p
  split at p
  · cases rx
    split at p
    · rename_i hz
      exact .inl ⟨_, rfl, hz, p.val w (.str _)⟩
    · exact p.elim
  · cases rx with
    | tup s r =>
      refine .inr (.inl ⟨_, _, rfl, s.t, fun hw => ?_, fun _ => p.newT w (r.cut lo hi)⟩)
      rw [cutL_whole (by rw [r.len]; exact hw)] at p
      exact p.val w (.tup s r)
  · rename_i hx1 hx2
    cases h1 : seqOf d st with
    | none => rw [h1] at p; exact p.elim
    | some ds =>
      rw [h1] at p
      rcases seqOf_list w rx h1 with e | ⟨q, xs, rfl, hq, rs⟩
      · exact (hx2 ds e).elim
      · exact .inr (.inr ⟨q, xs, rfl, hq, p.newL w (rs.cut lo hi)⟩)
theorem pe_sliceS {r : L2.St → V → Option Int → Option Int → Hp → VK → Prop} {t1 : TE} {t2 t3 : TO} (hr : ∀ σ, SlR X (r σ)) (he : PE X e t1) (hl : PO X lo t2) (hu : PO X hi t3) : PE X (.Subscript e (.Slice lo hi none p2) pos) (fun σ H Q => tSl (r σ) t1 t2 t3 σ H Q) :=
  ⟨fun pins s σ H Q I h => (pe_slice (pos := pos) (p2 := p2) (hr σ) he hl hu).run pins s σ H Q I h⟩
theorem j_slice (he : JE X cl W e te) (hl : JO X cl W lo tl) (hu : JO X cl W hi th) : JE X cl W (.Subscript e (.Slice lo hi none p2) pos) (dSl te tl th) :=
  PE.mono (pe_sliceS (fun σ => sl_ok (WE W σ)) he hl hu) fun σ H Q ⟨as, st, τ, w, e, p⟩ => ⟨as, st, τ, w, e, p.bind.mono fun d st1 as1 H1 e1 w1 p1 x rx => ⟨as1, st1, τ, w1, e.evo e1, p1.bind.mono fun l st2 as2 H2 e2 w2 p2 =>
    ⟨as2, st2, τ, w2, (e.evo e1).evo e2, p2.bind.mono fun h st3 as3 H3 e3 w3 p3 => ⟨as3, st3, d, w3, (rx.evo e2).evo e3, p3⟩⟩⟩⟩
end

/-! ### dicts -/
section
variable {κ α : Type} [DecidableEq κ]
def valD (kvs : List (κ × α)) (k : κ) : Option α := match kvs with
  | [] => none
  | (k', v) :: r => if k' = k then some v else valD r k
def setD (kvs : List (κ × α)) (k : κ) (v : α) : List (κ × α) := match kvs with
  | [] => []
  | (k', u) :: r => if k' = k then (k', v) :: setD r k v else (k', u) :: setD r k v
def putD (kvs : List (κ × α)) (k : κ) (v : α) : List (κ × α) := if (valD kvs k).isSome then setD kvs k v else kvs ++ [(k, v)]
def dropD (kvs : List (κ × α)) (k : κ) : List (κ × α) := match kvs with
  | [] => []
  | (k', u) :: r => if k' = k then dropD r k else (k', u) :: dropD r k
end
def keyOf : D → Option Key
  | .int i => some (.inl i)
  | .str x => some (.inr x)
  | _ => none
section
variable {K : PySem.W.Frag} {as : Mp} {H : Hp} {κ : Type} [DecidableEq κ]
theorem keyOf_ok {d : D} {v : V} {k : Key} (r : Rep K as H d v) (h : keyOf d = some k) : v = kV k := by
  cases r <;> cases h <;> rfl
theorem valD_ok {k : κ} : ∀ {kvs : List (κ × D)} {xs : List (κ × V)}, RepF K as H kvs xs → (valD kvs k = none ∧ valV xs k = none) ∨ ∃ d v, valD kvs k = some d ∧ valV xs k = some v ∧ Rep K as H d v
  | _, _, .nil => .inl ⟨rfl, rfl⟩
  | _, _, .cons (k := k') r t => by
    unfold valD
    by_cases e : k' = k
    · rw [if_pos e, valV_pos (p := (k', _)) e]; exact .inr ⟨_, _, rfl, rfl, r⟩
    · rw [if_neg e, valV_neg (p := (k', _)) e]; exact valD_ok t
theorem RepF.append {kvs kvs' : List (κ × D)} {xs xs' : List (κ × V)} (r : RepF K as H kvs xs) (r' : RepF K as H kvs' xs') : RepF K as H (kvs ++ kvs') (xs ++ xs') := by
  induction r with
  | nil => exact r'
  | cons q _ ih => exact .cons q ih
theorem setD_ok {k : κ} {d : D} {v : V} (q : Rep K as H d v) {kvs : List (κ × D)} {xs : List (κ × V)} (r : RepF K as H kvs xs) : RepF K as H (setD kvs k d) (xs.map fun kv => if kv.1 = k then (kv.1, v) else kv) := by
  induction r with
  | nil => exact .nil
  | @cons k' d' v' ds vs r t ih =>
    unfold setD
    rw [List.map_cons]
    by_cases e : k' = k
    · rw [if_pos e]; simp only [e, if_true]; exact .cons q ih
    · rw [if_neg e]; simp only [e, if_false]; exact .cons r ih
theorem putD_ok {k : κ} {d : D} {v : V} (q : Rep K as H d v) {kvs : List (κ × D)} {xs : List (κ × V)} (r : RepF K as H kvs xs) : RepF K as H (putD kvs k d) (putK xs k v) := by
  unfold putD putK
  rw [valV_any]
  rcases valD_ok (k := k) r with ⟨h1, h2⟩ | ⟨d', v', h1, h2, _⟩
  · rw [h1, h2]; exact r.append (.cons q .nil)
  · rw [h1, h2]; exact setD_ok q r
theorem dropD_ok {k : κ} {kvs : List (κ × D)} {xs : List (κ × V)} (r : RepF K as H kvs xs) : RepF K as H (dropD kvs k) (dropK xs k) := by
  induction r with
  | nil => exact .nil
  | @cons k' d' v' ds vs r t ih =>
    unfold dropD dropK
    rw [List.filter_cons]
    by_cases e : k' = k
    · rw [if_pos e]; simp only [e, ne_eq, not_true_eq_false, decide_false, Bool.false_eq_true, if_false]; exact ih
    · rw [if_neg e]; simp only [e, ne_eq, not_false_eq_true, decide_true, if_true]; exact .cons r ih
end
def dGetK : D2 := fun x y st => match dicOf x st, keyOf y with
  | some kvs, some k => (match valD kvs k with
    | some d => .ok d st
    | none => .bad)
  | _, _ => .bad
def dInK (neg : Bool) : D2 := fun y x st => match dicOf x st, keyOf y with
  | some kvs, some k => .ok (.bl (neg ^^ (valD kvs k).isSome)) st
  | _, _ => .bad
/-- d[k] = v for a dict of the store -/
def sPutK (x y v : D) (τ : En) (st : Sto) : R (Fl × En) := match x, keyOf y with
  | .ref n, some k => match st[n]? with
    | some (.dK kvs) => if kvs.length < sizeLine then .ok (.nx, τ) (st.set n (.dK (putD kvs k v))) else .bad
    | _ => .bad
  | _, _ => .bad
def sDelK (x y : D) (τ : En) (st : Sto) : R (Fl × En) := match x, keyOf y with
  | .ref n, some k => match st[n]? with
    | some (.dK kvs) => if (valD kvs k).isSome then .ok (.nx, τ) (st.set n (.dK (dropD kvs k))) else .bad
    | _ => .bad
  | _, _ => .bad
def dPutS (td ty tv : DE) : DS := fun τ st => (tv τ st).stm τ fun v st => (td τ st).stm τ fun x st => (ty τ st).stm τ fun y st => sPutK x y v τ st
def dDelS (td ty : DE) : DS := fun τ st => (td τ st).stm τ fun x st => (ty τ st).stm τ fun y st => sDelK x y τ st
section
variable {X : Cx} {cl : Cl} {W : WX} {pos pos' tpos : Pos} {o i value : Expr} {td ty tv : DE}
theorem j_dget (hu : X.A.units + 1 < cLine) (ho : JE X cl W o td) (hi : JE X cl W i ty) (hs : NoSl i := by intro _ _; rfl) : JE X cl W (.Subscript o i pos) (dBin dGetK td ty) := by
  refine PE.mono (pe_dget hu ho hi hs) fun σ H Q ⟨as, st, τ, w, e, p⟩ => ⟨as, st, τ, w, e, p.bind.mono fun d st1 as1 H1 e1 w1 p1 x rx => ⟨as1, st1, τ, w1, e.evo e1, p1.bind.mono fun y st2 as2 H2 e2 w2 p2 yv ry => ?_⟩⟩
  unfold dGetK at p2
  cases h1 : dicOf d st2 with
  | none => rw [h1] at p2; exact p2.elim
  | some kvs =>
    cases h2 : keyOf y with
    | none => rw [h1, h2] at p2; exact p2.elim
    | some k =>
      rw [h1, h2] at p2
      dsimp only at p2
      obtain ⟨q, xs, rfl, hq, rs⟩ := dicOf_ok w2 (rx.evo e2) h1
      have hy := keyOf_ok ry h2
      subst hy
      rcases valD_ok (k := k) rs with ⟨h3, _⟩ | ⟨d', v', h3, h4, r'⟩
      · rw [h3] at p2; exact p2.elim
      · rw [h3] at p2
        exact ⟨q, v', rfl, by rw [← h4]; exact DGet.k hq, p2.val w2 r'⟩
theorem dInK_ok {E : XK} {as : Mp} {st : Sto} {H : Hp} {x y : V} {dx dy : D} {Q : VK} {neg : Bool} (w : Wd X.K cl as st H) (ry : Rep X.K as H dy y) (rx : Rep X.K as H dx x) (p : Post X.K cl E as H (dInK neg dy dx st) (QV X.K Q)) :
    ∃ a o, x = .ref a ∧ DGet H a y o ∧ Q (.bl (neg ^^ o.isSome)) H := by
  unfold dInK at p
  cases h1 : dicOf dx st with
  | none => rw [h1] at p; exact p.elim
  | some kvs =>
    cases h2 : keyOf dy with
    | none => rw [h1, h2] at p; exact p.elim
    | some k =>
      rw [h1, h2] at p
      dsimp only at p
      obtain ⟨q, xs, rfl, hq, rs⟩ := dicOf_ok w rx h1
      have hy := keyOf_ok ry h2
      subst hy
      refine ⟨q, valV xs k, rfl, DGet.k hq, ?_⟩
      rcases valD_ok (k := k) rs with ⟨h3, h4⟩ | ⟨d', v', h3, h4, r'⟩
      · rw [h3] at p; rw [h4]; exact p.val w (.bl _)
      · rw [h3] at p; rw [h4]; exact p.val w (.bl _)
theorem lift_din {neg : Bool} {σ : L2.St} {H : Hp} {Q : VK} (h : lift X.K cl W (dBin (dInK neg) ty td) σ H Q) :
    lift X.K cl W ty σ H fun y H1 => lift X.K cl W td σ H1 fun x H2 => ∃ a o, x = .ref a ∧ DGet H2 a y o ∧ Q (.bl (neg ^^ o.isSome)) H2 := by
  obtain ⟨as, st, τ, w, e, p⟩ := h
  exact ⟨as, st, τ, w, e, p.bind.mono fun d st1 as1 H1 e1 w1 p1 x rx => ⟨as1, st1, τ, w1, e.evo e1, p1.bind.mono fun y st2 as2 H2 e2 w2 p2 yv ry => dInK_ok w2 (rx.evo e2) ry p2⟩⟩
theorem fx {b : Bool} : (false ^^ b) = b := Bool.false_xor b
theorem lift_din0 {σ : L2.St} {H : Hp} {Q : VK} (h : lift X.K cl W (dBin (dInK false) ty td) σ H Q) : tDIn (lift X.K cl W ty) (lift X.K cl W td) σ H Q := by
  have h := lift_din h
  simp only [Bool.false_xor] at h
  exact h
theorem lift_din1 {σ : L2.St} {H : Hp} {Q : VK} (h : lift X.K cl W (dBin (dInK true) ty td) σ H Q) : tDNotIn (lift X.K cl W ty) (lift X.K cl W td) σ H Q := by
  have h := lift_din h
  simp only [Bool.true_xor] at h
  exact h
theorem j_din (hu : X.A.units + 1 < cLine) (hi : JE X cl W i ty) (ho : JE X cl W o td) (hm : behindInMarks .In o = false := by rfl) : JE X cl W (.Compare i [.In] [o] pos) (dBin (dInK false) ty td) := PE.mono (pe_cmp (pc_din hu hi ho) hm) fun _ _ _ h => lift_din0 h
theorem j_dnotin (hu : X.A.units + 1 < cLine) (hi : JE X cl W i ty) (ho : JE X cl W o td) (hm : behindInMarks .NotIn o = false := by rfl) : JE X cl W (.Compare i [.NotIn] [o] pos) (dBin (dInK true) ty td) := PE.mono (pe_cmp (pc_dnotin hu hi ho) hm) fun _ _ _ h => lift_din1 h
theorem Post.ok {α : Type} {K : PySem.W.Frag} {E : XK} {as : Mp} {H : Hp} {st : Sto} {a : α} {Q : α → Sto → Mp → Hp → Prop} (p : Post K cl E as H (.ok a st) Q) {as' : Mp} {H' : Hp} (e : Evo as H as' H') (w : Wd K cl as' st H') : Q a st as' H' := p as' H' e w
theorem Rep.refAt {K : PySem.W.Frag} {as : Mp} {H : Hp} {n : Nat} {v : V} (r : Rep K as H (.ref n) v) : ∃ a, v = .ref a ∧ as.m[n]? = some a := by
  cases r with
  | ref h => exact ⟨_, rfl, h⟩
theorem js_dput (hu : X.A.units + 1 < cLine) (ho : JE X cl W o td) (hi : JE X cl W i ty) (hv : JE X cl W value tv) (hs : swapsWith value (some (.Subscript o i pos')) pos.line X.env = pure false := by rfl) :
    JS X cl W (.Assign [.Subscript o i pos'] value pos) (dPutS td ty tv) := by
  refine PS.mono (ps_dput hu ho hi hv hs) fun M σ H ⟨as, st, τ, w, e, p⟩ => ⟨as, st, τ, w, e, (Post.stm e p).mono fun d st1 as1 H1 e1 w1 p1 v rv => ?_⟩
  refine ⟨as1, st1, τ, w1, e.evo e1, (Post.stm (e.evo e1) p1).mono fun d2 st2 as2 H2 e2 w2 p2 x rx => ?_⟩
  refine ⟨as2, st2, τ, w2, (e.evo e1).evo e2, (Post.stm ((e.evo e1).evo e2) p2).mono fun d3 st3 as3 H3 e3 w3 p3 y ry => ?_⟩
  have rx3 := rx.evo e3
  unfold sPutK at p3
  split at p3
  · rename_i n k hk
    obtain ⟨a, rfl, ha⟩ := rx3.refAt
    split at p3
    · rename_i kvs hn
      split at p3
      · rename_i hl
        obtain ⟨xs, hH, rs⟩ := w3.dK ha hn
        have hy := keyOf_ok ry hk
        subst hy
        refine ⟨a, _, rfl, DPut.k hH (by rw [← rs.len]; exact hl), ?_⟩
        exact p3.ok (Evo.wr w3 ha) (w3.wr ha (.dK (putD_ok ((rv.evo e2).evo e3) rs))) σ ((((e.evo e1).evo e2).evo e3).evo (Evo.wr w3 ha))
      · exact p3.elim
    · exact p3.elim
  · exact p3.elim
theorem js_ddel (ho : JE X cl W o td) (hi : JE X cl W i ty) : JS X cl W (.Delete [.Subscript o i tpos] pos) (dDelS td ty) := by
  refine PS.mono (ps_ddel ho hi) fun M σ H ⟨as, st, τ, w, e, p⟩ => ⟨as, st, τ, w, e, (Post.stm e p).mono fun d2 st2 as2 H2 e2 w2 p2 x rx => ?_⟩
  refine ⟨as2, st2, τ, w2, e.evo e2, (Post.stm (e.evo e2) p2).mono fun d3 st3 as3 H3 e3 w3 p3 y ry => ?_⟩
  have rx3 := rx.evo e3
  unfold sDelK at p3
  split at p3
  · rename_i n k hk
    obtain ⟨a, rfl, ha⟩ := rx3.refAt
    split at p3
    · rename_i kvs hn
      split at p3
      · rename_i hl
        obtain ⟨xs, hH, rs⟩ := w3.dK ha hn
        have hy := keyOf_ok ry hk
        subst hy
        refine ⟨a, xs, k, rfl, hH, rfl, ?_, ?_⟩
        · rcases valD_ok (k := k) rs with ⟨h3, h4⟩ | ⟨d', v', h3, h4, r'⟩
          · rw [h3] at hl; cases hl
          · rw [h4]; rfl
        · exact p3.ok (Evo.wr w3 ha) (w3.wr ha (.dK (dropD_ok rs))) σ (((e.evo e2).evo e3).evo (Evo.wr w3 ha))
      · exact p3.elim
    · exact p3.elim
  · exact p3.elim
end

/-! ### dict displays -/
abbrev DPs := En → Sto → R (List (Key × D))
def dPNil : DPs := fun _ st => .ok [] st
def dPCons (tk tv : DE) (u : DPs) : DPs := fun τ st => (tk τ st).bind fun k st => (tv τ st).bind fun v st => (u τ st).bind fun r st => match keyOf k with
  | some k => .ok ((k, v) :: r) st
  | none => .bad
def mergeD (kvs : List (Key × D)) : List (Key × D) := kvs.foldl (fun acc kv => putD acc kv.1 kv.2) []
/-- a new dict of the store; one that nobody changes -/
def dDisp (t : DPs) : DE := fun τ st => (t τ st).bind fun kvs st => if kvs.length ≤ 15 then .ok (.ref st.length) (st ++ [.dK (mergeD kvs)]) else .bad
def dDispF (t : DPs) : DE := fun τ st => (t τ st).bind fun kvs st => if kvs.length ≤ 15 then .ok (.dic (mergeD kvs)) st else .bad
/-- the readings of a display's pairs -/
inductive JPs (X : Cx) (cl : Cl) (W : WX) : Pos → List (Option Expr) → List Expr → List (TE × TE) → DPs → Prop
  | nil {pos : Pos} : JPs X cl W pos [] [] [] dPNil
  | cons {pos : Pos} {k v : Expr} {ks : List (Option Expr)} {vs : List Expr} {tk tv : DE} {trs : List (TE × TE)} {u : DPs} : JE X cl W k tk → JE X cl W v tv → JPs X cl W pos ks vs trs u →
      JPs X cl W pos (some k :: ks) (v :: vs) ((lift X.K cl W tk, lift X.K cl W tv) :: trs) (dPCons tk tv u)
section
variable {X : Cx} {cl : Cl} {W : WX} {pos : Pos}
theorem JPs.pps {ks : List (Option Expr)} {vs : List Expr} {trs : List (TE × TE)} {u : DPs} (h : JPs X cl W pos ks vs trs u) : PPs X pos ks vs trs := by
  induction h with
  | nil => exact pps_nil
  | cons h1 h2 _ ih => exact pps_cons h1 h2 ih
theorem JPs.run {ks : List (Option Expr)} {vs : List Expr} {trs : List (TE × TE)} {u : DPs} (h : JPs X cl W pos ks vs trs u) : ∀ {as : Mp} {st : Sto} {τ : En} {σ : L2.St} {H : Hp} {Q : List (V × V) → Hp → Prop}, Wd X.K cl as st H → RepE X.K as H τ σ →
    Post X.K cl (WE W σ) as H (u τ st) (fun kvs st' as' H' => ∀ xs : List (Key × V), RepF X.K as' H' kvs xs → Q (xs.map fun kv => (kV kv.1, kv.2)) H') → tPairs trs σ H Q := by
  induction h with
  | nil => exact fun w e p => p.here w [] .nil
  | cons h1 h2 _ ih =>
    intro as st τ σ H Q w e p
    refine ⟨as, st, τ, w, e, p.bind.mono fun d st1 as1 H1 e1 w1 p1 x rx => ⟨as1, st1, τ, w1, e.evo e1, p1.bind.mono fun y st2 as2 H2 e2 w2 p2 yv ry => ?_⟩⟩
    refine ih w2 ((e.evo e1).evo e2) (p2.bind.mono fun r st3 as3 H3 e3 w3 p3 xs rs => ?_)
    cases hk : keyOf d with
    | none => rw [hk] at p3; exact p3.elim
    | some k =>
      rw [hk] at p3
      have hx := keyOf_ok ((rx.evo e2).evo e3) hk
      subst hx
      exact p3.here w3 ((k, yv) :: xs) (.cons (ry.evo e3) rs)
theorem mergeD_ok {K : PySem.W.Frag} {as : Mp} {H : Hp} {kvs : List (Key × D)} {xs : List (Key × V)} (r : RepF K as H kvs xs) : RepF K as H (mergeD kvs) (mergeK [] xs) := by
  unfold mergeD mergeK
  suffices h : ∀ (acc : List (Key × D)) (bcc : List (Key × V)), RepF K as H acc bcc → RepF K as H (kvs.foldl (fun acc kv => putD acc kv.1 kv.2) acc) (xs.foldl (fun acc kv => putK acc kv.1 kv.2) bcc) from h [] [] .nil
  induction r with
  | nil => exact fun _ _ h => h
  | cons q _ ih => exact fun acc bcc h => ih _ _ (putD_ok q h)
theorem RepX.mv {K : PySem.W.Frag} {cl : Cl} {as as' : Mp} {H H' : Hp} {x : Exn} {u : Value} {dx : Option Addr} (e : Mv as H as' H') (r : RepX K cl as H x u dx) : RepX K cl as' H' x u dx := by
  obtain ⟨h, r⟩ := r
  refine ⟨h, r.imp id fun ⟨d, fx, h1, h2, h3, h4⟩ => let q := e.k _ _ h3 h2; ⟨d, fx, h1, q.1, q.2, h4.mv e⟩⟩
theorem j_disp {ks : List (Option Expr)} {vs : List Expr} {trs : List (TE × TE)} {u : DPs} (h : JPs X cl W pos ks vs trs u) (hall : ks.all (·.isSome) = true := by rfl) (hl : ks.length = vs.length := by rfl) (h0 : ks ≠ [] := by decide)
    (h15 : ks.length ≤ 15 := by decide) : JE X cl W (.Dict ks vs pos) (dDisp u) := by
  refine PE.mono (pe_disp h.pps hall hl h0 h15) fun σ H Q ⟨as, st, τ, w, e, p⟩ a ha => ?_
  have m0 : Mk1 as H a (as.hide a) (upd H a (.dK [])) := Mk1.start w ha
  refine h.run (w.hide ha) (e.mv (Mv.hide ha)) ?_
  unfold dDisp at p
  cases hr : u τ st with
  | bad => rw [hr] at p; exact p.elim
  | exc x st1 =>
    rw [hr] at p
    intro c dx as1 H1 e1 w1 r1
    obtain ⟨m1, k1⟩ := m0.next e1 w
    exact p c dx _ H1 m1.evo (m1.fix w w1).1 (r1.mv m1.mv)
  | ok kvs st1 =>
    rw [hr] at p
    intro as1 H1 e1 w1 xs rs
    obtain ⟨m1, k1⟩ := m0.next e1 w
    have p : Post X.K cl (WE W σ) as H (if kvs.length ≤ 15 then .ok (.ref st1.length) (st1 ++ [.dK (mergeD kvs)]) else .bad) (QV X.K Q) := p
    split at p
    · rename_i hl
      refine ⟨k1.trans upd_same, xs, rfl, by rw [← rs.len]; exact hl, ?_⟩
      have m2 : Mk1 as H a as1 (upd H1 a (.dK (mergeK [] xs))) := m1.set w
      obtain ⟨e2, w2⟩ := m2.push w (w1.wrx m1.mem) upd_same (.dK ((mergeD_ok rs).mv (Mv.side (.inr m1.mem))))
      refine p _ _ e2 w2 _ (.ref ?_)
      show (as1.m ++ [a])[st1.length]? = some a
      rw [← w1.len]; simp
    · exact p.elim
end
end DL

/-! DL5: fields, calls of defs, loops, comprehensions, methods of lists. -/
namespace DL
open PySem PySem.Spec PyProof.Rows L2

/-! ### fields -/
def getF (fs : List (Str × D)) (f : Str) : Option D := valD fs f
def fldV (f : Str) (cs : List Str) (d : D) (st : Sto) : R D := match d with
  | .ref n => match st[n]? with
    | some (.ins c fs) => if c ∈ cs then (match valD fs f with
      | some d => .ok d st
      | none => .bad) else .bad
    | _ => .bad
  | _ => .bad
def dFld (f : Str) (cs : List Str) (t : DE) : DE := fun τ st => (t τ st).bind fun d st => fldV f cs d st
def putFD (f : Str) (v : D) : List (Str × D) → List (Str × D)
  | [] => [(f, v)]
  | (g, x) :: r => if g = f then (g, v) :: r else (g, x) :: putFD f v r
def setF (f : Str) (cs : List Str) (d v : D) (τ : En) (st : Sto) : R (Fl × En) := match d with
  | .ref n => match st[n]? with
    | some (.ins c fs) => if c ∈ cs ∧ fs.length < 1000 then .ok (.nx, τ) (st.set n (.ins c (putFD f v fs))) else .bad
    | _ => .bad
  | _ => .bad
def dFldS (f : Str) (cs : List Str) (to tv : DE) : DS := fun τ st => (tv τ st).stm τ fun v st => (to τ st).stm τ fun d st => setF f cs d v τ st
/-- the classes' facts for a field -/
def FldOk (K : PySem.W.Frag) (cl : Cl) (f : Str) (cs : List Str) : Prop := ∀ c ∈ cs, Cls K (cl c) ∧ NoAttr K (cl c) f
section
variable {K : PySem.W.Frag} {as : Mp} {H : Hp}
theorem lookup_rep {f : Str} : ∀ {fs : List (Str × D)} {fx : List (Str × V)} {d : D}, RepF K as H fs fx → valD fs f = some d → ∃ v, fx.lookup f = some v ∧ Rep K as H d v
  | _, _, _, .nil, h => by cases h
  | _, _, d, .cons (k := k) r t, h => by
    unfold valD at h
    by_cases e : k = f
    · rw [if_pos e] at h; cases h
      refine ⟨_, ?_, r⟩
      rw [e, List.lookup_cons, beq_self_eq_true]
    · rw [if_neg e] at h
      obtain ⟨v, h1, h2⟩ := lookup_rep t h
      refine ⟨v, ?_, h2⟩
      rw [List.lookup_cons, show (f == k) = false from beq_eq_false_iff_ne.mpr (Ne.symm e)]
      exact h1
theorem lookup_none {f : Str} : ∀ {fs : List (Str × D)} {fx : List (Str × V)}, RepF K as H fs fx → valD fs f = none → fx.lookup f = none
  | _, _, .nil, _ => rfl
  | _, _, .cons (k := k) r t, h => by
    unfold valD at h
    by_cases e : k = f
    · rw [if_pos e] at h; cases h
    · rw [if_neg e] at h
      rw [List.lookup_cons, show (f == k) = false from beq_eq_false_iff_ne.mpr (Ne.symm e)]
      exact lookup_none t h
end
section
variable {K : PySem.W.Frag} {as : Mp} {H : Hp}
theorem putFD_ok {f : Str} {d : D} {v : V} (q : Rep K as H d v) : ∀ {fs : List (Str × D)} {fx : List (Str × V)}, RepF K as H fs fx → RepF K as H (putFD f d fs) (putF f v fx)
  | _, _, .nil => .cons q .nil
  | _, _, .cons (k := k) r t => by
    unfold putFD putF
    by_cases e : k = f
    · rw [if_pos e, if_pos e]; exact .cons q t
    · rw [if_neg e, if_neg e]; exact .cons r (putFD_ok q t)
end
section
variable {X : Cx} {cl : Cl} {W : WX} {pos pos' : Pos} {e o value : Expr} {te to tv : DE} {f : Str} {cs : List Str}
theorem j_fld (hf : FldOk X.K cl f cs) (he : JE X cl W e te) (hb : attributeBase e f X.env (eval e X.env) = eval e X.env := by rfl) : JE X cl W (.Attribute e f pos) (dFld f cs te) := by
  refine PE.mono (pe_fld he hb) fun σ H Q ⟨as, st, τ, w, e, p⟩ => ⟨as, st, τ, w, e, p.bind.mono fun d st1 as1 H1 e1 w1 p1 v rv => ?_⟩
  unfold fldV at p1
  split at p1
  · rename_i n
    obtain ⟨a, rfl, ha⟩ := rv.refAt
    split at p1
    · rename_i c fs hn
      split at p1
      · rename_i hc
        obtain ⟨dx, fx, hH, rs⟩ := w1.ins ha hn
        cases hv : valD fs f with
        | none => rw [hv] at p1; exact p1.elim
        | some d =>
          rw [hv] at p1
          obtain ⟨v, h1, h2⟩ := lookup_rep rs hv
          exact ⟨a, cl c, dx, fx, v, rfl, hH, (hf c hc).1, (hf c hc).2, h1, p1.val w1 h2⟩
      · exact p1.elim
    · exact p1.elim
  · exact p1.elim
theorem js_fld (hf : FldOk X.K cl f cs) (ho : JE X cl W o to) (hv : JE X cl W value tv) (hs : swapsWith value (some (.Attribute o f pos')) pos.line X.env = pure false := by rfl) : JS X cl W (.Assign [.Attribute o f pos'] value pos) (dFldS f cs to tv) := by
  refine PS.mono (ps_fld ho hv hs) fun M σ H ⟨as, st, τ, w, e, p⟩ => ⟨as, st, τ, w, e, (Post.stm e p).mono fun d st1 as1 H1 e1 w1 p1 y ry => ?_⟩
  refine ⟨as1, st1, τ, w1, e.evo e1, (Post.stm (e.evo e1) p1).mono fun d2 st2 as2 H2 e2 w2 p2 x rx => ?_⟩
  unfold setF at p2
  split at p2
  · rename_i n
    obtain ⟨a, rfl, ha⟩ := rx.refAt
    split at p2
    · rename_i c fs hn
      split at p2
      · rename_i hc
        obtain ⟨dx, fx, hH, rs⟩ := w2.ins ha hn
        refine ⟨a, cl c, dx, fx, rfl, hH, (hf c hc.1).1, (hf c hc.1).2, by rw [← rs.len]; exact hc.2, ?_⟩
        exact p2.ok (Evo.wr w2 ha) (w2.wr ha (.ins (putFD_ok (ry.evo e2) rs))) σ (((e.evo e1).evo e2).evo (Evo.wr w2 ha))
      · exact p2.elim
    · exact p2.elim
  · exact p2.elim
/-- o.f op= e -/
def dFldAug (f : Str) (cs : List Str) (to tv : DE) (r : D2) : DS := fun τ st => (to τ st).stm τ fun d st => (fldV f cs d st).stm τ fun x st => (tv τ st).stm τ fun y st => (r x y st).stm τ fun z st => setF f cs d z τ st
theorem fldV_ok {K : PySem.W.Frag} {as : Mp} {H : Hp} {st : Sto} {d : D} {v : V} {E : XK} {Q : D → Sto → Mp → Hp → Prop} (w : Wd K cl as st H) (rv : Rep K as H d v) (p : Post K cl E as H (fldV f cs d st) Q) :
    ∃ a n c fs dx fx d' v', d = .ref n ∧ st[n]? = some (.ins c fs) ∧ c ∈ cs ∧ v = .ref a ∧ as.m[n]? = some a ∧ H a = some (.ins (cl c) dx fx) ∧ RepF K as H fs fx ∧ fx.lookup f = some v' ∧ Rep K as H d' v' ∧ fldV f cs d st = .ok d' st := by
  unfold fldV at p ⊢
  split at p
  · rename_i n
    obtain ⟨a, rfl, ha⟩ := rv.refAt
    split at p
    · rename_i c fs hn
      split at p
      · rename_i hc
        obtain ⟨dx, fx, hH, rs⟩ := w.ins ha hn
        cases hv : valD fs f with
        | none => rw [hv] at p; exact p.elim
        | some d =>
          obtain ⟨v, h1, h2⟩ := lookup_rep rs hv
          refine ⟨a, n, c, fs, dx, fx, d, v, rfl, hn, hc, rfl, ha, hH, rs, h1, h2, ?_⟩
          simp only [hn, hc, if_true, hv]
      · exact p.elim
    · exact p.elim
  · exact p.elim
theorem js_fldaug {op : Operator} {r : D2} {k : Str} (hf : FldOk X.K cl f [k]) (ho : JE X cl W o to) (hv : JE X cl W value tv) (hop : OpJ X cl (inplaceOp op) r) : JS X cl W (.AugAssign (.Attribute o f pos') op value pos) (dFldAug f [k] to tv r) := by
  have hop' : ∀ E, InOp X op (liftR X.K cl E r) := fun E pins s σ H x y v u Q I r1 r2 q => hop E pins s σ H x y v u Q I r1 r2 q
  refine ⟨fun pins s σ H M I ⟨as, st, τ, w, e, p⟩ => (ps_fldaug (tpos := pos') (pos := pos) ho hv (hop' (WE W σ))).run pins s σ H M I ⟨as, st, τ, w, e, (Post.stm e p).mono fun d st1 as1 H1 e1 w1 p1 x rx => ?_⟩⟩
  obtain ⟨a, n, c, fs, dx, fx, d', v', rfl, hn, hc, rfl, ha, hH, rs, h1, h2, h3⟩ := fldV_ok w1 rx (Post.stm (W := W) (e.evo e1) p1)
  refine ⟨a, cl c, dx, fx, v', rfl, hH, (hf c hc).1, (hf c hc).2, h1, ?_⟩
  rw [h3] at p1
  replace p1 : Post X.K cl E00 as1 H1 ((tv τ st1).stm τ fun y st => (r d' y st).stm τ fun z st => setF f [k] (.ref n) z τ st) _ := p1
  refine ⟨as1, st1, τ, w1, e.evo e1, (Post.stm (e.evo e1) p1).mono fun d2 st2 as2 H2 e2 w2 p2 y ry => ?_⟩
  refine ⟨as2, st2, d', d2, w2, h2.evo e2, ry, (Post.stm ((e.evo e1).evo e2) p2).mono fun d3 st3 as3 H3 e3 w3 p3 z rz => ?_⟩
  unfold setF at p3
  dsimp only at p3
  split at p3
  · rename_i c' fs' hn'
    split at p3
    · rename_i hc'
      have ha3 := (e2.trans e3).get ha
      obtain ⟨dx', fx', hH', rs'⟩ := w3.ins ha3 hn'
      have hcc : cl c' = cl c := by rw [List.mem_singleton.mp hc'.1, List.mem_singleton.mp hc]
      refine ⟨dx', fx', by rw [hH', hcc], by rw [← rs'.len]; exact hc'.2, ?_⟩
      rw [← hcc]
      exact p3.ok (Evo.wr w3 ha3) (w3.wr ha3 (.ins (putFD_ok rz rs'))) σ ((((e.evo e1).evo e2).evo e3).evo (Evo.wr w3 ha3))
    · exact p3.elim
  · exact p3.elim
end

/-! ### calls of defs -/
/-- what the rules ask of a context -/
structure CxOk (X : Cx) (W : WX) : Prop where
  calm : X.calm = true
  pass : ∀ σ, PassesAt (L2.CX X.prog X.w) X σ (WE W σ)
  own : PassesOwn (model X.prog X.w) X.A X.env X.xe
section
variable {X : Cx} {cl : Cl} {W : WX} {x m : Str} {p pos apos : Pos} {e o : Expr} {es : List Expr} {t : DA} {F : DF} {k : Nat} {f : Addr} {fd : FuncData} {ps : List Str} {dvs : List V} {dfs : List Value} {dds : List D} {to : DE}
theorem lift_call {σ : L2.St} {H : Hp} {Q : VK} (hd : ∀ as H, Reps X.K as H dds dvs) (h : lift X.K cl W (dApp (fun ds st => F (ds ++ dds) st) t) σ H Q) : tCallSD (spD X.K cl F) dvs (WE W) (liftA X.K cl W t) σ H Q := by
  obtain ⟨as, st, τ, w, e, p⟩ := h
  exact ⟨as, st, τ, w, e, p.bind.mono fun ds st1 as1 H1 e1 w1 p1 xs rx => ⟨as1, st1, ds ++ dds, w1, rx.append (hd _ _), p1⟩⟩
/-- f(e, ..), with defaults -/
theorem j_callD (hx : ∀ σ, PassesAt (L2.CX X.prog X.w) X σ (WE W σ)) (G : FnD X.prog X.w X.K X.mg X.base cl k f fd ps F) (hr : Room k X.A) (hg : Gl X x) (hm : X.mg x = some (.ref f)) (hk : PySem.W.keepIn X.K (.ref f) = true) (hb : Binds X.K fd ps dfs) (hv : Vals dvs dfs)
    (hd : ∀ as H, Reps X.K as H dds dvs) (ha : JA X cl W (e :: es) t) (hdb : (x == ("__debug__" : Str)) = false := by decide) (he : starEach (e :: es) X.env = (false, eval e X.env) :: starEach es X.env := by rfl) (hpl : (backTo pos (starEach es X.env)).any (·.1) = false := by rfl) :
    JE X cl W (.Call (.Name x p) (e :: es) [] pos) (dApp (fun ds st => F (ds ++ dds) st) t) :=
  PE.mono (pe_callSD G hr hg hm hk hb hv hx ha hdb he hpl) fun _ _ _ h => lift_call hd h
theorem j_call (hx : ∀ σ, PassesAt (L2.CX X.prog X.w) X σ (WE W σ)) (G : FnD X.prog X.w X.K X.mg X.base cl k f fd ps F) (hr : Room k X.A) (hg : Gl X x) (hm : X.mg x = some (.ref f)) (hk : PySem.W.keepIn X.K (.ref f) = true) (hb : Binds X.K fd ps [])
    (ha : JA X cl W (e :: es) t) (hdb : (x == ("__debug__" : Str)) = false := by decide) (he : starEach (e :: es) X.env = (false, eval e X.env) :: starEach es X.env := by rfl) (hpl : (backTo pos (starEach es X.env)).any (·.1) = false := by rfl) :
    JE X cl W (.Call (.Name x p) (e :: es) [] pos) (dApp F t) :=
  PE.mono (j_callD (dds := []) (dvs := []) hx G hr hg hm hk hb .nil (fun _ _ => .nil) ha hdb he hpl) fun σ H Q h => by
    simp only [List.append_nil]
    exact h
theorem pe_callS0 (G : FnD X.prog X.w X.K X.mg X.base cl k f fd ps F) (hx : ∀ σ, PassesAt (L2.CX X.prog X.w) X σ (WE W σ)) (hr : Room k X.A) (hg : Gl X x) (hm : X.mg x = some (.ref f)) (hk : PySem.W.keepIn X.K (.ref f) = true) (hb : Binds X.K fd ps [])
    (hdb : (x == ("__debug__" : Str)) = false := by decide) : PE X (.Call (.Name x p) [] [] pos) (fun σ H Q => spD X.K cl F [] H Q (WE W σ)) := by
  refine ⟨fun pins s σ H Q I h => ?_⟩
  refine wpAny_Call_Name_kw (ld_glob I hg hm ?_ hdb)
  exact PySem.W.callWith_K0 I.kIn hk (run_fnSD (us := []) (vs := []) (dvs := []) (ds := []) (E := WE W) G hr hb .nil (hx σ) I .nil h)
theorem j_call0 (hx : ∀ σ, PassesAt (L2.CX X.prog X.w) X σ (WE W σ)) (G : FnD X.prog X.w X.K X.mg X.base cl k f fd ps F) (hr : Room k X.A) (hg : Gl X x) (hm : X.mg x = some (.ref f)) (hk : PySem.W.keepIn X.K (.ref f) = true) (hb : Binds X.K fd ps [])
    (hdb : (x == ("__debug__" : Str)) = false := by decide) : JE X cl W (.Call (.Name x p) [] [] pos) (dApp F dNil) :=
  PE.mono (pe_callS0 G hx hr hg hm hk hb hdb) fun σ H Q ⟨as, st, τ, w, e, p⟩ => ⟨as, st, [], w, .nil, p⟩
/-- o.m(e, ..) -/
def dMeth (c m : Str) (F : DF) (to : DE) (t : DA) : DE := fun τ st => (to τ st).bind fun d st => match d with
  | .ref n => match st[n]? with
    | some (.ins c' fs) => if c' = c ∧ valD fs m = none then (t τ st).bind fun ds st => F (d :: ds) st else .bad
    | _ => .bad
  | _ => .bad
theorem pe_methS {pl : Sem Bool} {ta : TE} {tt : TA} {C : Addr} {sp : Sp} {E : L2.St → XK} (he : PE X o ta) (c : Cls X.K C) (hm : Meth X.K C m f) (G : FnOk X.prog X.w X.K X.mg X.base (L2.CX X.prog X.w) k f fd ps sp) (hr : Room k X.A) (hb : Binds X.K fd ps dfs) (hd : Vals dvs dfs)
    (hx : ∀ σ, PassesAt (L2.CX X.prog X.w) X σ (E σ)) (ha : PA X (e :: es) tt)
    (hst : starEach (e :: es) X.env = (false, eval e X.env) :: starEach es X.env := by rfl) (hpl : (backTo pos (starEach es X.env)).any (·.1) = false := by rfl)
    (ht : eval (.Call (.Attribute o m apos) (e :: es) [] pos) X.env = (do
      let ov ← eval o X.env
      standAt apos.atName
      let (f, first) ← holding [ov] (getMethod ov m pl)
      callWith pos f first (backTo pos (starEach (e :: es) X.env)) (backToKw pos (keywordEach [] X.env))) := by rfl) :
    PE X (.Call (.Attribute o m apos) (e :: es) [] pos) (fun σ H Q => tMeth C m sp dvs (E σ) ta tt σ H Q) := by
  refine ⟨fun pins s σ H Q I h => ?_⟩
  refine PySem.W.methodCall_KW (pl := pl) (thn (he.run pins s σ H _ I h) fun u s1 ⟨x, H1, I1, rx, a, dx, fs, ex, ea, l, q⟩ => ?_) ht
  subst ex
  obtain rfl : u = Value.ref a := rx
  refine getmeth_ok I1 ea c hm l ?_
  refine PySem.W.callWith_K (first := [.ref a]) (h₀ := X.base) I.ok.mod.kin hm.kp (thn (ha.run pos pins s1 σ H1 _ I1 q) fun us s2 ⟨vs, H2, I2, r, q2⟩ => ⟨I2.kIn, ?_⟩) hst hpl
  exact run_fnSD (us := .ref a :: us) (vs := .ref a :: vs) G hr hb hd (hx σ) I2 (.cons rfl r) q2
theorem pe_methS0 {pl : Sem Bool} {ta : TE} {C : Addr} {sp : Sp} {E : L2.St → XK} (he : PE X o ta) (c : Cls X.K C) (hm : Meth X.K C m f) (G : FnOk X.prog X.w X.K X.mg X.base (L2.CX X.prog X.w) k f fd ps sp) (hr : Room k X.A) (hb : Binds X.K fd ps dfs) (hd : Vals dvs dfs)
    (hx : ∀ σ, PassesAt (L2.CX X.prog X.w) X σ (E σ))
    (ht : eval (.Call (.Attribute o m apos) [] [] pos) X.env = (do
      let ov ← eval o X.env
      standAt apos.atName
      let (f, first) ← holding [ov] (getMethod ov m pl)
      callWith pos f first (backTo pos (starEach [] X.env)) (backToKw pos (keywordEach [] X.env))) := by rfl) :
    PE X (.Call (.Attribute o m apos) [] [] pos) (fun σ H Q => tMeth C m sp dvs (E σ) ta tNil σ H Q) := by
  refine ⟨fun pins s σ H Q I h => ?_⟩
  refine PySem.W.methodCall_KW (pl := pl) (thn (he.run pins s σ H _ I h) fun u s1 ⟨x, H1, I1, rx, a, dx, fs, ex, ea, l, q⟩ => ?_) ht
  subst ex
  obtain rfl : u = Value.ref a := rx
  refine getmeth_ok I1 ea c hm l ?_
  exact PySem.W.callWith_K0 (first := [.ref a]) I1.kIn hm.kp (run_fnSD (us := [.ref a]) (vs := [.ref a]) G hr hb hd (hx σ) I1 (.cons rfl .nil) q)
theorem lift_meth {c : Str} {σ : L2.St} {H : Hp} {Q : VK} (h : lift X.K cl W (dMeth c m (fun ds st => F (ds ++ dds) st) to t) σ H Q) (hd : ∀ as H, Reps X.K as H dds dvs) : tMeth (cl c) m (spD X.K cl F) dvs (WE W σ) (lift X.K cl W to) (liftA X.K cl W t) σ H Q := by
  obtain ⟨as, st, τ, w, e, p⟩ := h
  refine ⟨as, st, τ, w, e, p.bind.mono fun d st1 as1 H1 e1 w1 p1 v rv => ?_⟩
  split at p1
  · rename_i n
    obtain ⟨a, rfl, ha⟩ := rv.refAt
    split at p1
    · rename_i c' fs hn
      split at p1
      · rename_i hc
        obtain ⟨rfl, hc⟩ := hc
        obtain ⟨dx, fx, hH, rs⟩ := w1.ins ha hn
        refine ⟨a, dx, fx, rfl, hH, lookup_none rs hc, as1, st1, τ, w1, e.evo e1, p1.bind.mono fun ds st2 as2 H2 e2 w2 p2 xs rxs => ⟨as2, st2, _, w2, .cons (rv.evo e2) (rxs.append (hd _ _)), p2⟩⟩
      · exact p1.elim
    · exact p1.elim
  · exact p1.elim
theorem j_methD {c : Str} {pl : Sem Bool} (hx : ∀ σ, PassesAt (L2.CX X.prog X.w) X σ (WE W σ)) (hc : Cls X.K (cl c)) (hm : Meth X.K (cl c) m f) (G : FnD X.prog X.w X.K X.mg X.base cl k f fd ps F) (hr : Room k X.A) (hb : Binds X.K fd ps dfs) (hv : Vals dvs dfs) (hd : ∀ as H, Reps X.K as H dds dvs)
    (ho : JE X cl W o to) (ha : JA X cl W (e :: es) t)
    (hst : starEach (e :: es) X.env = (false, eval e X.env) :: starEach es X.env := by rfl) (hpl : (backTo pos (starEach es X.env)).any (·.1) = false := by rfl)
    (ht : eval (.Call (.Attribute o m apos) (e :: es) [] pos) X.env = (do
      let ov ← eval o X.env
      standAt apos.atName
      let (f, first) ← holding [ov] (getMethod ov m pl)
      callWith pos f first (backTo pos (starEach (e :: es) X.env)) (backToKw pos (keywordEach [] X.env))) := by rfl) :
    JE X cl W (.Call (.Attribute o m apos) (e :: es) [] pos) (dMeth c m (fun ds st => F (ds ++ dds) st) to t) :=
  PE.mono (pe_methS ho hc hm G hr hb hv hx ha hst hpl ht) fun _ _ _ h => lift_meth h hd
theorem j_meth {c : Str} {pl : Sem Bool} (hx : ∀ σ, PassesAt (L2.CX X.prog X.w) X σ (WE W σ)) (hc : Cls X.K (cl c)) (hm : Meth X.K (cl c) m f) (G : FnD X.prog X.w X.K X.mg X.base cl k f fd ps F) (hr : Room k X.A) (hb : Binds X.K fd ps [])
    (ho : JE X cl W o to) (ha : JA X cl W (e :: es) t)
    (hst : starEach (e :: es) X.env = (false, eval e X.env) :: starEach es X.env := by rfl) (hpl : (backTo pos (starEach es X.env)).any (·.1) = false := by rfl)
    (ht : eval (.Call (.Attribute o m apos) (e :: es) [] pos) X.env = (do
      let ov ← eval o X.env
      standAt apos.atName
      let (f, first) ← holding [ov] (getMethod ov m pl)
      callWith pos f first (backTo pos (starEach (e :: es) X.env)) (backToKw pos (keywordEach [] X.env))) := by rfl) :
    JE X cl W (.Call (.Attribute o m apos) (e :: es) [] pos) (dMeth c m F to t) :=
  PE.mono (j_methD (dds := []) (dvs := []) hx hc hm G hr hb .nil (fun _ _ => .nil) ho ha hst hpl ht) fun σ H Q h => by
    simp only [List.append_nil]
    exact h
theorem j_methD0 {c : Str} {pl : Sem Bool} (hx : ∀ σ, PassesAt (L2.CX X.prog X.w) X σ (WE W σ)) (hc : Cls X.K (cl c)) (hm : Meth X.K (cl c) m f) (G : FnD X.prog X.w X.K X.mg X.base cl k f fd ps F) (hr : Room k X.A) (hb : Binds X.K fd ps dfs) (hv : Vals dvs dfs) (hd : ∀ as H, Reps X.K as H dds dvs)
    (ho : JE X cl W o to)
    (ht : eval (.Call (.Attribute o m apos) [] [] pos) X.env = (do
      let ov ← eval o X.env
      standAt apos.atName
      let (f, first) ← holding [ov] (getMethod ov m pl)
      callWith pos f first (backTo pos (starEach [] X.env)) (backToKw pos (keywordEach [] X.env))) := by rfl) :
    JE X cl W (.Call (.Attribute o m apos) [] [] pos) (dMeth c m (fun ds st => F (ds ++ dds) st) to dNil) :=
  PE.mono (pe_methS0 ho hc hm G hr hb hv hx ht) fun σ H Q h => by
    have h := lift_meth (t := dNil) h hd
    refine (show tMeth (cl c) m (spD X.K cl F) dvs (WE W σ) (lift X.K cl W to) tNil σ H Q from ?_)
    obtain ⟨as, st, τ, w, e, p⟩ := h
    refine ⟨as, st, τ, w, e, p.mono fun d st1 as1 H1 e1 w1 p1 v rv => ?_⟩
    obtain ⟨a, dx, fs, h1, h2, h3, as2, st2, τ2, w2, e2, p2⟩ := p1 v rv
    exact ⟨a, dx, fs, h1, h2, h3, p2.here w2 [] .nil⟩
theorem j_meth0 {c : Str} {pl : Sem Bool} (hx : ∀ σ, PassesAt (L2.CX X.prog X.w) X σ (WE W σ)) (hc : Cls X.K (cl c)) (hm : Meth X.K (cl c) m f) (G : FnD X.prog X.w X.K X.mg X.base cl k f fd ps F) (hr : Room k X.A) (hb : Binds X.K fd ps [])
    (ho : JE X cl W o to)
    (ht : eval (.Call (.Attribute o m apos) [] [] pos) X.env = (do
      let ov ← eval o X.env
      standAt apos.atName
      let (f, first) ← holding [ov] (getMethod ov m pl)
      callWith pos f first (backTo pos (starEach [] X.env)) (backToKw pos (keywordEach [] X.env))) := by rfl) :
    JE X cl W (.Call (.Attribute o m apos) [] [] pos) (dMeth c m F to dNil) :=
  PE.mono (j_methD0 (dds := []) (dvs := []) hx hc hm G hr hb .nil (fun _ _ => .nil) ho ht) fun σ H Q h => by
    simp only [List.append_nil]
    exact h
/-- C(..) -/
def dMake (c : Str) (F : DF) (t : DA) : DE := fun τ st => (t τ st).bind fun ds st => (F (.ref st.length :: ds) (st ++ [.ins c []])).bind fun r st' => match r with
  | .non => .ok (.ref st.length) st'
  | _ => .bad
theorem Evo.push2 {K : PySem.W.Frag} {as : Mp} {st : Sto} {H : Hp} (w : Wd K cl as st H) {x dx : Addr} {c : Str} (hx : H x = none) (hd : H dx = none) (hne : dx ≠ x) :
    Evo as H (as.push x) (upd (upd H dx (.own x)) x (.ins (cl c) dx [])) ∧ Wd K cl (as.push x) (st ++ [.ins c []]) (upd (upd H dx (.own x)) x (.ins (cl c) dx [])) := by
  have w1 := w.new (o := .own x) hd
  have hx1 : upd H dx (.own x) x = none := by rw [upd_ne (Ne.symm hne)]; exact hx
  exact ⟨(Evo.new w hd).trans (Evo.push w1 hx1), w1.push hx1 (.ins .nil)⟩
theorem run_makeS {C : Addr} {sp : Sp} {E : L2.St → XK} {pins : List (Addr × Obj)} {σ : L2.St} {H : Hp} {s : Shared} {Q : VK} {us : List Value} {vs : List V} (M : Mk X.K C f) (G : FnOk X.prog X.w X.K X.mg X.base (L2.CX X.prog X.w) k f fd ps sp) (hr : Room (k + 1) X.A) (hb : Binds X.K fd ps dfs) (hd : Vals dvs dfs)
    (hx : PassesAt (L2.CX X.prog X.w) X σ (E σ)) (I : Inv X pins σ H s) (r : Vals vs us)
    (h : ∀ x dx, H x = none → H dx = none → dx ≠ x → sp (.ref x :: (vs ++ dvs)) (upd (upd H dx (.own x)) x (.ins C dx [])) (fun v H2 => v = .non ∧ Q (.ref x) H2) (E σ)) :
    wpAny (model X.prog X.w) X.A (call (.ref C) us) (EP X pins σ Q) X.xe s := by
  have hq := h (s.heap.objs.size + 1) s.heap.objs.size (I.hok.fresh (Nat.le_succ _)) (I.hok.fresh (Nat.le_refl _)) (Nat.ne_of_lt (Nat.lt_succ_self _))
  have I2 := Inv.made (C := C) I
  have r2 : Vals (V.ref (s.heap.objs.size + 1) :: (vs ++ dvs)) (Value.ref (s.heap.objs.size + 1) :: (us ++ dfs)) := .cons rfl (r.append hd)
  have hl : (Value.ref (s.heap.objs.size + 1) :: us ++ dfs).length = ps.length := by
    have e := r2.length
    rw [G.len _ _ _ _ hq] at e
    exact e.symm
  refine wpAny_call (make_map (f := f) I.kIn M.makes M.init (beq_iff_eq.mp M.fn) (codeAny_mono (G.run _ X.stack _ _ ⟨Value.ref (s.heap.objs.size + 1) :: us, []⟩ (Value.ref (s.heap.objs.size + 1) :: (us ++ dfs)) _ _ (E σ) (hr.make C us [])
    (I2.env0.make C us []) (hb _ (Value.ref (s.heap.objs.size + 1) :: us) I2.kIn hl) r2 hq) fun r s' hq' => ?_))
  cases r with
  | error e => exact hx pins _ _ e s' I2 hq'
  | ok fl =>
    cases fl with
    | ret u =>
      obtain ⟨v, H', I3, rv, ev, q3⟩ := I2.after hq'
      subst ev
      exact ⟨rv, ⟨V.ref (s.heap.objs.size + 1), H', I3, rfl, q3⟩⟩
    | next => exact False.elim hq'
    | brk => exact False.elim hq'
    | cont => exact False.elim hq'
theorem make_lift {c : Str} {E : XK} {as : Mp} {st : Sto} {H : Hp} {ds : List D} {vs : List V} {Q : VK} (w : Wd X.K cl as st H) (rs : Reps X.K as H ds vs)
    (p : Post X.K cl E as H ((F (.ref st.length :: ds) (st ++ [.ins c []])).bind fun r st' => match r with | .non => .ok (.ref st.length) st' | _ => .bad) (QV X.K Q)) :
    ∀ x dx, H x = none → H dx = none → dx ≠ x → spD X.K cl F (.ref x :: (vs ++ [])) (upd (upd H dx (.own x)) x (.ins (cl c) dx [])) (fun v H2 => v = .non ∧ Q (.ref x) H2) E := by
  intro x dx hx hd hne
  obtain ⟨e1, w1⟩ := Evo.push2 (c := c) w hx hd hne
  rw [List.append_nil]
  refine ⟨_, _, .ref st.length :: ds, w1, .cons (Rep.newRef w) (rs.evo e1), (Post.evo e1 p).bind.mono fun d st2 as2 H2 e2 w2 p2 v rv => ?_⟩
  cases d with
  | non => cases rv; exact ⟨rfl, p2.here w2 _ ((Rep.newRef w).evo e2)⟩
  | _ => exact p2.elim
theorem j_make {c : Str} (hx : ∀ σ, PassesAt (L2.CX X.prog X.w) X σ (WE W σ)) (M : Mk X.K (cl c) f) (G : FnD X.prog X.w X.K X.mg X.base cl k f fd ps F) (hr : Room (k + 1) X.A) (hg : Gl X x) (hm : X.mg x = some (.ref (cl c))) (hb : Binds X.K fd ps [])
    (ha : JA X cl W (e :: es) t) (hdb : (x == ("__debug__" : Str)) = false := by decide) (he : starEach (e :: es) X.env = (false, eval e X.env) :: starEach es X.env := by rfl) (hpl : (backTo pos (starEach es X.env)).any (·.1) = false := by rfl) :
    JE X cl W (.Call (.Name x p) (e :: es) [] pos) (dMake c F t) := by
  refine ⟨fun pins s σ H Q I ⟨as, st, τ, w, e, p⟩ => ?_⟩
  refine wpAny_Call_Name_kw (ld_glob I hg hm ?_ hdb)
  have hA := ha.run pos pins s σ H (fun xs H1 => ∀ x dx, H1 x = none → H1 dx = none → dx ≠ x → spD X.K cl F (.ref x :: (xs ++ [])) (upd (upd H1 dx (.own x)) x (.ins (cl c) dx [])) (fun v H2 => v = .non ∧ Q (.ref x) H2) (WE W σ)) I
    ⟨as, st, τ, w, e, p.bind.mono fun ds st1 as1 H1 e1 w1 p1 xs rx => make_lift w1 rx p1⟩
  refine PySem.W.callWith_K (h₀ := X.base) I.ok.mod.kin M.kp (thn hA fun us s1 ⟨vs, H1, I1, r, q⟩ => ⟨I1.kIn, ?_⟩) he hpl
  exact run_makeS (E := WE W) M G hr hb .nil (hx σ) I1 r q
theorem j_make0 {c : Str} (hx : ∀ σ, PassesAt (L2.CX X.prog X.w) X σ (WE W σ)) (M : Mk X.K (cl c) f) (G : FnD X.prog X.w X.K X.mg X.base cl k f fd ps F) (hr : Room (k + 1) X.A) (hg : Gl X x) (hm : X.mg x = some (.ref (cl c))) (hb : Binds X.K fd ps [])
    (hdb : (x == ("__debug__" : Str)) = false := by decide) : JE X cl W (.Call (.Name x p) [] [] pos) (dMake c F dNil) := by
  refine ⟨fun pins s σ H Q I ⟨as, st, τ, w, e, p⟩ => ?_⟩
  refine wpAny_Call_Name_kw (ld_glob I hg hm ?_ hdb)
  exact PySem.W.callWith_K0 I.kIn M.kp (run_makeS (us := []) (vs := []) (E := WE W) M G hr hb .nil (hx σ) I .nil (make_lift w .nil p))
end
end DL

/-! DL6: loops, comprehensions, methods of lists. -/
namespace DL
open PySem PySem.Spec PyProof.Rows L2

/-! ### what is walked -/
abbrev DI := En → Sto → R (List D)
structure Walk (K : PySem.W.Frag) (cl : Cl) (as : Mp) (H : Hp) (J : It) (ds : List D) : Prop where
  go : ∀ i as' H', Mv as H as' H' → i < ds.length → J.go i H'
  yld : ∀ i as' st' H' x H'', i < ds.length → Mv as H as' H' → Wd K cl as' st' H' → J.yld i H' x H'' → ∃ d, ds[i]? = some d ∧ (H'' = H' ∨ ∃ p o, H' p = none ∧ H'' = upd H' p o) ∧ Rep K as' H'' d x
  stop : ∀ i as' H', Mv as H as' H' → ds.length ≤ i → J.stop i H'
theorem Walk.evo {K : PySem.W.Frag} {cl : Cl} {as' : Mp} {st' : Sto} {H' H'' : Hp} (h : H'' = H' ∨ ∃ p o, H' p = none ∧ H'' = upd H' p o) (w : Wd K cl as' st' H') : Evo as' H' as' H'' ∧ Wd K cl as' st' H'' := by
  rcases h with h | ⟨p, o, h1, h2⟩
  · subst h; exact ⟨.refl, w⟩
  · subst h2; exact ⟨Evo.new w h1, w.new h1⟩
def liftI (K : PySem.W.Frag) (cl : Cl) (W : WX) (t : DI) : TI := fun σ H Q => ∃ as st τ, Wd K cl as st H ∧ RepE K as H τ σ ∧ Post K cl (WE W σ) as H (t τ st) fun ds _ as' H' => ∀ J, Walk K cl as' H' J ds → Q J H'
abbrev JI (X : Cx) (cl : Cl) (W : WX) (tg e : Expr) (t : DI) : Prop := PI X tg e (liftI X.K cl W t)
/-- a tuple's items; a list's (nobody changes it meanwhile) -/
def iSeq (t : DE) : DI := fun τ st => (t τ st).bind fun d st => match d with
  | .lst ds => .ok ds st
  | .fro ds => .ok ds st
  | _ => .bad
def iTupD (t : DE) : DI := fun τ st => (t τ st).bind fun d st => match d with
  | .tup ds => .ok ds st
  | _ => .bad
def iStrD (t : DE) : DI := fun τ st => (t τ st).bind fun d st => match d with
  | .str x => .ok (x.cps.toList.map fun c => .str ⟨#[c]⟩) st
  | _ => .bad
def rng (lo hi : Int) : List D := (List.range (hi - lo).toNat).map fun (k : Nat) => D.int (lo + (k : Int))
def iRng1D (t : DA) : DI := fun τ st => (t τ st).bind fun ds st => match ds with
  | [.int n] => if -(2 ^ 62) ≤ n ∧ n < 2 ^ 62 then .ok (rng 0 n) st else .bad
  | _ => .bad
def iRng2D (t : DA) : DI := fun τ st => (t τ st).bind fun ds st => match ds with
  | [.int a, .int n] => if (-(2 ^ 62) ≤ a ∧ a < 2 ^ 62) ∧ (-(2 ^ 62) ≤ n ∧ n < 2 ^ 62) then .ok (rng a n) st else .bad
  | _ => .bad
section
variable {X : Cx} {cl : Cl} {W : WX} {tg e : Expr} {es : List Expr} {te : DE} {t : DA} {p pos : Pos}
theorem walk_list {K : PySem.W.Frag} {as : Mp} {H : Hp} {a : Addr} {xs : List V} {ds : List D} (hq : ∀ as' H', Mv as H as' H' → SqL K H' a xs) (hr : Reps K as H ds xs) : Walk K cl as H (Itl K a) ds where
  go := fun i as' H' e hi => by
    obtain ⟨v, h1, _⟩ := hr.get (List.getElem?_eq_getElem hi)
    exact ⟨xs, v, hq _ _ e, h1⟩
  yld := fun i as' st' H' x H'' hi e w ⟨h1, h2⟩ => by
    subst h1
    have h3 := h2 xs (hq _ _ e)
    obtain ⟨v, h4, h5⟩ := hr.get (List.getElem?_eq_getElem hi)
    rw [h3] at h4; cases h4
    exact ⟨_, List.getElem?_eq_getElem hi, .inl rfl, h5.mv e⟩
  stop := fun i as' H' e hi => ⟨xs, hq _ _ e, by rw [← hr.len]; exact hi⟩
theorem walk_tup {K : PySem.W.Frag} {as : Mp} {H : Hp} {a : Addr} {xs : List V} {ds : List D} (hq : ∀ as' H', Mv as H as' H' → SqT K H' a xs) (hr : Reps K as H ds xs) : Walk K cl as H (Itt K a) ds where
  go := fun i as' H' e hi => by
    obtain ⟨v, h1, _⟩ := hr.get (List.getElem?_eq_getElem hi)
    exact ⟨xs, v, hq _ _ e, h1⟩
  yld := fun i as' st' H' x H'' hi e w ⟨h1, h2⟩ => by
    subst h1
    have h3 := h2 xs (hq _ _ e)
    obtain ⟨v, h4, h5⟩ := hr.get (List.getElem?_eq_getElem hi)
    rw [h3] at h4; cases h4
    exact ⟨_, List.getElem?_eq_getElem hi, .inl rfl, h5.mv e⟩
  stop := fun i as' H' e hi => ⟨xs, hq _ _ e, by rw [← hr.len]; exact hi⟩
theorem StF.mvl {K : PySem.W.Frag} {as as' : Mp} {H H' : Hp} (e : Mv as H as' H') {a : Addr} {xs : List V} (h : StF K as H a xs) : SqL K H' a xs := (h.mv e).l
theorem ji_seq (he : JE X cl W e te) : JI X cl W tg e (iSeq te) := by
  refine PI.mono (pi_list he) fun σ H Q ⟨as, st, τ, w, e, p⟩ => ⟨as, st, τ, w, e, p.bind.mono fun d st1 as1 H1 e1 w1 p1 v rv => ?_⟩
  split at p1
  · cases rv with
    | lst n h r => exact ⟨_, rfl, ⟨_, .of h⟩, p1.here w1 _ (walk_list (fun as' H' f => .of (f.k _ _ h n).2) r)⟩
  · cases rv with
    | fro s r => exact ⟨_, rfl, ⟨_, s.l⟩, p1.here w1 _ (walk_list (fun as' H' f => s.mvl f) r)⟩
  · exact p1.elim
theorem ji_tup (he : JE X cl W e te) : JI X cl W tg e (iTupD te) := by
  refine PI.mono (pi_tup he) fun σ H Q ⟨as, st, τ, w, e, p⟩ => ⟨as, st, τ, w, e, p.bind.mono fun d st1 as1 H1 e1 w1 p1 v rv => ?_⟩
  split at p1
  · cases rv with
    | tup s r => exact ⟨_, rfl, ⟨_, s.t⟩, p1.here w1 _ (walk_tup (fun as' H' f => (s.mv f).t) r)⟩
  · exact p1.elim
theorem ji_str (he : JE X cl W e te) : JI X cl W tg e (iStrD te) := by
  refine PI.mono (pi_str he) fun σ H Q ⟨as, st, τ, w, e, p⟩ => ⟨as, st, τ, w, e, p.bind.mono fun d st1 as1 H1 e1 w1 p1 v rv => ?_⟩
  split at p1
  · rename_i x
    cases rv
    refine ⟨x, rfl, p1.here w1 _ ⟨fun i as' H' _ hi => ?_, fun i as' st' H' v H'' _ _ w' ⟨h1, c, h2, h3⟩ => ?_, fun i as' H' _ hi => ?_⟩⟩
    · show i < x.cps.size
      simpa using hi
    · subst h1; subst h3
      exact ⟨_, by rw [List.getElem?_map, Array.getElem?_toList, h2]; rfl, .inl rfl, .str _⟩
    · show x.cps.size ≤ i
      simpa using hi
  · exact p1.elim
theorem rng_get {lo hi : Int} {i : Nat} (h : i < (hi - lo).toNat) : (rng lo hi)[i]? = some (.int (lo + (i : Int))) := by
  unfold rng
  rw [List.getElem?_map, List.getElem?_range h]
  rfl
theorem rng_len {lo hi : Int} : (rng lo hi).length = (hi - lo).toNat := by unfold rng; simp
theorem walk_rng {K : PySem.W.Frag} {as : Mp} {H : Hp} {lo hi : Int} : Walk K cl as H (Itr lo (hi - lo).toNat) (rng lo hi) where
  go := fun i as' H' e h => by rw [rng_len] at h; exact h
  yld := fun i as' st' H' x H'' hi e w ⟨h1, h2⟩ => by
    subst h1; subst h2
    rw [rng_len] at hi
    exact ⟨_, rng_get hi, .inl rfl, .int _⟩
  stop := fun i as' H' e h => by rw [rng_len] at h; exact h
theorem ji_rng1 {a : Expr} (hg : Gl X "range") (hm : X.mg "range" = none) (ha : JA X cl W [a] t) (hs : starEach [a] X.env = [(false, eval a X.env)] := by rfl) : JI X cl W tg (.Call (.Name "range" p) [a] [] pos) (iRng1D t) := by
  refine PI.mono (pi_range1 hg hm ha hs) fun σ H Q ⟨as, st, τ, w, e, p⟩ => ⟨as, st, τ, w, e, p.bind.mono fun ds st1 as1 H1 e1 w1 p1 vs rv => ?_⟩
  split at p1
  · obtain ⟨v, rfl, r⟩ := rv.one
    cases r
    split at p1
    · rename_i n hn
      refine ⟨n, rfl, hn.1, hn.2, p1.here w1 _ ?_⟩
      have q := walk_rng (cl := cl) (K := X.K) (as := as1) (H := H1) (lo := 0) (hi := n)
      rw [Int.sub_zero] at q
      exact q
    · exact p1.elim
  · exact p1.elim
theorem ji_rng2 {a b : Expr} (hg : Gl X "range") (hm : X.mg "range" = none) (ha : JA X cl W [a, b] t) (hs : starEach [a, b] X.env = [(false, eval a X.env), (false, eval b X.env)] := by rfl) (hs2 : starEach [b] X.env = [(false, eval b X.env)] := by rfl) :
    JI X cl W tg (.Call (.Name "range" p) [a, b] [] pos) (iRng2D t) := by
  refine PI.mono (pi_range2 hg hm ha hs hs2) fun σ H Q ⟨as, st, τ, w, e, p⟩ => ⟨as, st, τ, w, e, p.bind.mono fun ds st1 as1 H1 e1 w1 p1 vs rv => ?_⟩
  split at p1
  · obtain ⟨v, u, rfl, r, q⟩ := rv.two
    cases r; cases q
    split at p1
    · rename_i hn
      exact ⟨_, _, rfl, ⟨hn.1.1, hn.1.2, hn.2.1, hn.2.2⟩, p1.here w1 _ walk_rng⟩
    · exact p1.elim
  · exact p1.elim
end

/-! ### for -/
/-- behind a turn -/
@[reducible] def R.turn (r : R (Fl × En)) (k : En → Sto → R (Fl × En)) : R (Fl × En) := r.bind fun r st => match r with
  | (.nx, τ) => k τ st
  | (.ct, τ) => k τ st
  | (.bk, τ) => .ok (.nx, τ) st
  | r => .ok r st
def forL (g : DG) (body : DS) : List D → DS
  | [], τ, st => .ok (.nx, τ) st
  | d :: ds, τ, st => (g d τ st).stm τ fun τ st => (body τ st).turn fun τ st => forL g body ds τ st
def dFor (it : DI) (g : DG) (body : DS) : DS := fun τ st => (it τ st).stm τ fun ds st => forL g body ds τ st
section
variable {X : Cx} {cl : Cl} {W : WX} {tg e c : Expr} {body : List Stmt} {it : DI} {g : DG} {t : DS} {pos : Pos}
theorem turn_ok {as : Mp} {st : Sto} {σ : L2.St} {τ : En} {H : Hp} {M : Ends} {N : L2.St → Hp → Prop} {k : En → Sto → R (Fl × En)} (w : Wd X.K cl as st H) (e : RepE X.K as H τ σ)
    (p : Post X.K cl E00 as H ((t τ st).turn k) fun r _ as' H' => FlOk X.K cl W M as' H' r.2 r.1)
    (hN : ∀ as' H' τ' st' σ', Evo as H as' H' → Wd X.K cl as' st' H' → RepE X.K as' H' τ' σ' → (Post X.K cl E00 as' H' (k τ' st') fun r _ as' H' => FlOk X.K cl W M as' H' r.2 r.1) → N σ' H') :
    liftS X.K cl W t { M with nx := N, ct := N, bk := M.nx } σ H := by
  refine ⟨as, st, τ, w, e, p.bind.mono fun r st1 as1 H1 e1 w1 p1 => ?_⟩
  obtain ⟨f, τ1⟩ := r
  cases f with
  | nx => exact fun σ1 r1 => hN as1 H1 τ1 st1 σ1 e1 w1 r1 p1
  | ct => exact fun σ1 r1 => hN as1 H1 τ1 st1 σ1 e1 w1 r1 p1
  | bk => exact p1.here w1
  | rt d => exact p1.here w1
  | ex x => exact p1.here w1
theorem js_for (hx : CxOk X W) (hi : JI X cl W tg e it) (hg : JG X cl W tg g) (hb : JSs X cl W body t) (hs : ∀ x, foldedSetIterable e X.env x = pure x := by intro _; rfl) : JS X cl W (.For tg e body [] pos) (dFor it g t) := by
  refine PS.mono (ps_for hx.own hx.calm hi hg hb hs) fun M σ H ⟨as, st, τ, w, e, p⟩ => ⟨as, st, τ, w, e, (Post.stm e p).mono fun ds st1 as1 H1 e1 w1 p1 J Wk => ?_⟩
  refine ⟨fun i m σ' H' => m = ds.length - i ∧ i ≤ ds.length ∧ ∃ as' st' τ', Evo as1 H1 as' H' ∧ Wd X.K cl as' st' H' ∧ RepE X.K as' H' τ' σ' ∧ Post X.K cl E00 as' H' (forL g t (ds.drop i) τ' st') (fun r _ as' H' => FlOk X.K cl W M as' H' r.2 r.1),
    ⟨ds.length, by simp, by simp, as1, st1, τ, .refl, w1, e.evo e1, p1⟩, ?_⟩
  rintro i m σ' H' ⟨rfl, hi, as', st', τ', e2, w2, r2, p2⟩
  by_cases hlt : i < ds.length
  · refine .inr ⟨Wk.go i as' H' e2.mv hlt, _, fun σ'' H'' n => n, fun x H'' y => ?_⟩
    obtain ⟨d, hd, hn, r3⟩ := Wk.yld i as' st' H' x H'' hlt e2.mv w2 y
    obtain ⟨e3, w3⟩ := Walk.evo hn w2
    have hdr : ds.drop i = d :: ds.drop (i + 1) := by
      rw [List.drop_eq_getElem_cons hlt]
      rw [List.getElem?_eq_getElem hlt] at hd
      rw [Option.some.inj hd]
    rw [hdr] at p2
    have p2 : Post X.K cl E00 as' H' ((g d τ' st').stm τ' fun τ st => (t τ st).turn fun τ st => forL g t (ds.drop (i + 1)) τ st) (fun r _ as' H' => FlOk X.K cl W M as' H' r.2 r.1) := p2
    refine ⟨as', st', τ', d, w3, r2.evo e3, r3, (Post.stm (r2.evo e3) (p2.evo e3)).mono fun τ4 st4 as4 H4 e4 w4 p4 σ4 r4 => ?_⟩
    refine turn_ok w4 r4 p4 fun as5 H5 τ5 st5 σ5 e5 w5 r5 p5 => ⟨ds.length - (i + 1), by omega, rfl, hlt, as5, st5, τ5, ((e2.trans e3).trans e4).trans e5, w5, r5, p5⟩
  · refine .inl ⟨Wk.stop i as' H' e2.mv (by omega), ?_⟩
    rw [List.drop_eq_nil_of_le (by omega)] at p2
    exact p2.here w2 σ' r2
/-! ### while -/
def whileN (c : DT) (body : DS) : Nat → DS
  | 0, _, _ => .bad
  | n + 1, τ, st => (c τ st).stm τ fun b st => if b = true then (body τ st).turn fun τ st => whileN c body n τ st else .ok (.nx, τ) st
def fuel : Nat := 1000000000
def dWhile (c : DT) (body : DS) : DS := whileN c body fuel
theorem js_while {uc : DT} (hx : CxOk X W) (hc : JT X cl W c uc) (hb : JSs X cl W body t) : JS X cl W (.While c body [] pos) (dWhile uc t) := by
  refine PS.mono (ps_while hx.own hc hb) fun M σ H ⟨as, st, τ, w, e, p⟩ => ?_
  refine ⟨fun m σ' H' => ∃ as' st' τ', Wd X.K cl as' st' H' ∧ RepE X.K as' H' τ' σ' ∧ Post X.K cl E00 as' H' (whileN uc t m τ' st') (fun r _ as' H' => FlOk X.K cl W M as' H' r.2 r.1), ⟨fuel, as, st, τ, w, e, p⟩, ?_⟩
  rintro m σ' H' ⟨as', st', τ', w1, e1, p1⟩
  cases m with
  | zero => exact p1.elim
  | succ m =>
    have p1 : Post X.K cl E00 as' H' ((uc τ' st').stm τ' fun b st => if b = true then (t τ' st).turn fun τ st => whileN uc t m τ st else .ok (.nx, τ') st) (fun r _ as' H' => FlOk X.K cl W M as' H' r.2 r.1) := p1
    refine ⟨as', st', τ', w1, e1, (Post.stm e1 p1).mono fun b st2 as2 H2 e2 w2 p2 => ?_⟩
    cases b with
    | true => exact ⟨_, fun σ'' H'' n => n, turn_ok w2 (e1.evo e2) p2 fun as5 H5 τ5 st5 σ5 e5 w5 r5 p5 => ⟨m, Nat.lt_succ_self m, as5, st5, τ5, w5, r5, p5⟩⟩
    | false => exact p2.here w2 σ' (e1.evo e2)
end

/-! ### comprehensions -/
/-- the targets: names, by their places -/
inductive Tgt where
  | one (i : Nat)
  | tup (is : List Nat)
def Tgt.put : Tgt → D → En → Option En
  | .one i, d, τ => some (τ.set i (some d))
  | .tup is, .tup ds, τ => if ds.length = is.length then some (go is ds τ) else none
  | .tup _, _, _ => none
where go : List Nat → List D → En → En
  | i :: is, d :: ds, τ => go is ds (τ.set i (some d))
  | _, _, τ => τ
def Tgt.names : Tgt → List Nat
  | .one i => [i]
  | .tup is => is
def gNamesR : List Nat → TGs
  | [] => gNil
  | i :: is => gCons (gName i) (gNamesR is)
/-- its reading -/
def Tgt.raw (K : PySem.W.Frag) : Tgt → TG
  | .one i => gName i
  | .tup is => gTup K is.length (gNamesR is)
def compL (tg : Tgt) (tt : DT) (te : DE) (τ : En) : List D → List D → Sto → R (List D)
  | [], acc, st => .ok acc st
  | d :: ds, acc, st => match tg.put d τ with
    | none => .bad
    | some τ1 => match tt τ1 st with
      | .ok b st => if b = true then (match te τ1 st with
        | .ok y st => if acc.length < sizeLine then compL tg tt te τ ds (acc ++ [y]) st else .bad
        | _ => .bad) else compL tg tt te τ ds acc st
      | _ => .bad
def dComp (it : DI) (tg : Tgt) (tt : DT) (te : DE) (vs : List Nat) : DE := fun τ st => (it τ st).bind fun ds st => (compL tg tt te (wipeD τ vs) ds [] st).bind fun out st => .ok (.lst out) st
/-- .. a list that will change -/
def dCompN (it : DI) (tg : Tgt) (tt : DT) (te : DE) (vs : List Nat) : DE := fun τ st => (it τ st).bind fun ds st => (compL tg tt te (wipeD τ vs) ds [] st).bind fun out st => .ok (.ref st.length) (st ++ [.lst out])
def dYes : DT := fun _ st => .ok true st
theorem wipe_set {σ : L2.St} {i : Nat} {x : Option V} : ∀ {vs : List Nat}, i ∈ vs → L2.wipe (σ.set i x) vs = L2.wipe σ vs
  | [], h => by cases h
  | v :: vs, h => by
    unfold L2.wipe
    by_cases e : i ∈ vs
    · rw [wipe_set e]
    · rcases List.mem_cons.mp h with rfl | h
      · -- the wiped rest keeps the place
        have go : ∀ (us : List Nat), i ∉ us → (L2.wipe (σ.set i x) us) = (L2.wipe σ us).set i x := fun us => by
          induction us with
          | nil => exact fun _ => rfl
          | cons u us ih =>
            intro hn
            rw [List.mem_cons, not_or] at hn
            unfold L2.wipe
            rw [ih hn.2, List.set_comm _ _ hn.1]
        rw [go vs e, List.set_set]
      · exact absurd h e
theorem wipe_wipe (σ : L2.St) : ∀ (vs : List Nat) (us : List Nat), (∀ v ∈ vs, v ∈ us) → L2.wipe (L2.wipe σ vs) us = L2.wipe σ us
  | [], _, _ => rfl
  | v :: vs, us, h => by
    show L2.wipe ((L2.wipe σ vs).set v none) us = _
    rw [wipe_set (h v List.mem_cons_self), wipe_wipe σ vs us fun u hu => h u (List.mem_cons_of_mem _ hu)]
section
variable {X : Cx} {cl : Cl} {W : WX}
theorem Tgt.go_ok {K : PySem.W.Frag} {as : Mp} {H : Hp} {vs : List Nat} {Q : L2.St → Hp → Prop} : ∀ {is : List Nat} {ds : List D} {xs : List V} {τ : En} {σ : L2.St}, (∀ i ∈ is, i ∈ vs) → Reps K as H ds xs → ds.length = is.length → RepE K as H τ σ →
    (∀ σ1, RepE K as H (Tgt.put.go is ds τ) σ1 → L2.wipe σ1 vs = L2.wipe σ vs → Q σ1 H) → gNamesR is xs σ H Q
  | [], _, _, τ, σ, hv, .nil, hl, e, q => ⟨rfl, q σ e rfl⟩
  | [], _, _, τ, σ, hv, .cons _ _, hl, e, q => by simp at hl
  | i :: is, _, _, τ, σ, hv, .nil, hl, e, q => by simp at hl
  | i :: is, _, _, τ, σ, hv, .cons r rs, hl, e, q => by
    refine ⟨_, _, rfl, ?_⟩
    exact Tgt.go_ok (fun j hj => hv j (List.mem_cons_of_mem _ hj)) rs (by simpa using hl) (e.set i r) fun σ1 h1 h2 => q σ1 h1 (by rw [h2, wipe_set (hv i List.mem_cons_self)])
/-- a target stores: what is wanted behind it -/
theorem Tgt.run {K : PySem.W.Frag} {as : Mp} {H : Hp} {d : D} {v : V} {τ τ1 : En} {σ : L2.St} {vs : List Nat} {Q : L2.St → Hp → Prop} (tg : Tgt) (hv : ∀ i ∈ tg.names, i ∈ vs) (e : RepE K as H τ σ) (r : Rep K as H d v) (h : tg.put d τ = some τ1)
    (q : ∀ σ1, RepE K as H τ1 σ1 → L2.wipe σ1 vs = L2.wipe σ vs → Q σ1 H) : tg.raw K v σ H Q := by
  cases tg with
  | one i =>
    cases h
    exact q _ (e.set i r) (wipe_set (hv i (by simp [Tgt.names])))
  | tup is =>
    cases d with
    | tup ds =>
      have h : (if ds.length = is.length then some (Tgt.put.go is ds τ) else none) = some τ1 := h
      split at h
      · rename_i hl
        cases h
        cases r with
        | tup s rs => exact ⟨_, _, rfl, s.t, by rw [← rs.len]; exact hl, Tgt.go_ok hv rs hl e q⟩
      · cases h
    | _ => cases h
theorem Mk1.mvs {as as' : Mp} {H H' : Hp} {p : Addr} (e : Mk1 as H p as' H') : Mv as H as' H' := ⟨let ⟨bs, h, _⟩ := e.evo.ext; ⟨bs, h⟩, fun a o h n => ⟨fun z => by
  rcases z with z | z
  · exact e.evo.out h n (.inl z)
  · rw [e.x] at z
    rcases List.mem_cons.mp z with z | z
    · exact ne_of_none h e.free z
    · exact n (.inr z), e.evo.keep a o h n⟩⟩
/-- the list in the making, as it is walked -/
theorem comp_core {as : Mp} {st : Sto} {σ : L2.St} {τ : En} {H : Hp} {J : It} {ds : List D} {tg : Tgt} {tt : DT} {te : DE} {vs : List Nat} {A : Addr} {Qf : Hp → Prop} {out : List D} {stf : Sto}
    (hv : ∀ i ∈ tg.names, i ∈ vs) (w : Wd X.K cl as st H) (e : RepE X.K as H τ σ) (Wk : Walk X.K cl as H J ds) (ha : H A = none) (hr : compL tg tt te (wipeD τ vs) ds [] st = .ok out stf)
    (hq : ∀ as' H' xs, Mk1 as H A as' H' → Wd X.K cl as' stf H' → H' A = some (.lst xs) → Reps X.K as' H' out xs → Qf H') :
    ∃ Wv : Nat → Nat → Hp → Prop, (∃ m, Wv 0 m (upd H A (.lst []))) ∧ ∀ i m H, Wv i m H →
      (J.stop i H ∧ Qf H) ∨ (J.go i H ∧ ∃ Nx : Hp → Prop, (∀ H', Nx H' → ∃ m', m' < m ∧ Wv (i + 1) m' H') ∧ ∀ x H', J.yld i H x H' → (tg.raw X.K) x (L2.wipe σ vs) H' fun σ2 H2 => L2.wipe σ2 vs = L2.wipe σ vs ∧ liftT X.K cl W0 tt σ2 H2 fun b H3 =>
        if b = true then lift X.K cl W0 te σ2 H3 fun y H4 => ∃ acc, H4 A = some (.lst acc) ∧ acc.length < sizeLine ∧ Nx (upd H4 A (.lst (acc ++ [y]))) else Nx H3) := by
  refine ⟨fun i m H' => m = ds.length - i ∧ i ≤ ds.length ∧ ∃ as' st' acc xs, Mk1 as H A as' H' ∧ Wd X.K cl as' st' H' ∧ H' A = some (.lst xs) ∧ Reps X.K as' H' acc xs ∧ compL tg tt te (wipeD τ vs) (ds.drop i) acc st' = .ok out stf,
    ⟨ds.length, by simp, by simp, as.hide A, st, [], [], Mk1.start w ha, w.hide ha, upd_same, .nil, hr⟩, ?_⟩
  rintro i m H' ⟨rfl, hi, as', st', acc, xs, m1, w1, hA, ra, hc⟩
  by_cases hlt : i < ds.length
  · have hdr : ds.drop i = ds[i] :: ds.drop (i + 1) := List.drop_eq_getElem_cons hlt
    rw [hdr] at hc
    unfold compL at hc
    refine .inr ⟨Wk.go i as' H' m1.mvs hlt, _, fun H'' n => n, fun x H'' y => ?_⟩
    obtain ⟨d, hd, hn, r3⟩ := Wk.yld i as' st' H' x H'' hlt m1.mvs w1 y
    obtain ⟨e3, w3⟩ := Walk.evo hn w1
    rw [List.getElem?_eq_getElem hlt] at hd
    cases hd
    cases hp : tg.put ds[i] (wipeD τ vs) with
    | none => rw [hp] at hc; cases hc
    | some τ1 =>
      rw [hp] at hc
      dsimp only at hc
      obtain ⟨m3, k3⟩ := m1.next e3 w
      refine tg.run hv ((e.mv m3.mvs).wipe vs) r3 hp fun σ1 q1 q2 => ⟨q2.trans (wipe_wipe σ vs vs fun _ h => h), as', st', τ1, w3, q1, ?_⟩
      cases ht : tt τ1 st' with
      | bad => rw [ht] at hc; cases hc
      | exc _ _ => rw [ht] at hc; cases hc
      | ok b st4 =>
        rw [ht] at hc
        dsimp only at hc
        intro as4 H4 e4 w4
        obtain ⟨m4, k4⟩ := m3.next e4 w
        cases b with
        | false => exact ⟨ds.length - (i + 1), by omega, rfl, hlt, as4, st4, acc, xs, m4, w4, k4.trans (k3.trans hA), (ra.evo e3).evo e4, hc⟩
        | true =>
          rw [if_pos rfl] at hc
          show lift X.K cl W0 te σ1 H4 _
          refine ⟨as4, st4, τ1, w4, q1.evo e4, ?_⟩
          cases hy : te τ1 st4 with
          | bad => rw [hy] at hc; cases hc
          | exc _ _ => rw [hy] at hc; cases hc
          | ok z st5 =>
            rw [hy] at hc
            dsimp only at hc
            intro as5 H5 e5 w5 v rv
            obtain ⟨m5, k5⟩ := m4.next e5 w
            split at hc
            · rename_i hl
              have ra5 := ((ra.evo e3).evo e4).evo e5
              refine ⟨xs, k5.trans (k4.trans (k3.trans hA)), by rw [← ra5.len]; exact hl, ?_⟩
              have sd : Mv as5 H5 as5 (upd H5 A (.lst (xs ++ [v]))) := Mv.side (.inr m5.mem)
              exact ⟨ds.length - (i + 1), by omega, rfl, hlt, as5, st5, acc ++ [z], xs ++ [v], m5.set w, w5.wrx m5.mem, upd_same, (ra5.append (.cons rv .nil)).mv sd, hc⟩
            · cases hc
  · rw [List.drop_eq_nil_of_le (by omega)] at hc
    unfold compL at hc
    cases hc
    exact .inl ⟨Wk.stop i as' H' m1.mvs (by omega), hq as' H' xs m1 w1 hA ra⟩
theorem lift_comp {it : DI} {tg : Tgt} {tt : DT} {te : DE} {vs : List Nat} (hv : ∀ i ∈ tg.names, i ∈ vs) {σ : L2.St} {H : Hp} {Q : VK} (h : lift X.K cl W (dComp it tg tt te vs) σ H Q) :
    tLc (liftI X.K cl W it) (tg.raw X.K) (liftT X.K cl W0 tt) (lift X.K cl W0 te) vs σ H Q := by
  obtain ⟨as, st, τ, w, e, p⟩ := h
  refine ⟨as, st, τ, w, e, p.bind.mono fun ds st1 as1 H1 e1 w1 p1 J Wk A ha => ?_⟩
  have he : ∀ x stx, compL tg tt te (wipeD τ vs) ds [] st1 ≠ .exc x stx := by
    suffices q : ∀ ds acc st x stx, compL tg tt te (wipeD τ vs) ds acc st ≠ .exc x stx from q ds [] st1
    intro ds
    induction ds with
    | nil => intro acc st x stx h; cases h
    | cons d ds ih =>
      intro acc st x stx h
      unfold compL at h
      split at h
      · cases h
      · split at h
        · split at h
          · split at h
            · split at h
              · exact ih _ _ _ _ h
              · cases h
            · cases h
          · exact ih _ _ _ _ h
        · cases h
  cases hc : compL tg tt te (wipeD τ vs) ds [] st1 with
  | bad => rw [hc] at p1; exact p1.elim
  | exc x stx => exact (he x stx hc).elim
  | ok out stf =>
    rw [hc] at p1
    refine comp_core hv w1 (e.evo e1) Wk ha hc fun as' H' xs m w' hA ra => ?_
    obtain ⟨w2, n2⟩ := m.fix w1 w'
    exact Post.ok p1 m.evo w2 _ (.lst n2 hA (ra.mv m.mv))
theorem lift_compN {it : DI} {tg : Tgt} {tt : DT} {te : DE} {vs : List Nat} (hv : ∀ i ∈ tg.names, i ∈ vs) {σ : L2.St} {H : Hp} {Q : VK} (h : lift X.K cl W (dCompN it tg tt te vs) σ H Q) :
    tLc (liftI X.K cl W it) (tg.raw X.K) (liftT X.K cl W0 tt) (lift X.K cl W0 te) vs σ H Q := by
  obtain ⟨as, st, τ, w, e, p⟩ := h
  refine ⟨as, st, τ, w, e, p.bind.mono fun ds st1 as1 H1 e1 w1 p1 J Wk A ha => ?_⟩
  have he : ∀ x stx, compL tg tt te (wipeD τ vs) ds [] st1 ≠ .exc x stx := by
    suffices q : ∀ ds acc st x stx, compL tg tt te (wipeD τ vs) ds acc st ≠ .exc x stx from q ds [] st1
    intro ds
    induction ds with
    | nil => intro acc st x stx h; cases h
    | cons d ds ih =>
      intro acc st x stx h
      unfold compL at h
      split at h
      · cases h
      · split at h
        · split at h
          · split at h
            · split at h
              · exact ih _ _ _ _ h
              · cases h
            · cases h
          · exact ih _ _ _ _ h
        · cases h
  cases hc : compL tg tt te (wipeD τ vs) ds [] st1 with
  | bad => rw [hc] at p1; exact p1.elim
  | exc x stx => exact (he x stx hc).elim
  | ok out stf =>
    rw [hc] at p1
    refine comp_core hv w1 (e.evo e1) Wk ha hc fun as' H' xs m w' hA ra => ?_
    obtain ⟨e2, w2⟩ := m.push w1 w' hA (.lst ra)
    refine Post.ok p1 e2 w2 _ (.ref ?_)
    show (as'.m ++ [A])[stf.length]? = some A
    rw [← w'.len]; simp
variable {elt tge iter : Expr} {ifs : List Expr} {scope : Scope} {own : List (Str × Nat)} {pos spos : Pos} {it : DI} {tg : Tgt} {tt : DT} {te : DE}
abbrev JTs (X : Cx) (cl : Cl) (ifs : List Expr) (t : DT) : Prop := PTs X ifs (liftT X.K cl W0 t)
theorem jts_nil : JTs X cl [] dYes := ⟨fun pins s σ H Q I ⟨as, st, τ, w, e, p⟩ => pts_nil.run pins s σ H Q I (p.here w)⟩
theorem jts_one {c : Expr} {t : DT} (h : JT X cl W0 c t) : JTs X cl [c] t := pts_one h
theorem j_lc (hc : X.calm = true) (hN : X.N.Nodup) (hi : JI X cl W tge iter it) (ok : BlkOk X.N X.env.scope scope own) (hv : ∀ i ∈ tg.names, i ∈ own.map (·.2))
    (hg : ∀ (s : Shared) (H : Hp) (C : Addr) (cl : List (Str × Addr)) (fp : List Addr), PG (X.blk s H scope (compEnvC scope cl C X.env) fp) tge (tg.raw X.K))
    (ht : ∀ (s : Shared) (H : Hp) (C : Addr) (cl' : List (Str × Addr)) (fp : List Addr), JTs (X.blk s H scope (compEnvC scope cl' C X.env) fp) cl ifs tt)
    (he : ∀ (s : Shared) (H : Hp) (C : Addr) (cl' : List (Str × Addr)) (fp : List Addr), JE (X.blk s H scope (compEnvC scope cl' C X.env) fp) cl W0 elt te) (hs : ∀ x, foldedSetIterable iter X.env x = pure x := by intro _; rfl) :
    JE X cl W (.ListComp elt [⟨tge, iter, ifs, 0⟩] scope pos) (dComp it tg tt te (own.map (·.2))) :=
  PE.mono (pe_lc hc hN hi ok hg ht he hs) fun _ _ _ h => lift_comp hv h
theorem j_lcN (hc : X.calm = true) (hN : X.N.Nodup) (hi : JI X cl W tge iter it) (ok : BlkOk X.N X.env.scope scope own) (hv : ∀ i ∈ tg.names, i ∈ own.map (·.2))
    (hg : ∀ (s : Shared) (H : Hp) (C : Addr) (cl : List (Str × Addr)) (fp : List Addr), PG (X.blk s H scope (compEnvC scope cl C X.env) fp) tge (tg.raw X.K))
    (ht : ∀ (s : Shared) (H : Hp) (C : Addr) (cl' : List (Str × Addr)) (fp : List Addr), JTs (X.blk s H scope (compEnvC scope cl' C X.env) fp) cl ifs tt)
    (he : ∀ (s : Shared) (H : Hp) (C : Addr) (cl' : List (Str × Addr)) (fp : List Addr), JE (X.blk s H scope (compEnvC scope cl' C X.env) fp) cl W0 elt te) (hs : ∀ x, foldedSetIterable iter X.env x = pure x := by intro _; rfl) :
    JE X cl W (.ListComp elt [⟨tge, iter, ifs, 0⟩] scope pos) (dCompN it tg tt te (own.map (·.2))) :=
  PE.mono (pe_lc hc hN hi ok hg ht he hs) fun _ _ _ h => lift_compN hv h
/-- y = [..], y a plain local -/
theorem js_setLc {i : Nat} {y : Str} {py : Pos} (hc : X.calm = true) (hN : X.N.Nodup) (hy : X.N[i]? = some y) (hyl : X.env.scope.names.lookup y = some .local)
    (hsw : swapsWith (.ListComp elt [⟨tge, iter, ifs, 0⟩] scope pos) (some (.Name y py)) spos.line X.env = pure true) (hi : JI X cl W tge iter it) (ok : BlkOk X.N X.env.scope scope own) (hv : ∀ i ∈ tg.names, i ∈ own.map (·.2))
    (hg : ∀ (s : Shared) (H : Hp) (C : Addr) (cl : List (Str × Addr)) (fp : List Addr), PG (X.blk s H scope (compEnvC scope cl C X.env) fp) tge (tg.raw X.K))
    (ht : ∀ (s : Shared) (H : Hp) (C : Addr) (cl' : List (Str × Addr)) (fp : List Addr), JTs (X.blk s H scope (compEnvC scope cl' C X.env) fp) cl ifs tt)
    (he : ∀ (s : Shared) (H : Hp) (C : Addr) (cl' : List (Str × Addr)) (fp : List Addr), JE (X.blk s H scope (compEnvC scope cl' C X.env) fp) cl W0 elt te) (hs : ∀ x, foldedSetIterable iter X.env x = pure x := by intro _; rfl) :
    JS X cl W (.Assign [.Name y py] (.ListComp elt [⟨tge, iter, ifs, 0⟩] scope pos) spos) (dAsg (dComp it tg tt te (own.map (·.2))) (gN i)) := by
  refine PS.mono (ps_setLc (tt := liftT X.K cl W0 tt) (te := lift X.K cl W0 te) hc hN hy hyl hsw hi ok hg ht he hs) fun M σ H ⟨as, st, τ, w, e, p⟩ => ?_
  show tLc _ _ _ _ _ σ H _
  refine lift_comp hv ⟨as, st, τ, w, e, (Post.stm e p).mono fun d st1 as1 H1 e1 w1 p1 v rv => ?_⟩
  exact p1.here w1 _ ((e.evo e1).set i rv)
theorem js_setLcN {i : Nat} {y : Str} {py : Pos} (hc : X.calm = true) (hN : X.N.Nodup) (hy : X.N[i]? = some y) (hyl : X.env.scope.names.lookup y = some .local)
    (hsw : swapsWith (.ListComp elt [⟨tge, iter, ifs, 0⟩] scope pos) (some (.Name y py)) spos.line X.env = pure true) (hi : JI X cl W tge iter it) (ok : BlkOk X.N X.env.scope scope own) (hv : ∀ i ∈ tg.names, i ∈ own.map (·.2))
    (hg : ∀ (s : Shared) (H : Hp) (C : Addr) (cl : List (Str × Addr)) (fp : List Addr), PG (X.blk s H scope (compEnvC scope cl C X.env) fp) tge (tg.raw X.K))
    (ht : ∀ (s : Shared) (H : Hp) (C : Addr) (cl' : List (Str × Addr)) (fp : List Addr), JTs (X.blk s H scope (compEnvC scope cl' C X.env) fp) cl ifs tt)
    (he : ∀ (s : Shared) (H : Hp) (C : Addr) (cl' : List (Str × Addr)) (fp : List Addr), JE (X.blk s H scope (compEnvC scope cl' C X.env) fp) cl W0 elt te) (hs : ∀ x, foldedSetIterable iter X.env x = pure x := by intro _; rfl) :
    JS X cl W (.Assign [.Name y py] (.ListComp elt [⟨tge, iter, ifs, 0⟩] scope pos) spos) (dAsg (dCompN it tg tt te (own.map (·.2))) (gN i)) := by
  refine PS.mono (ps_setLc (tt := liftT X.K cl W0 tt) (te := lift X.K cl W0 te) hc hN hy hyl hsw hi ok hg ht he hs) fun M σ H ⟨as, st, τ, w, e, p⟩ => ?_
  show tLc _ _ _ _ _ σ H _
  refine lift_compN hv ⟨as, st, τ, w, e, (Post.stm e p).mono fun d st1 as1 H1 e1 w1 p1 v rv => ?_⟩
  exact p1.here w1 _ ((e.evo e1).set i rv)
end

/-! ### methods of lists -/
/-- a method of a built-in: the receiver, the arguments -/
abbrev DM := D → List D → Sto → R D
def dBM (r : DM) (to : DE) (t : DA) : DE := fun τ st => (to τ st).bind fun x st => (t τ st).bind fun ds st => r x ds st
section
variable {X : Cx} {cl : Cl} {W : WX}
def liftM (K : PySem.W.Frag) (cl : Cl) (E : XK) (r : DM) : V → List V → Hp → VK → Prop := fun x xs H Q => ∃ as st d ds, Wd K cl as st H ∧ Rep K as H d x ∧ Reps K as H ds xs ∧ Post K cl E as H (r d ds st) (QV K Q)
theorem MtR.mono {id : String} {r r' : V → List V → Hp → VK → Prop} (h : MtR X id r) (k : ∀ x xs H Q, r' x xs H Q → r x xs H Q) : MtR X id r' := fun pins s σ H x xs v us Q I r1 r2 q => h pins s σ H x xs v us Q I r1 r2 (k _ _ _ _ q)
/-- a method's rule: what kind of value the receiver must be is told by T -/
def MtJ (X : Cx) (cl : Cl) (id : String) (r : DM) : Prop := ∀ E : XK, MtR X id (liftM X.K cl E r)
def isT (T : String) (d : D) (st : Sto) : Bool := match d with
  | .str _ => T == "str"
  | .int _ => T == "int"
  | .lst _ => T == "list"
  | .fro _ => T == "list"
  | .dic _ => T == "dict"
  | .ref n => match st[n]? with
    | some (.lst _) => T == "list"
    | some (.dK _) => T == "dict"
    | some (.dT _) => T == "dict"
    | _ => false
  | _ => false
theorem isT_ok {T : String} {as : Mp} {st : Sto} {H : Hp} {d : D} {v : V} (w : Wd X.K cl as st H) (r : Rep X.K as H d v) (h : isT T d st = true) : tyV X.K T v H := by
  cases r with
  | str x => exact beq_iff_eq.mp h
  | int i => exact beq_iff_eq.mp h
  | lst n h1 r => exact .inl ⟨beq_iff_eq.mp h, _, .of h1⟩
  | fro s r => exact .inl ⟨beq_iff_eq.mp h, _, s.l⟩
  | dic n h1 r => exact .inr (.inr (.inl ⟨beq_iff_eq.mp h, .inl ⟨_, h1⟩⟩))
  | @ref n a h1 =>
    have h : (match st[n]? with | some (.lst _) => T == "list" | some (.dK _) => T == "dict" | some (.dT _) => T == "dict" | _ => false) = true := h
    cases hs : st[n]? with
    | none => rw [hs] at h; cases h
    | some o =>
      rw [hs] at h
      cases o with
      | lst es =>
        obtain ⟨xs, h2, r⟩ := w.lst h1 hs
        exact .inl ⟨beq_iff_eq.mp h, _, .of h2⟩
      | dK es =>
        obtain ⟨xs, h2, r⟩ := w.dK h1 hs
        exact .inr (.inr (.inl ⟨beq_iff_eq.mp h, .inl ⟨_, h2⟩⟩))
      | dT es =>
        obtain ⟨xs, h2, r⟩ := w.dT h1 hs
        exact .inr (.inr (.inl ⟨beq_iff_eq.mp h, .inr ⟨_, h2⟩⟩))
      | ins _ _ => cases h
  | _ => cases h
def dBMT (T : String) (r : DM) (to : DE) (t : DA) : DE := fun τ st => (to τ st).bind fun x st => if isT T x st = true then (t τ st).bind fun ds st => r x ds st else .bad
variable {o e : Expr} {es : List Expr} {to : DE} {t : DA} {name : Str} {apos cpos : Pos} {T id : String} {r : DM}
theorem j_bm (pa : PlainAttrs T) (slot : Slot T name id) (hty : typeOf (.builtin id) = pure (.type "method_descriptor")) (hm : MtJ X cl id r) (ho : JE X cl W o to) (ha : JA X cl W (e :: es) t)
    (hbase : attributeBase o name X.env (eval o X.env) = eval o X.env := by rfl)
    (hfew : ((backTo cpos (starEach (e :: es) X.env)).all (fun x => !x.1) && (backToKw cpos (keywordEach [] X.env)).all (fun x => x.1.isSome)
      && decide ((e :: es).length + ([] : List Keyword).length + (if ([] : List Keyword).isEmpty then 0 else 1) < 30)) = true := by rfl)
    (hline : (apos.endLine == cpos.line) = true := by rfl) (hs : starEach (e :: es) X.env = (false, eval e X.env) :: starEach es X.env := by rfl) (hplain : (backTo cpos (starEach es X.env)).any (·.1) = false := by rfl) :
    JE X cl W (.Call (.Attribute o name apos) (e :: es) [] cpos) (dBMT T r to t) := by
  refine ⟨fun pins s σ H Q I ⟨as, st, τ, w, e, p⟩ => (pe_bm pa slot hty (hm (WE W σ)) ho ha hbase hfew hline hs hplain).run pins s σ H Q I ⟨as, st, τ, w, e, p.bind.mono fun d st1 as1 H1 e1 w1 p1 x rx => ?_⟩⟩
  split at p1
  · rename_i hT
    exact ⟨isT_ok w1 rx hT, as1, st1, τ, w1, e.evo e1, p1.bind.mono fun ds st2 as2 H2 e2 w2 p2 xs rxs => ⟨as2, st2, d, ds, w2, rx.evo e2, rxs, p2⟩⟩
  · exact p1.elim
theorem j_bm0 (pa : PlainAttrs T) (slot : Slot T name id) (hty : typeOf (.builtin id) = pure (.type "method_descriptor")) (hm : MtJ X cl id r) (ho : JE X cl W o to)
    (hbase : attributeBase o name X.env (eval o X.env) = eval o X.env := by rfl) (hline : (apos.endLine == cpos.line) = true := by rfl) : JE X cl W (.Call (.Attribute o name apos) [] [] cpos) (dBMT T r to dNil) := by
  refine ⟨fun pins s σ H Q I ⟨as, st, τ, w, e, p⟩ => (pe_bm0 pa slot hty (hm (WE W σ)) ho hbase hline).run pins s σ H Q I ⟨as, st, τ, w, e, p.bind.mono fun d st1 as1 H1 e1 w1 p1 x rx => ?_⟩⟩
  split at p1
  · rename_i hT
    exact ⟨isT_ok w1 rx hT, as1, st1, d, [], w1, rx, .nil, p1⟩
  · exact p1.elim
theorem MtJ.of {r0 : V → List V → Hp → VK → Prop} (h : MtR X id r0)
    (k : ∀ (E : XK) (as : Mp) (st : Sto) (H : Hp) (x : V) (xs : List V) (d : D) (ds : List D) (Q : VK), Wd X.K cl as st H → Rep X.K as H d x → Reps X.K as H ds xs → Post X.K cl E as H (r d ds st) (QV X.K Q) → r0 x xs H Q) : MtJ X cl id r :=
  fun E => MtR.mono h fun x xs H Q ⟨as, st, d, ds, w, rx, rs, p⟩ => k E as st H x xs d ds Q w rx rs p
def mAppend : DM := fun x ds st => match x, ds with
  | .ref n, [d] => match st[n]? with
    | some (.lst xs) => if xs.length < sizeLine then .ok .non (st.set n (.lst (xs ++ [d]))) else .bad
    | _ => .bad
  | _, _ => .bad
theorem mj_append : MtJ X cl "list.append" mAppend := MtJ.of mt_append fun E as st H x xs d ds Q w rx rs p => by
  unfold mAppend at p
  split at p
  · rename_i n d
    obtain ⟨a, rfl, ha⟩ := rx.refAt
    obtain ⟨v, rfl, rv⟩ := rs.one
    split at p
    · rename_i ys hn
      split at p
      · rename_i hl
        obtain ⟨zs, hH, rz⟩ := w.lst ha hn
        exact ⟨a, zs, v, rfl, rfl, hH, by rw [← rz.len]; exact hl, p.ok (Evo.wr w ha) (w.wr ha (.lst (rz.append (.cons rv .nil)))) _ .non⟩
      · exact p.elim
    · exact p.elim
  · exact p.elim
def mExtend : DM := fun x ds st => match x, ds with
  | .ref n, [d] => match st[n]?, lstOf d st with
    | some (.lst xs), some ys => if xs.length + ys.length ≤ sizeLine then .ok .non (st.set n (.lst (xs ++ ys))) else .bad
    | _, _ => .bad
  | _, _ => .bad
theorem mj_extend : MtJ X cl "list.extend" mExtend := MtJ.of mt_extend fun E as st H x xs d ds Q w rx rs p => by
  unfold mExtend at p
  split at p
  · rename_i n d
    obtain ⟨a, rfl, ha⟩ := rx.refAt
    obtain ⟨v, rfl, rv⟩ := rs.one
    split at p
    · rename_i ys us hn hd
      split at p
      · rename_i hl
        obtain ⟨zs, hH, rz⟩ := w.lst ha hn
        obtain ⟨b, ws, rfl, hB, rw'⟩ := lstOf_ok w rv hd
        exact ⟨a, b, zs, ws, rfl, rfl, hH, hB, by rw [← rz.len, ← rw'.len]; exact hl, p.ok (Evo.wr w ha) (w.wr ha (.lst (rz.append rw'))) _ .non⟩
      · exact p.elim
    · exact p.elim
  · exact p.elim
def mPop : DM := fun x ds st => match x, ds with
  | .ref n, [] => match st[n]? with
    | some (.lst xs) => (match xs[xs.length - 1]? with
      | some d => .ok d (st.set n (.lst xs.dropLast))
      | none => .bad)
    | _ => .bad
  | _, _ => .bad
theorem Reps.dropLast {K : PySem.W.Frag} {as : Mp} {H : Hp} {ds : List D} {vs : List V} (r : Reps K as H ds vs) : Reps K as H ds.dropLast vs.dropLast := by
  rw [List.dropLast_eq_take, List.dropLast_eq_take, r.len]
  exact r.take _
theorem mj_pop : MtJ X cl "list.pop" mPop := MtJ.of mt_pop fun E as st H x xs d ds Q w rx rs p => by
  unfold mPop at p
  split at p
  · rename_i n
    obtain ⟨a, rfl, ha⟩ := rx.refAt
    cases rs
    split at p
    · rename_i ys hn
      obtain ⟨zs, hH, rz⟩ := w.lst ha hn
      cases hd : ys[ys.length - 1]? with
      | none => rw [hd] at p; exact p.elim
      | some d =>
        rw [hd] at p
        obtain ⟨v, h1, h2⟩ := rz.get hd
        exact ⟨a, zs, v, rfl, rfl, hH, by rw [← rz.len]; exact h1, Post.ok p (Evo.wr w ha) (w.wr ha (.lst rz.dropLast)) _ (h2.evo (Evo.wr w ha))⟩
    · exact p.elim
  · exact p.elim
end
end DL

/-! DL7: rules that look at the values; what a def leaves behind is forgotten; the law's end. -/
namespace DL
open PySem PySem.Spec PyProof.Rows L2

theorem PE.or {X : Cx} {e : Expr} {t t' : TE} (h : PE X e t) (h' : PE X e t') : PE X e (fun σ H Q => t σ H Q ∨ t' σ H Q) := ⟨fun pins s σ H Q I q => q.elim (h.run pins s σ H Q I) (h'.run pins s σ H Q I)⟩
theorem PS.or {X : Cx} {e : Stmt} {t t' : TS} (h : PS X e t) (h' : PS X e t') : PS X e (fun M σ H => t M σ H ∨ t' M σ H) := ⟨fun pins s σ H M I q => q.elim (h.run pins s σ H M I) (h'.run pins s σ H M I)⟩
theorem PI.or {X : Cx} {tg e : Expr} {t t' : TI} (h : PI X tg e t) (h' : PI X tg e t') : PI X tg e (fun σ H R => t σ H R ∨ t' σ H R) := ⟨fun pins s σ H R I q => q.elim (h.run pins s σ H R I) (h'.run pins s σ H R I)⟩
section
variable {X : Cx} {cl : Cl} {W : WX} {e : Expr} {ta tb : DE}
/-- one of two rules, as the run goes -/
theorem JE.or {t t1 t2 : DE} (h1 : JE X cl W e t1) (h2 : JE X cl W e t2) (h : ∀ τ st, t τ st = t1 τ st ∨ t τ st = t2 τ st ∨ t τ st = .bad) : JE X cl W e t :=
  PE.mono (PE.or h1 h2) fun σ H Q ⟨as, st, τ, w, e, p⟩ => by
    rcases h τ st with q | q | q
    · exact .inl ⟨as, st, τ, w, e, by rw [← q]; exact p⟩
    · exact .inr ⟨as, st, τ, w, e, by rw [← q]; exact p⟩
    · rw [q] at p; exact p.elim
theorem JI.or {tg : Expr} {t t1 t2 : DI} (h1 : JI X cl W tg e t1) (h2 : JI X cl W tg e t2) (h : ∀ τ st, t τ st = t1 τ st ∨ t τ st = t2 τ st ∨ t τ st = .bad) : JI X cl W tg e t :=
  PI.mono (PI.or h1 h2) fun σ H Q ⟨as, st, τ, w, e, p⟩ => by
    rcases h τ st with q | q | q
    · exact .inl ⟨as, st, τ, w, e, by rw [← q]; exact p⟩
    · exact .inr ⟨as, st, τ, w, e, by rw [← q]; exact p⟩
    · rw [q] at p; exact p.elim
theorem JS.or {s : Stmt} {t t1 t2 : DS} (h1 : JS X cl W s t1) (h2 : JS X cl W s t2) (h : ∀ τ st, t τ st = t1 τ st ∨ t τ st = t2 τ st ∨ t τ st = .bad) : JS X cl W s t :=
  PS.mono (PS.or h1 h2) fun M σ H ⟨as, st, τ, w, e, p⟩ => by
    rcases h τ st with q | q | q
    · exact .inl ⟨as, st, τ, w, e, by rw [← q]; exact p⟩
    · exact .inr ⟨as, st, τ, w, e, by rw [← q]; exact p⟩
    · rw [q] at p; exact p.elim
end
/-- x[i], of a dict or of a row -/
def dIxA : D2 := fun x y st => if (dicOf x st).isSome = true then dGetK x y st else dIx x y st
def dInA (neg : Bool) : D2 := fun y x st => if (dicOf x st).isSome = true then dInK neg y x st else dIn neg y x st
theorem bin_or {r r1 r2 : D2} (h : ∀ x y st, r x y st = r1 x y st ∨ r x y st = r2 x y st) (ta tb : DE) (τ : En) (st : Sto) :
    dBin r ta tb τ st = dBin r1 ta tb τ st ∨ dBin r ta tb τ st = dBin r2 ta tb τ st ∨ dBin r ta tb τ st = .bad := by
  unfold dBin
  cases ta τ st with
  | bad => exact .inr (.inr rfl)
  | exc x st => exact .inl rfl
  | ok x st1 =>
    show (tb τ st1).bind _ = (tb τ st1).bind _ ∨ (tb τ st1).bind _ = (tb τ st1).bind _ ∨ (tb τ st1).bind _ = _
    cases tb τ st1 with
    | bad => exact .inr (.inr rfl)
    | exc x st => exact .inl rfl
    | ok y st2 =>
      rcases h x y st2 with q | q
      · exact .inl q
      · exact .inr (.inl q)
theorem ite_or {α : Type} {c : Prop} [Decidable c] (a b : α) : (if c then a else b) = a ∨ (if c then a else b) = b := by
  by_cases h : c
  · exact .inl (if_pos h)
  · exact .inr (if_neg h)
section
variable {X : Cx} {cl : Cl} {W : WX} {pos pos' : Pos} {a b o i value : Expr} {ta tb td ty tv : DE}
theorem j_ixA (hu : X.A.units + 1 < cLine) (ha : JE X cl W a ta) (hb : JE X cl W b tb) (hs : PlainIx b := by intro _ _; rfl) : JE X cl W (.Subscript a b pos) (dBin dIxA ta tb) :=
  JE.or (j_dget hu ha hb hs) (j_ix ha hb hs) (bin_or (fun _ _ _ => ite_or _ _) ta tb)
theorem j_inA (hu : X.A.units + 65 < cLine) (ha : JE X cl W a ta) (hb : JE X cl W b tb) (hm : behindInMarks .In b = false := by rfl) : JE X cl W (.Compare a [.In] [b] pos) (dBin (dInA false) ta tb) :=
  JE.or (j_din (by omega) ha hb hm) (j_cmp (oj_in hu) ha hb hm) (bin_or (fun _ _ _ => ite_or _ _) ta tb)
theorem j_notInA (hu : X.A.units + 65 < cLine) (ha : JE X cl W a ta) (hb : JE X cl W b tb) (hm : behindInMarks .NotIn b = false := by rfl) : JE X cl W (.Compare a [.NotIn] [b] pos) (dBin (dInA true) ta tb) :=
  JE.or (j_dnotin (by omega) ha hb hm) (j_cmp (oj_notIn hu) ha hb hm) (bin_or (fun _ _ _ => ite_or _ _) ta tb)
/-- an expression that gives a truth, as a test -/
theorem j_tst {e : Expr} {t : DE} (h : JE X cl W e t) (he : ∀ whole, isTrue e X.env whole = (do let v ← whole; standAt e.pos; holding [v] (truthy v)) := by intro _; rfl) : JT X cl W e (dTst t) := by
  refine PT.mono (pt_val h he) fun σ H Q ⟨as, st, τ, w, e, p⟩ => ⟨as, st, τ, w, e, p.tru.mono fun d st1 as1 H1 e1 w1 ⟨k, hk, p1⟩ v rv => ?_⟩
  subst hk
  cases rv
  exact ⟨k, rfl, p1⟩
/-- a comparison's value is a truth whatever it compares: as a test -/
theorem PT.or {e : Expr} {t t' : TT} (h : PT X e t) (h' : PT X e t') : PT X e (fun σ H Q => t σ H Q ∨ t' σ H Q) := ⟨fun pins s σ H Q I q => q.elim (h.run pins s σ H Q I) (h'.run pins s σ H Q I)⟩
theorem JT.or {e : Expr} {t t1 t2 : DT} (h1 : JT X cl W e t1) (h2 : JT X cl W e t2) (h : ∀ τ st, t τ st = t1 τ st ∨ t τ st = t2 τ st ∨ t τ st = .bad) : JT X cl W e t :=
  PT.mono (PT.or h1 h2) fun σ H Q ⟨as, st, τ, w, e, p⟩ => by
    rcases h τ st with q | q | q
    · exact .inl ⟨as, st, τ, w, e, by rw [← q]; exact p⟩
    · exact .inr ⟨as, st, τ, w, e, by rw [← q]; exact p⟩
    · rw [q] at p; exact p.elim
theorem lift_tst {t : DE} {σ : L2.St} {H : Hp} {Q : Bool → Hp → Prop} (h : liftT X.K cl W (dTst t) σ H Q) : lift X.K cl W t σ H fun x H1 => ∃ c, x = .bl c ∧ Q c H1 := by
  obtain ⟨as, st, τ, w, e, p⟩ := h
  refine ⟨as, st, τ, w, e, p.tru.mono fun d st1 as1 H1 e1 w1 ⟨k, hk, p1⟩ v rv => ?_⟩
  subst hk
  cases rv
  exact ⟨k, rfl, p1⟩
theorem j_tdin (hu : X.A.units + 1 < cLine) (hi : JE X cl W i ty) (ho : JE X cl W o td) (hm : behindInMarks .In o = false := by rfl) : JT X cl W (.Compare i [.In] [o] pos) (dTst (dBin (dInK false) ty td)) :=
  PT.mono (pt_cmp (pc_din hu hi ho) hm) fun _ _ _ h => lift_din0 (lift_tst h)
theorem j_tdnotin (hu : X.A.units + 1 < cLine) (hi : JE X cl W i ty) (ho : JE X cl W o td) (hm : behindInMarks .NotIn o = false := by rfl) : JT X cl W (.Compare i [.NotIn] [o] pos) (dTst (dBin (dInK true) ty td)) :=
  PT.mono (pt_cmp (pc_dnotin hu hi ho) hm) fun _ _ _ h => lift_din1 (lift_tst h)
theorem tst_or {t t1 t2 : DE} (h : ∀ τ st, t τ st = t1 τ st ∨ t τ st = t2 τ st ∨ t τ st = .bad) (τ : En) (st : Sto) : dTst t τ st = dTst t1 τ st ∨ dTst t τ st = dTst t2 τ st ∨ dTst t τ st = .bad := by
  unfold dTst
  rcases h τ st with q | q | q
  · exact .inl (by rw [q])
  · exact .inr (.inl (by rw [q]))
  · exact .inr (.inr (by rw [q]))
theorem j_tinA (hu : X.A.units + 65 < cLine) (ha : JE X cl W a ta) (hb : JE X cl W b tb) (hm : behindInMarks .In b = false := by rfl) : JT X cl W (.Compare a [.In] [b] pos) (dTst (dBin (dInA false) ta tb)) :=
  JT.or (j_tdin (by omega) ha hb hm) (j_tcmp (oj_in hu) ha hb hm) (tst_or (bin_or (fun _ _ _ => ite_or _ _) ta tb))
theorem j_tnotInA (hu : X.A.units + 65 < cLine) (ha : JE X cl W a ta) (hb : JE X cl W b tb) (hm : behindInMarks .NotIn b = false := by rfl) : JT X cl W (.Compare a [.NotIn] [b] pos) (dTst (dBin (dInA true) ta tb)) :=
  JT.or (j_tdnotin (by omega) ha hb hm) (j_tcmp (oj_notIn hu) ha hb hm) (tst_or (bin_or (fun _ _ _ => ite_or _ _) ta tb))
/-- xs[i] = v, of a list of the store -/
def sSetL (x y v : D) (τ : En) (st : Sto) : R (Fl × En) := match x, y with
  | .ref n, .int i => match st[n]? with
    | some (.lst xs) => (match ixN xs.length i with
      | some j => .ok (.nx, τ) (st.set n (.lst (xs.set j v)))
      | none => .bad)
    | _ => .bad
  | _, _ => .bad
def dSetL (td ty tv : DE) : DS := fun τ st => (tv τ st).stm τ fun v st => (td τ st).stm τ fun x st => (ty τ st).stm τ fun y st => sSetL x y v τ st
def sPutA (x y v : D) (τ : En) (st : Sto) : R (Fl × En) := if (dicOf x st).isSome = true then sPutK x y v τ st else sSetL x y v τ st
def dPutA (td ty tv : DE) : DS := fun τ st => (tv τ st).stm τ fun v st => (td τ st).stm τ fun x st => (ty τ st).stm τ fun y st => sPutA x y v τ st
theorem js_setL (ho : JE X cl W o td) (hi : JE X cl W i ty) (hv : JE X cl W value tv) (ha : ∀ v, assign (.Subscript o i pos') X.env v = (do
      let ov ← holding [v] (eval o X.env)
      let iv ← holding [v, ov] (eval i X.env)
      standAt pos'
      holding [v, ov, iv] (setItem ov iv v)
      release [v, ov, iv] []) := by intro _; rfl) (hs : swapsWithSole [.Subscript o i pos'] value pos.line X.env = pure false := by rfl) (hw : swappedStores [.Subscript o i pos'] value X.env = pure none := by rfl)
    (h1 : (assignEach [.Subscript o i pos'] X.env).map (·.2) = [assign (.Subscript o i pos') X.env] := by rfl) : JS X cl W (.Assign [.Subscript o i pos'] value pos) (dSetL td ty tv) := by
  refine PS.mono (ps_asg hv (pg_sub ho hi set_list ha) hs hw h1) fun M σ H ⟨as, st, τ, w, e, p⟩ => ⟨as, st, τ, w, e, (Post.stm e p).mono fun d st1 as1 H1 e1 w1 p1 v rv => ?_⟩
  refine ⟨as1, st1, τ, w1, e.evo e1, (Post.stm (e.evo e1) p1).mono fun d2 st2 as2 H2 e2 w2 p2 x rx => ?_⟩
  refine ⟨as2, st2, τ, w2, (e.evo e1).evo e2, (Post.stm ((e.evo e1).evo e2) p2).mono fun d3 st3 as3 H3 e3 w3 p3 y ry => ?_⟩
  have rx3 := rx.evo e3
  unfold sSetL at p3
  split at p3
  · rename_i n i
    obtain ⟨q, rfl, hq⟩ := rx3.refAt
    cases ry
    split at p3
    · rename_i xs hn
      obtain ⟨zs, hH, rz⟩ := w3.lst hq hn
      cases hj : ixN xs.length i with
      | none => rw [hj] at p3; exact p3.elim
      | some j =>
        rw [hj] at p3
        exact ⟨q, zs, i, j, rfl, rfl, hH, by rw [← rz.len]; exact hj, Post.ok p3 (Evo.wr w3 hq) (w3.wr hq (.lst (rz.set ((rv.evo e2).evo e3) j))) σ ((((e.evo e1).evo e2).evo e3).evo (Evo.wr w3 hq))⟩
    · exact p3.elim
  · exact p3.elim
theorem js_putA (hu : X.A.units + 1 < cLine) (ho : JE X cl W o td) (hi : JE X cl W i ty) (hv : JE X cl W value tv) (hs : swapsWith value (some (.Subscript o i pos')) pos.line X.env = pure false := by rfl) (ha : ∀ v, assign (.Subscript o i pos') X.env v = (do
      let ov ← holding [v] (eval o X.env)
      let iv ← holding [v, ov] (eval i X.env)
      standAt pos'
      holding [v, ov, iv] (setItem ov iv v)
      release [v, ov, iv] []) := by intro _; rfl) (hs' : swapsWithSole [.Subscript o i pos'] value pos.line X.env = pure false := by rfl) (hw : swappedStores [.Subscript o i pos'] value X.env = pure none := by rfl)
    (h1 : (assignEach [.Subscript o i pos'] X.env).map (·.2) = [assign (.Subscript o i pos') X.env] := by rfl) : JS X cl W (.Assign [.Subscript o i pos'] value pos) (dPutA td ty tv) := by
  refine JS.or (js_dput hu ho hi hv hs) (js_setL ho hi hv ha hs' hw h1) fun τ st => ?_
  unfold dPutA dPutS dSetL
  cases tv τ st with
  | bad => exact .inr (.inr rfl)
  | exc x st => exact .inl rfl
  | ok v st1 =>
    show (td τ st1).stm _ _ = (td τ st1).stm _ _ ∨ (td τ st1).stm _ _ = (td τ st1).stm _ _ ∨ (td τ st1).stm _ _ = _
    cases td τ st1 with
    | bad => exact .inr (.inr rfl)
    | exc x st => exact .inl rfl
    | ok x st2 =>
      show (ty τ st2).stm _ _ = (ty τ st2).stm _ _ ∨ (ty τ st2).stm _ _ = (ty τ st2).stm _ _ ∨ (ty τ st2).stm _ _ = _
      cases ty τ st2 with
      | bad => exact .inr (.inr rfl)
      | exc x st => exact .inl rfl
      | ok y st3 =>
        rcases ite_or (c := (dicOf x st3).isSome = true) (sPutK x y v τ st3) (sSetL x y v τ st3) with q | q
        · exact .inl q
        · exact .inr (.inl q)
/-- what a for walks: a list, a tuple, a text -/
def iAny (t : DE) : DI := fun τ st => (t τ st).bind fun d st => match d with
  | .lst ds => .ok ds st
  | .fro ds => .ok ds st
  | .tup ds => .ok ds st
  | .str x => .ok (x.cps.toList.map fun c => .str ⟨#[c]⟩) st
  | _ => .bad
theorem ji_any {tg e : Expr} {te : DE} (he : JE X cl W e te) : JI X cl W tg e (iAny te) := by
  refine JI.or (t2 := fun τ st => if (match te τ st with | .ok (.tup _) _ => true | _ => false) = true then iTupD te τ st else iStrD te τ st) (ji_seq he) (JI.or (ji_tup he) (ji_str he) fun τ st => (ite_or _ _).elim .inl fun h => .inr (.inl h)) fun τ st => ?_
  unfold iAny iSeq iTupD iStrD
  cases te τ st with
  | bad => exact .inl rfl
  | exc x st => exact .inl rfl
  | ok d st1 =>
    cases d with
    | tup ds => exact .inr (.inl rfl)
    | str x => exact .inr (.inl rfl)
    | _ => exact .inl rfl
end

/-! ### what a def has left behind -/
mutual
def D.wf (n : Nat) : D → Bool
  | .ref k => decide (k < n)
  | .tup ds => wfs n ds
  | .lst ds => wfs n ds
  | .fro ds => wfs n ds
  | .dic kvs => wfk n kvs
  | _ => true
def wfs (n : Nat) : List D → Bool
  | [] => true
  | d :: ds => d.wf n && wfs n ds
def wfk (n : Nat) : List (Key × D) → Bool
  | [] => true
  | (_, d) :: ds => d.wf n && wfk n ds
end
def wff {κ : Type} (n : Nat) : List (κ × D) → Bool
  | [] => true
  | (_, d) :: ds => d.wf n && wff n ds
def Ob.wf (n : Nat) : Ob → Bool
  | .lst ds => wfs n ds
  | .dK kvs => wff n kvs
  | .dT kvs => wff n kvs
  | .ins _ fs => wff n fs
section
variable {K : PySem.W.Frag} {cl : Cl} {as as' : Mp} {H : Hp} {n : Nat}
mutual
theorem Rep.wf : ∀ {d : D} {v : V}, Rep K as H d v → d.wf as.m.length = true
  | _, _, .non => rfl
  | _, _, .bl b => rfl
  | _, _, .int i => rfl
  | _, _, .str x => rfl
  | _, _, .tup s r => Reps.wf r
  | _, _, .lst m h r => Reps.wf r
  | _, _, .fro s r => Reps.wf r
  | _, _, .dic m h r => RepK.wf r
  | _, _, .ref h => decide_eq_true (List.getElem?_eq_some_iff.mp h).1
  | _, _, .raw v => rfl
theorem Reps.wf : ∀ {ds : List D} {vs : List V}, Reps K as H ds vs → wfs as.m.length ds = true
  | _, _, .nil => rfl
  | _, _, .cons r t => by unfold wfs; rw [Rep.wf r, Reps.wf t]; rfl
theorem RepK.wf : ∀ {ds : List (Key × D)} {vs : List (Key × V)}, RepK K as H ds vs → wfk as.m.length ds = true
  | _, _, .nil => rfl
  | _, _, .cons r t => by unfold wfk; rw [Rep.wf r, RepK.wf t]; rfl
end
theorem RepF.wf {κ : Type} : ∀ {ds : List (κ × D)} {vs : List (κ × V)}, RepF K as H ds vs → wff as.m.length ds = true
  | _, _, .nil => rfl
  | _, _, .cons r t => by unfold wff; rw [r.wf, RepF.wf t]; rfl
theorem RepO.wf : ∀ {o : Ob} {h : HO}, RepO K cl as H o h → o.wf as.m.length = true
  | _, _, .lst r => r.wf
  | _, _, .dK r => r.wf
  | _, _, .dT r => r.wf
  | _, _, .ins r => r.wf
/-- the first n of the store -/
structure CutM (as' as : Mp) (n : Nat) : Prop where
  m : as'.m = as.m.take n
  x : as'.x = as.x
theorem CutM.out (c : CutM as' as n) {a : Addr} (h : a ∉ as) : a ∉ as' := fun z => z.elim (fun z => h (.inl (by rw [c.m] at z; exact List.mem_of_mem_take z))) fun z => h (.inr (by rw [← c.x]; exact z))
theorem StT.cut (c : CutM as' as n) {a : Addr} {xs : List V} (h : StT K as H a xs) : StT K as' H a xs := h.imp (fun z => ⟨c.out z.1, z.2⟩) id
theorem StF.cut (c : CutM as' as n) {a : Addr} {xs : List V} (h : StF K as H a xs) : StF K as' H a xs := h.imp (fun z => ⟨c.out z.1, z.2⟩) id
mutual
theorem Rep.cut (c : CutM as' as n) : ∀ {d : D} {v : V}, Rep K as H d v → d.wf n = true → Rep K as' H d v
  | _, _, .non, _ => .non
  | _, _, .bl b, _ => .bl b
  | _, _, .int i, _ => .int i
  | _, _, .str x, _ => .str x
  | _, _, .tup s r, h => .tup (s.cut c) (Reps.cutW c r h)
  | _, _, .lst m q r, h => .lst (c.out m) q (Reps.cutW c r h)
  | _, _, .fro s r, h => .fro (s.cut c) (Reps.cutW c r h)
  | _, _, .dic m q r, h => .dic (c.out m) q (RepK.cut c r h)
  | _, _, .ref q, h => .ref (by rw [c.m, List.getElem?_take_of_lt (of_decide_eq_true h)]; exact q)
  | _, _, .raw v, _ => .raw v
theorem Reps.cutW (c : CutM as' as n) : ∀ {ds : List D} {vs : List V}, Reps K as H ds vs → wfs n ds = true → Reps K as' H ds vs
  | _, _, .nil, _ => .nil
  | _, _, .cons r t, h => by
    unfold wfs at h
    rw [Bool.and_eq_true_iff] at h
    exact .cons (Rep.cut c r h.1) (Reps.cutW c t h.2)
theorem RepK.cut (c : CutM as' as n) : ∀ {ds : List (Key × D)} {vs : List (Key × V)}, RepK K as H ds vs → wfk n ds = true → RepK K as' H ds vs
  | _, _, .nil, _ => .nil
  | _, _, .cons r t, h => by
    unfold wfk at h
    rw [Bool.and_eq_true_iff] at h
    exact .cons (Rep.cut c r h.1) (RepK.cut c t h.2)
end
theorem RepF.cut {κ : Type} (c : CutM as' as n) : ∀ {ds : List (κ × D)} {vs : List (κ × V)}, RepF K as H ds vs → wff n ds = true → RepF K as' H ds vs
  | _, _, .nil, _ => .nil
  | _, _, .cons r t, h => by
    unfold wff at h
    rw [Bool.and_eq_true_iff] at h
    exact .cons (r.cut c h.1) (RepF.cut c t h.2)
theorem RepO.cut (c : CutM as' as n) : ∀ {o : Ob} {h : HO}, RepO K cl as H o h → o.wf n = true → RepO K cl as' H o h
  | _, _, .lst r, h => .lst (r.cutW c h)
  | _, _, .dK r, h => .dK (r.cut c h)
  | _, _, .dT r, h => .dT (r.cut c h)
  | _, _, .ins r, h => .ins (r.cut c h)
end
/-- the result as it is handed on -/
inductive Cut (n : Nat) (st : Sto) : D → D → Prop
  | same {d : D} : d.wf n = true → Cut n st d d
  | fix {k : Nat} {ds : List D} : n ≤ k → st[k]? = some (.lst ds) → wfs n ds = true → Cut n st (.ref k) (.lst ds)
  | fixK {k : Nat} {kvs : List (Key × D)} : n ≤ k → st[k]? = some (.dK kvs) → wfk n kvs = true → Cut n st (.ref k) (.dic kvs)
/-- the store keeps what stood there, or things that lean on nothing that is forgotten -/
def Kept (st st' : Sto) : Prop := st.length ≤ st'.length ∧ ∀ (i : Nat) (o : Ob), st'[i]? = some o → st[i]? = some o ∨ o.wf st'.length = true
theorem Kept.refl (st : Sto) : Kept st st := ⟨Nat.le_refl _, fun _ _ h => .inl h⟩
section
variable {P : Program} {w : World} {K : PySem.W.Frag} {mg : Str → Option Value} {base : Heap} {cl : Cl}
theorem Wd.cut {as as1 : Mp} {st st' g : Sto} {H H1 : Hp} (k : Kept st st') (w0 : Wd K cl as st H) (e : Evo as H as1 H1) (w1 : Wd K cl as1 (st' ++ g) H1) :
    CutM ⟨as1.m.take st'.length, as1.x⟩ as1 st'.length ∧ Evo as H ⟨as1.m.take st'.length, as1.x⟩ H1 ∧ Wd K cl ⟨as1.m.take st'.length, as1.x⟩ st' H1 := by
  have c : CutM ⟨as1.m.take st'.length, as1.x⟩ as1 st'.length := ⟨rfl, rfl⟩
  have hl : as1.m.length = st'.length + g.length := by rw [w1.len, List.length_append]
  obtain ⟨bs, h1, h2⟩ := e.ext
  have h0 : as.m.length = st.length := w0.len
  have hk := k.1
  refine ⟨c, ⟨⟨bs.take (st'.length - st.length), ?_, fun b hb => h2 b (List.mem_of_mem_take hb)⟩, e.exx, e.kx, e.keep, e.live⟩, ?_, ?_, ?_, ?_, ?_⟩
  · show as1.m.take st'.length = _
    rw [h1, List.take_append, h0, List.take_of_length_le (by omega)]
  · show (as1.m.take st'.length).length = _
    rw [List.length_take]; omega
  · exact w1.nd.sublist (List.take_sublist _ _)
  · exact fun a ha => w1.sep a (List.mem_of_mem_take ha)
  · exact w1.lv
  · intro n o hn
    have hlt : n < st'.length := (List.getElem?_eq_some_iff.mp hn).1
    obtain ⟨a, u, q1, q2, q3⟩ := w1.ob n o (by rw [List.getElem?_append_left hlt]; exact hn)
    refine ⟨a, u, by show (as1.m.take st'.length)[n]? = _; rw [List.getElem?_take_of_lt hlt]; exact q1, q2, q3.cut c ?_⟩
    rcases k.2 n o hn with z | z
    · obtain ⟨b, v, r1, r2, r3⟩ := w0.ob n o z
      have := r3.wf
      have mono : ∀ {m : Nat}, m ≤ st'.length → o.wf m = true → o.wf st'.length = true := by
        intro m hm
        have D1 : ∀ d : D, d.wf m = true → d.wf st'.length = true := by
          intro d
          apply D.rec (motive_1 := fun d => d.wf m = true → d.wf st'.length = true) (motive_2 := fun ds => wfs m ds = true → wfs st'.length ds = true) (motive_3 := fun ks => wfk m ks = true → wfk st'.length ks = true) (motive_4 := fun kd => kd.2.wf m = true → kd.2.wf st'.length = true)
          case non => exact fun h => h
          case bl => exact fun b h => h
          case int => exact fun b h => h
          case str => exact fun b h => h
          case tup => exact fun ds ih h => ih h
          case lst => exact fun ds ih h => ih h
          case fro => exact fun ds ih h => ih h
          case dic => exact fun ds ih h => ih h
          case ref => exact fun k h => decide_eq_true (Nat.lt_of_lt_of_le (of_decide_eq_true h) hm)
          case raw => exact fun v h => h
          case nil => exact fun h => h
          case cons =>
            intro d ds i1 i2 h
            unfold wfs at h ⊢
            rw [Bool.and_eq_true_iff] at h ⊢
            exact ⟨i1 h.1, i2 h.2⟩
          case nil => exact fun h => h
          case cons =>
            intro d ds i1 i2 h
            obtain ⟨k, d⟩ := d
            unfold wfk at h ⊢
            rw [Bool.and_eq_true_iff] at h ⊢
            exact ⟨i1 h.1, i2 h.2⟩
          case mk => exact fun k d ih h => ih h
        have Ds : ∀ ds : List D, wfs m ds = true → wfs st'.length ds = true := by
          intro ds
          induction ds with
          | nil => exact fun h => h
          | cons d ds ih =>
            intro h
            unfold wfs at h ⊢
            rw [Bool.and_eq_true_iff] at h ⊢
            exact ⟨D1 d h.1, ih h.2⟩
        have Df : ∀ {κ : Type} (ds : List (κ × D)), wff m ds = true → wff st'.length ds = true := by
          intro κ ds
          induction ds with
          | nil => exact fun h => h
          | cons d ds ih =>
            obtain ⟨k, d⟩ := d
            intro h
            unfold wff at h ⊢
            rw [Bool.and_eq_true_iff] at h ⊢
            exact ⟨D1 d h.1, ih h.2⟩
        cases o with
        | lst ds => exact Ds ds
        | dK ds => exact Df ds
        | dT ds => exact Df ds
        | ins c fs => exact Df fs
      exact mono (by omega) this
    · exact z
theorem wfk_f {n : Nat} : ∀ {ds : List (Key × D)}, wfk n ds = true → wff n ds = true
  | [], _ => rfl
  | (_, d) :: ds, h => by
    unfold wfk at h
    unfold wff
    rw [Bool.and_eq_true_iff] at h ⊢
    exact ⟨h.1, wfk_f h.2⟩
/-- a def's promise by a plain function that forgets what was made on the way -/
theorem FnD.trim {k : Nat} {f : Addr} {fd : FuncData} {ps : List Str} {F G : DF} (h : FnD P w K mg base cl k f fd ps F)
    (hg : ∀ ds st, (∀ d st', G ds st = .ok d st' → ∃ d0 g, F ds st = .ok d0 (st' ++ g) ∧ Cut st'.length (st' ++ g) d0 d ∧ Kept st st') ∧
      (∀ x st', G ds st = .exc x st' → ∃ g, F ds st = .exc x (st' ++ g) ∧ wff st'.length x.fs = true ∧ Kept st st')) : FnD P w K mg base cl k f fd ps G :=
  FnOk.imp h fun vs H Q E ⟨as, st, ds, wd, r, p⟩ => ⟨as, st, ds, wd, r, by
    cases hG : G ds st with
    | bad => rw [hG] at p; exact p.elim
    | exc x st' =>
      rw [hG] at p
      obtain ⟨g, h1, h2, h3⟩ := (hg ds st).2 x st' hG
      rw [h1]
      intro u dx as1 H1 e1 w1 rx
      obtain ⟨c, e2, w2⟩ := Wd.cut h3 wd e1 w1
      refine p u dx _ H1 e2 w2 ?_
      obtain ⟨q1, q2⟩ := rx
      exact ⟨q1, q2.imp id fun ⟨d, fx, z1, z2, z3, z4⟩ => ⟨d, fx, z1, c.out z2, z3, z4.cut c h2⟩⟩
    | ok d st' =>
      rw [hG] at p
      obtain ⟨d0, g, h1, h2, h3⟩ := (hg ds st).1 d st' hG
      rw [h1]
      intro as1 H1 e1 w1 v rv
      obtain ⟨c, e2, w2⟩ := Wd.cut h3 wd e1 w1
      refine p _ H1 e2 w2 v ?_
      cases h2 with
      | same hw => exact rv.cut c hw
      | fix hk hs hw =>
        obtain ⟨a, rfl, ha⟩ := rv.refAt
        obtain ⟨xs, hH, rs⟩ := w1.lst ha hs
        refine .lst (fun z => ?_) hH (rs.cutW c hw)
        rcases z with z | z
        · obtain ⟨i, hi, e⟩ := List.getElem_of_mem z
          have hi' : i < st'.length := by
            have := hi
            simp only [List.length_take] at this
            omega
          have ei : as1.m[i]? = some a := by
            rw [← e]
            simp only [List.getElem_take]
            rw [List.getElem?_eq_getElem]
          have := nd_ix w1.nd ei ha
          omega
        · exact w1.sep a (List.mem_of_getElem? ha) z
      | fixK hk hs hw =>
        obtain ⟨a, rfl, ha⟩ := rv.refAt
        obtain ⟨xs, hH, rs⟩ := w1.dK ha hs
        refine .dic (fun z => ?_) hH ((rs.cut c (wfk_f hw)).k)
        rcases z with z | z
        · obtain ⟨i, hi, e⟩ := List.getElem_of_mem z
          have hi' : i < st'.length := by
            have := hi
            simp only [List.length_take] at this
            omega
          have ei : as1.m[i]? = some a := by
            rw [← e]
            simp only [List.getElem_take]
            rw [List.getElem?_eq_getElem]
          have := nd_ix w1.nd ei ha
          omega
        · exact w1.sep a (List.mem_of_getElem? ha) z⟩
end

/-! ### the law's end -/
/-- the law hands back True -/
def LawOk (F : DF) : Prop := ∀ ns : List Int, ns.length ≤ 63 → (∀ z ∈ ns, Builtin.Int.intBits z ≤ 1048576) → ∃ st, F [.fro (ns.map .int)] [] = .ok (.bl true) st
theorem reps_ints {K : PySem.W.Frag} {as : Mp} {H : Hp} : ∀ ns : List Int, Reps K as H (ns.map D.int) (ns.map V.int)
  | [] => .nil
  | n :: ns => .cons (.int n) (reps_ints ns)
theorem walk_dl {l : PySem.W.OpenLaw} {k : Nat} {q : Program} {loose : List Str} {XP : (Str → Option Value) → Heap → Prop} {YP : World → Heap → Prop} {d : DefRec} {K : Params → PySem.W.Frag} {x : Str} {F : DF}
    (hn : l.most = some 63) (hdf : d.params.defaults = []) (hr : Room k callerA) (hY : ∀ (w : World) (h : Heap), YP w h → (K w.params).In h)
    (hF : ∀ (w : World) (mg : Str → Option Value) (fa : Addr) (h : Heap), (K w.params).In h → h.Ns mainGlobals mg → mg d.name = some (.ref fa) →
      ∃ (fd : FuncData) (cl : Cl), (∀ (s : Shared) (u : Value), BindsTo s fd ⟨[u], []⟩ [(x, u)]) ∧
        ∀ base : Heap, (K w.params).In base → base.Ns mainGlobals mg → FnD l.prog w (K w.params) mg base cl k fa fd [x] F)
    (hl : LawOk F) : PySem.W.WalkO q loose XP YP l.row.toRowW d [] (fun f vs => PySem.call f vs) := by
  refine L2.walk_ofB (n := 63) (k := k) (x := x) (CX := fun w => L2.CX l.prog w) (sp := fun w => fun vs H Q E => ∃ (a : Addr) (ns : List Int), vs = [.ref a] ∧ ns.length ≤ 63 ∧ (∀ z ∈ ns, Builtin.Int.intBits z ≤ 1048576) ∧ Only H ∧ SqL (K w.params) H a (ns.map V.int) ∧ ∀ H', Q (.bl true) H') hn (by decide) hdf hr hY
    (fun w mg fa h KX G hm => ?_) (fun w H a ns h1 h2 h3 h4 => ⟨a, ns, rfl, h1, h2, h3, h4, fun _ => rfl⟩) fun w H s e s' hc => by
      obtain ⟨_, _, _, _, _, _, _, _, _, _, _, _, z⟩ := hc
      exact z.elim
  obtain ⟨fd, cl, hb, G2⟩ := hF w mg fa h KX G hm
  refine ⟨fd, hb, fun base hB hN => FnOk.imp (G2 base hB hN) fun vs H Q E hv => ?_⟩
  obtain ⟨a, ns, rfl, h1, h2, h3, h4, q⟩ := hv
  obtain ⟨st, hst⟩ := hl ns h1 h2
  refine ⟨⟨[], []⟩, [], [.fro (ns.map .int)], ⟨rfl, List.nodup_nil, (fun a z => by cases z), (fun a z => by cases z), fun n o z => by simp at z⟩, .cons (.fro ?_ (reps_ints ns)) .nil, ?_⟩
  · rcases h4 with (z | ⟨o, z⟩) | z
    · rcases h3 a with y | ⟨o, xs, y⟩
      · rw [y] at z; cases z
      · rw [y] at z; cases z
    · exact .inl ⟨(fun y => by rcases y with y | y <;> (simp at y)), o, z⟩
    · exact .inr z
  · rw [hst]
    intro as' H' _ _ v rv
    cases rv
    exact q H'
end DL

/-! DL8: contexts, names of built-ins, zip and enumerate, what a printed proof leans on. -/
namespace DL
open PySem PySem.Spec PyProof.Rows L2

/-! ### contexts -/
section
variable {P : Program} {w : World} {K : PySem.W.Frag} {mg : Str → Option Value} {base : Heap} {N : List Str} {qual : Str} {sc : Scope} {f : Addr} {cdv : Value} {A : Around} {outer : List Env} {s : Shared} {H : Hp} {E : XK}
theorem pass_def : ∀ σ, PassesAt (L2.CX P w) (cxOf (L2.CX P w) P w K mg base N qual sc f cdv A outer s H E) σ (WE (Wk E) σ) := fun σ => passAt (X := cxOf (L2.CX P w) P w K mg base N qual sc f cdv A outer s H E) (takes_of rfl rfl rfl rfl) σ
theorem cx_def : CxOk (cxOf (L2.CX P w) P w K mg base N qual sc f cdv A outer s H E) (Wk E) := ⟨rfl, pass_def, passes_of rfl⟩
end
section
variable {X : Cx} {s : Shared} {H : Hp} {scope : Scope} {cenv : Env} {fp : List Addr}
theorem pass_blk : ∀ σ, PassesAt (L2.CX X.prog X.w) (X.blk s H scope cenv fp) σ (WE W0 σ) := fun σ _ _ _ _ _ _ h => by
  obtain ⟨_, _, _, _, _, _, _, _, _, _, _, _, z⟩ := h
  exact z.elim
theorem cx_blk (h : X.calm = true) : CxOk (X.blk s H scope cenv fp) W0 := ⟨h, pass_blk, PassesOwn.never⟩
end
theorem Room.u65 {k : Nat} {A : Around} (h : Room k A) : A.units + 65 < cLine := by have := h.un; omega
theorem Room.u64 {k : Nat} {A : Around} (h : Room k A) : A.units + 64 < cLine := by have := h.un; omega
theorem Room.u1 {k : Nat} {A : Around} (h : Room k A) : A.units + 1 < cLine := by have := h.un; omega

/-! ### names -/
theorem bb_len : bootBuiltins "len" = some (.builtin "len") := by decide +kernel
theorem bb_abs : bootBuiltins "abs" = some (.builtin "abs") := by decide +kernel
theorem bb_min : bootBuiltins "min" = some (.builtin "min") := by decide +kernel
theorem bb_max : bootBuiltins "max" = some (.builtin "max") := by decide +kernel
theorem bb_sum : bootBuiltins "sum" = some (.builtin "sum") := by decide +kernel
theorem bb_any : bootBuiltins "any" = some (.builtin "any") := by decide +kernel
theorem bb_all : bootBuiltins "all" = some (.builtin "all") := by decide +kernel
theorem bb_sorted : bootBuiltins "sorted" = some (.builtin "sorted") := by decide +kernel
theorem bb_isinstance : bootBuiltins "isinstance" = some (.builtin "isinstance") := by decide +kernel
theorem bb_int : bootBuiltins "int" = some (.type "int") := by decide +kernel
theorem bb_bool : bootBuiltins "bool" = some (.type "bool") := by decide +kernel
theorem bb_str : bootBuiltins "str" = some (.type "str") := by decide +kernel
theorem bb_tuple : bootBuiltins "tuple" = some (.type "tuple") := by decide +kernel
theorem bb_list : bootBuiltins "list" = some (.type "list") := by decide +kernel
theorem bb_dict : bootBuiltins "dict" = some (.type "dict") := by decide +kernel
theorem bb_set : bootBuiltins "set" = some (.type "set") := by decide +kernel
/-- a def of the text, as callers see it -/
structure DefAt (K : PySem.W.Frag) (mg : Str → Option Value) (x : Str) (f : Addr) (fd : FuncData) (ps : List Str) : Prop where
  mgf : mg x = some (.ref f)
  kp : PySem.W.keepIn K (.ref f) = true
  bi : Binds K fd ps []
section
variable {X : Cx} {cl : Cl} {W : WX}
/-- a built-in type as a value -/
theorem j_ty {x : Str} {pos : Pos} {T : String} (hg : Gl X x) (hm : X.mg x = none) (hv : bootBuiltins x = some (.type T)) (hn : x ≠ "__name__" := by decide) (hd : (x == ("__debug__" : Str)) = false := by decide) : JE X cl W (.Name x pos) (dC (.raw (.ty T))) :=
  j_c (pe_bltn (v := .ty T) hg hm hv rfl hn hd) fun _ _ => .raw _
/-- a name of the module that holds a thing written there -/
structure ConstAt (K : PySem.W.Frag) (mg : Str → Option Value) (x : Str) (d : D) : Prop where
  ex : ∃ (u : Value) (v : V), mg x = some u ∧ RelV v u ∧ ∀ as H, Rep K as H d v
theorem j_const {x : Str} {pos : Pos} {d : D} (hg : Gl X x) (c : ConstAt X.K X.mg x d) (hd : (x == ("__debug__" : Str)) = false := by decide) : JE X cl W (.Name x pos) (dC d) := by
  obtain ⟨u, v, h1, h2, h3⟩ := c.ex
  exact j_c (pe_glob hg h1 h2 hd) h3
theorem ConstAt.int {K : PySem.W.Frag} {mg : Str → Option Value} {x : Str} {i : Int} {t : Tok} (h : mg x = some (.int i t)) : ConstAt K mg x (.int i) := ⟨_, .int i, h, ⟨t, rfl⟩, fun _ _ => .int i⟩
theorem ConstAt.str {K : PySem.W.Frag} {mg : Str → Option Value} {x : Str} {i : Str} {t : Tok} (h : mg x = some (.str i t)) : ConstAt K mg x (.str i) := ⟨_, .str i, h, ⟨t, rfl⟩, fun _ _ => .str i⟩
end
mutual
/-- how a thing of the text lies in its written part -/
inductive KRep (K : PySem.W.Frag) : D → Value → Prop
  | non : KRep K .non .none
  | bl (b : Bool) : KRep K (.bl b) (.bool b)
  | int (i : Int) (t : Tok) : KRep K (.int i) (.int i t)
  | str (x : Str) (t : Tok) : KRep K (.str x) (.str x t)
  | tup {a : Addr} {ds : List D} {o : Obj} {its : List Value} {n : Nat} : K.lookup a = some o → o.cls = .type "tuple" → o.data = .seq its.toArray n → its.length ≤ sizeLine → KReps K ds its → KRep K (.tup ds) (.ref a)
inductive KReps (K : PySem.W.Frag) : List D → List Value → Prop
  | nil : KReps K [] []
  | cons {d : D} {u : Value} {ds : List D} {us : List Value} : KRep K d u → KReps K ds us → KReps K (d :: ds) (u :: us)
end
mutual
theorem KRep.go {K : PySem.W.Frag} : ∀ {d : D} {u : Value}, KRep K d u → ∃ v, RelV v u ∧ ∀ as H, Rep K as H d v
  | _, _, .non => ⟨.non, rfl, fun _ _ => .non⟩
  | _, _, .bl b => ⟨.bl b, rfl, fun _ _ => .bl b⟩
  | _, _, .int i t => ⟨.int i, ⟨t, rfl⟩, fun _ _ => .int i⟩
  | _, _, .str x t => ⟨.str x, ⟨t, rfl⟩, fun _ _ => .str x⟩
  | _, _, .tup (a := a) (its := its) h1 h2 h3 h4 h5 => by
    obtain ⟨xs, r, hr⟩ := KReps.go h5
    exact ⟨.ref a, rfl, fun as H => .tup (.inr ⟨_, its.toArray, _, h1, h2, h3, by simpa using h4, by simpa using r⟩) (hr as H)⟩
theorem KReps.go {K : PySem.W.Frag} : ∀ {ds : List D} {us : List Value}, KReps K ds us → ∃ xs, Vals xs us ∧ ∀ as H, Reps K as H ds xs
  | _, _, .nil => ⟨[], .nil, fun _ _ => .nil⟩
  | _, _, .cons h t => by
    obtain ⟨v, r, q⟩ := KRep.go h
    obtain ⟨vs, rs, qs⟩ := KReps.go t
    exact ⟨v :: vs, .cons r rs, fun as H => .cons (q as H) (qs as H)⟩
end
theorem ConstAt.of {K : PySem.W.Frag} {mg : Str → Option Value} {x : Str} {d : D} {u : Value} (h : mg x = some u) (r : KRep K d u) : ConstAt K mg x d :=
  let ⟨v, h1, h2⟩ := r.go
  ⟨u, v, h, h1, h2⟩
section
variable {X : Cx} {cl : Cl} {W : WX}
/-! ### zip, enumerate -/
def zipD : List D → List D → List D
  | x :: xs, y :: ys => .tup [x, y] :: zipD xs ys
  | _, _ => []
def iZipD (t : DA) : DI := fun τ st => (t τ st).bind fun ds st => match ds with
  | [.tup xs, .tup ys] => .ok (zipD xs ys) st
  | [.lst xs, .lst ys] => .ok (zipD xs ys) st
  | _ => .bad
theorem zipD_get : ∀ {xs ys : List D} {i : Nat}, (∃ x y, xs[i]? = some x ∧ ys[i]? = some y ∧ (zipD xs ys)[i]? = some (.tup [x, y])) ∨ ((xs.length ≤ i ∨ ys.length ≤ i) ∧ (zipD xs ys).length ≤ i)
  | [], ys, i => .inr ⟨.inl (Nat.zero_le _), by cases ys <;> exact Nat.zero_le _⟩
  | _ :: _, [], i => .inr ⟨.inr (Nat.zero_le _), Nat.zero_le _⟩
  | x :: xs, y :: ys, 0 => .inl ⟨x, y, rfl, rfl, rfl⟩
  | x :: xs, y :: ys, i + 1 => (zipD_get (xs := xs) (ys := ys) (i := i)).imp (fun ⟨a, b, h1, h2, h3⟩ => ⟨a, b, by simpa using h1, by simpa using h2, by simpa [zipD] using h3⟩) fun ⟨h1, h2⟩ => ⟨h1.imp (by simp) (by simp), by simpa [zipD] using h2⟩
theorem walk_zipT {K : PySem.W.Frag} {as : Mp} {H : Hp} {a b : Addr} {xs ys : List V} {ds es : List D} (ha : ∀ as' H', Mv as H as' H' → SqT K H' a xs) (hb : ∀ as' H', Mv as H as' H' → SqT K H' b ys) (ra : Reps K as H ds xs) (rb : Reps K as H es ys) :
    Walk K cl as H (RZ.ItzT K a b) (zipD ds es) where
  go := fun i as' H' e hi => by
    rcases zipD_get (xs := ds) (ys := es) (i := i) with ⟨x, y, h1, h2, h3⟩ | ⟨h1, h2⟩
    · obtain ⟨v, q1, _⟩ := ra.get h1
      obtain ⟨u, q2, _⟩ := rb.get h2
      exact ⟨xs, ys, v, u, ha _ _ e, hb _ _ e, q1, q2⟩
    · omega
  yld := fun i as' st' H' x H'' hi e w y => by
    obtain ⟨T, v, u, rfl, hT, rfl, h1, h2⟩ := y
    have q1 := h1 xs (ha _ _ e)
    have q2 := h2 ys (hb _ _ e)
    rcases zipD_get (xs := ds) (ys := es) (i := i) with ⟨dx, dy, z1, z2, z3⟩ | ⟨z1, z2⟩
    · obtain ⟨v', q3, r1⟩ := ra.get z1
      obtain ⟨u', q4, r2⟩ := rb.get z2
      rw [q1] at q3; rw [q2] at q4
      cases q3; cases q4
      exact ⟨_, z3, .inr ⟨T, _, hT, rfl⟩, Rep.newT w hT (.cons (r1.mv e) (.cons (r2.mv e) .nil))⟩
    · omega
  stop := fun i as' H' e hi => by
    rcases zipD_get (xs := ds) (ys := es) (i := i) with ⟨dx, dy, z1, z2, z3⟩ | ⟨z1, z2⟩
    · rw [List.getElem?_eq_none hi] at z3; cases z3
    · exact ⟨xs, ys, ha _ _ e, hb _ _ e, z1.imp (by rw [ra.len]; exact id) (by rw [rb.len]; exact id)⟩
theorem walk_zipL {K : PySem.W.Frag} {as : Mp} {H : Hp} {a b : Addr} {xs ys : List V} {ds es : List D} (ha : ∀ as' H', Mv as H as' H' → SqL K H' a xs) (hb : ∀ as' H', Mv as H as' H' → SqL K H' b ys) (ra : Reps K as H ds xs) (rb : Reps K as H es ys) :
    Walk K cl as H (Itz K a b) (zipD ds es) where
  go := fun i as' H' e hi => by
    rcases zipD_get (xs := ds) (ys := es) (i := i) with ⟨x, y, h1, h2, h3⟩ | ⟨h1, h2⟩
    · obtain ⟨v, q1, _⟩ := ra.get h1
      obtain ⟨u, q2, _⟩ := rb.get h2
      exact ⟨xs, ys, v, u, ha _ _ e, hb _ _ e, q1, q2⟩
    · omega
  yld := fun i as' st' H' x H'' hi e w y => by
    obtain ⟨T, v, u, rfl, hT, rfl, h1, h2⟩ := y
    have q1 := h1 xs (ha _ _ e)
    have q2 := h2 ys (hb _ _ e)
    rcases zipD_get (xs := ds) (ys := es) (i := i) with ⟨dx, dy, z1, z2, z3⟩ | ⟨z1, z2⟩
    · obtain ⟨v', q3, r1⟩ := ra.get z1
      obtain ⟨u', q4, r2⟩ := rb.get z2
      rw [q1] at q3; rw [q2] at q4
      cases q3; cases q4
      exact ⟨_, z3, .inr ⟨T, _, hT, rfl⟩, Rep.newT w hT (.cons (r1.mv e) (.cons (r2.mv e) .nil))⟩
    · omega
  stop := fun i as' H' e hi => by
    rcases zipD_get (xs := ds) (ys := es) (i := i) with ⟨dx, dy, z1, z2, z3⟩ | ⟨z1, z2⟩
    · rw [List.getElem?_eq_none hi] at z3; cases z3
    · exact ⟨xs, ys, ha _ _ e, hb _ _ e, z1.imp (by rw [ra.len]; exact id) (by rw [rb.len]; exact id)⟩
theorem ji_zip {e e2 : Expr} {t : DA} {p pos tpos : Pos} {elts : List Expr} {kk : Nat} (hg : Gl X "zip") (hm : X.mg "zip" = none) (ha : JA X cl W [e, e2] t)
    (hs : starEach [e, e2] X.env = (false, eval e X.env) :: starEach [e2] X.env := by rfl) (hpl : (backTo pos (starEach [e2] X.env)).any (·.1) = false := by rfl) :
    JI X cl W (.Tuple elts kk tpos) (.Call (.Name "zip" p) [e, e2] [] pos) (iZipD t) := by
  refine PI.mono (RZ.pi_zipA hg hm ha hs hpl) fun σ H Q ⟨as, st, τ, w, e, p⟩ => ⟨as, st, τ, w, e, p.bind.mono fun ds st1 as1 H1 e1 w1 p1 vs rv => ?_⟩
  split at p1
  · obtain ⟨v, u, rfl, r1, r2⟩ := rv.two
    cases r1 with
    | tup s1 r1 =>
      cases r2 with
      | tup s2 r2 => exact ⟨_, _, _, _, rfl, .inr ⟨s1.t, s2.t, p1.here w1 _ (walk_zipT (fun as' H' f => (s1.mv f).t) (fun as' H' f => (s2.mv f).t) r1 r2)⟩⟩
  · obtain ⟨v, u, rfl, r1, r2⟩ := rv.two
    cases r1 with
    | lst n1 h1 r1 =>
      cases r2 with
      | lst n2 h2 r2 => exact ⟨_, _, _, _, rfl, .inl ⟨.of h1, .of h2, p1.here w1 _ (walk_zipL (fun as' H' f => .of (f.k _ _ h1 n1).2) (fun as' H' f => .of (f.k _ _ h2 n2).2) r1 r2)⟩⟩
  · exact p1.elim
end

/-! ### x op= e -/
def dAug (i : Nat) (te : DE) (r : D2) : DS := fun τ st => match τ[i]? with
  | some (some x) => (te τ st).stm τ fun y st => (r x y st).stm τ fun z st => .ok (.nx, τ.set i (some z)) st
  | _ => .bad
section
variable {X : Cx} {cl : Cl} {W : WX}
theorem js_aug {i : Nat} {x : Str} {e : Expr} {te : DE} {op : Operator} {r : D2} {pos pos' : Pos} (hN : X.N.Nodup) (hi : X.N[i]? = some x) (hx : Loc X.env.scope x) (he : JE X cl W e te) (ho : OpJ X cl (inplaceOp op) r)
    (hf : X.fn x = true ∨ X.env.scope.names.lookup x = some .local := by first | exact .inl rfl | exact .inr rfl | assumption) : JS X cl W (.AugAssign (.Name x pos') op e pos) (dAug i te r) := by
  have ho' : ∀ E, PIp X op (liftR X.K cl E r) := fun E pins s σ H x y v u Q I r1 r2 q => ho E pins s σ H x y v u Q I r1 r2 q
  refine ⟨fun pins s σ H M I ⟨as, st, τ, w, e, p⟩ => (ps_aug (pos := pos) (pos' := pos') hN hi hx he (ho' (WE W σ)) hf).run pins s σ H M I ?_⟩
  unfold dAug at p
  split at p
  · rename_i d hd
    obtain ⟨v, h1, h2⟩ := e.get i d hd
    refine ⟨v, h1, as, st, τ, w, e, (Post.stm e p).mono fun d2 st2 as2 H2 e2 w2 p2 y ry => ?_⟩
    refine ⟨as2, st2, d, d2, w2, h2.evo e2, ry, (Post.stm (e.evo e2) p2).mono fun d3 st3 as3 H3 e3 w3 p3 z rz => ?_⟩
    exact p3.here w3 _ (((e.evo e2).evo e3).set i rz)
  · exact p.elim
def dAddI : D2 := fun x y st => match x, y with
  | .int i, .int j => .ok (.int (i + j)) st
  | .str a, .str b => if a.length + b.length ≤ sizeLine then .ok (.str (a ++ b)) st else .bad
  | _, _ => .bad
theorem oi_add : OpJ X cl (inplaceOp .Add) dAddI := OpJ.of (OpR.or (X := X) iop_add iop_add_str) fun E as st H x y dx dy Q w rx ry p => by
  unfold dAddI at p
  split at p
  · cases rx; cases ry
    exact .inl ⟨_, _, rfl, rfl, p.val w (.int _)⟩
  · cases rx; cases ry
    split at p
    · rename_i hl
      exact .inr ⟨_, _, rfl, rfl, hl, p.val w (.str _)⟩
    · exact p.elim
  · exact p.elim
theorem iop_subC : OpR X (inplaceOp .Sub) (rI (fun _ _ => True) fun i j => .int (i - j)) := OpR.mono iop_sub fun _ _ _ _ ⟨i, j, h1, h2, _, q⟩ => ⟨i, j, h1, h2, q⟩
theorem oi_sub : OpJ X cl (inplaceOp .Sub) dSub := oj_I iop_subC fun _ _ _ => trivial
end
/-- an empty dict of the store -/
def dDispE : DE := fun _ st => .ok (.ref st.length) (st ++ [.dK []])
theorem j_dispE {X : Cx} {cl : Cl} {W : WX} {pos : Pos} : JE X cl W (.Dict [] [] pos) dDispE := PE.mono pe_dnewK fun σ H Q ⟨as, st, τ, w, e, p⟩ a ha => p _ _ (Evo.push w ha) (w.push ha (.dK .nil)) _ (Rep.newRef w)
end DL

/-! DL9: a def's run without what it left behind; rows for reckoning. -/
namespace DL
open PySem PySem.Spec PyProof.Rows L2

open Classical in
/-- a def's run, what was made on the way forgotten -/
noncomputable def trimF (F : DF) : DF := fun ds st => match F ds st with
  | .ok d st1 => if Kept st (st1.take st.length) then (match d with
    | .ref k => if k < st.length then .ok (.ref k) (st1.take st.length) else (match st1[k]? with
      | some (.lst row) => if wfs st.length row = true then .ok (.lst row) (st1.take st.length) else .bad
      | some (.dK kvs) => if wfk st.length kvs = true then .ok (.dic kvs) (st1.take st.length) else .bad
      | _ => .bad)
    | d => if d.wf st.length = true then .ok d (st1.take st.length) else .bad) else .bad
  | .exc x st1 => if Kept st (st1.take st.length) ∧ wff st.length x.fs = true then .exc x (st1.take st.length) else .bad
  | .bad => .bad
section
variable {P : Program} {w : World} {K : PySem.W.Frag} {mg : Str → Option Value} {base : Heap} {cl : Cl}
theorem FnD.auto {k : Nat} {f : Addr} {fd : FuncData} {ps : List Str} {F : DF} (h : FnD P w K mg base cl k f fd ps F) : FnD P w K mg base cl k f fd ps (trimF F) := by
  refine h.trim fun ds st => ⟨fun d st' hd => ?_, fun x st' hd => ?_⟩
  · unfold trimF at hd
    cases hF : F ds st with
    | bad => rw [hF] at hd; cases hd
    | exc x st1 =>
      rw [hF] at hd
      dsimp only at hd
      split at hd <;> cases hd
    | ok d0 st1 =>
      rw [hF] at hd
      dsimp only at hd
      split at hd
      · rename_i hk
        have hl : (st1.take st.length).length = st.length := by
          have := hk.1
          rw [List.length_take] at this ⊢
          omega
        have fin : ∀ d', Cut st.length st1 d0 d' → (R.ok d' (st1.take st.length) : R D) = R.ok d st' → ∃ d0' g, (R.ok d0 st1 : R D) = R.ok d0' (st' ++ g) ∧ Cut st'.length (st' ++ g) d0' d ∧ Kept st st' := by
          intro d' hc he
          cases he
          refine ⟨d0, st1.drop st.length, by rw [List.take_append_drop], ?_, hk⟩
          rw [hl, List.take_append_drop]
          exact hc
        split at hd
        · rename_i k
          split at hd
          · rename_i hlt
            exact fin _ (.same (decide_eq_true hlt)) hd
          · rename_i hlt
            split at hd
            · rename_i row hr
              split at hd
              · rename_i hw; exact fin _ (.fix (by omega) hr hw) hd
              · cases hd
            · rename_i row hr
              split at hd
              · rename_i hw; exact fin _ (.fixK (by omega) hr hw) hd
              · cases hd
            · cases hd
        · split at hd
          · rename_i hw; exact fin _ (.same hw) hd
          · cases hd
      · cases hd
  · unfold trimF at hd
    cases hF : F ds st with
    | bad => rw [hF] at hd; cases hd
    | ok d0 st1 =>
      rw [hF] at hd
      dsimp only at hd
      split at hd
      · split at hd
        · split at hd
          · cases hd
          · split at hd
            · split at hd <;> cases hd
            · split at hd <;> cases hd
            · cases hd
        · split at hd <;> cases hd
      · cases hd
    | exc x0 st1 =>
      rw [hF] at hd
      dsimp only at hd
      split at hd
      · rename_i hk
        cases hd
        have hl : (st1.take st.length).length = st.length := by
          have := hk.1.1
          rw [List.length_take] at this ⊢
          omega
        exact ⟨st1.drop st.length, by rw [List.take_append_drop], by rw [hl]; exact hk.2, hk.1⟩
      · cases hd
end
theorem trim_lst {F : DF} {ds : List D} {st st' g : Sto} {k : Nat} {row : List D} (h : F ds st = .ok (.ref k) (st' ++ g)) (hl : st'.length = st.length) (hk : Kept st st') (h1 : st.length ≤ k) (h2 : (st' ++ g)[k]? = some (.lst row)) (h3 : wfs st.length row = true) :
    trimF F ds st = .ok (.lst row) st' := by
  unfold trimF
  rw [h]
  have e : (st' ++ g).take st.length = st' := by rw [← hl, List.take_left']; rfl
  simp only [e, hk, if_true, Nat.not_lt.mpr h1, if_false, h2, h3]
theorem trim_val {F : DF} {ds : List D} {st st' g : Sto} {d : D} (h : F ds st = .ok d (st' ++ g)) (hl : st'.length = st.length) (hk : Kept st st') (h3 : d.wf st.length = true) :
    trimF F ds st = .ok d st' := by
  unfold trimF
  rw [h]
  have e : (st' ++ g).take st.length = st' := by rw [← hl, List.take_left']; rfl
  cases d with
  | ref k =>
    have : k < st.length := of_decide_eq_true h3
    simp only [e, hk, if_true, this]
  | _ => simp only [e, hk, if_true, h3]
theorem trim_exc {F : DF} {ds : List D} {st st' g : Sto} {x : Exn} (h : F ds st = .exc x (st' ++ g)) (hl : st'.length = st.length) (hk : Kept st st') (h3 : wff st.length x.fs = true) :
    trimF F ds st = .exc x st' := by
  unfold trimF
  rw [h]
  have e : (st' ++ g).take st.length = st' := by rw [← hl, List.take_left']; rfl
  simp only [e, hk, h3, and_self, if_true]

/-! ### reckoning -/
theorem log2_small {a : Int} (h : a.natAbs < 2 ^ 64) : a.natAbs.log2 < 64 := by
  by_cases e : a.natAbs = 0
  · rw [e]; decide
  · exact (Nat.log2_lt e).mpr h
theorem mul_ok {a b : Int} (h1 : a.natAbs < 2 ^ 64) (h2 : b.natAbs < 2 ^ 64) : decide (a.natAbs.log2 + b.natAbs.log2 < 1000000) = true := by
  have := log2_small h1
  have := log2_small h2
  exact decide_eq_true (by omega)
theorem ofStr_inj {a b : String} : (Str.ofString a = Str.ofString b) = (a = b) := by
  refine propext ⟨fun h => ?_, fun h => by rw [h]⟩
  rw [Str.ofString_eq_toList, Str.ofString_eq_toList] at h
  skip
  have h1 := congrArg (fun s : Str => s.cps.toList) h
  simp only at h1
  have h2 : a.toList = b.toList := by
    have inj : ∀ (l m : List Char), l.map Char.toNat = m.map Char.toNat → l = m := by
      intro l
      induction l with
      | nil => intro m h; cases m <;> simp at h ⊢
      | cons c l ih =>
        intro m h
        cases m with
        | nil => simp at h
        | cons d m =>
          simp only [List.map_cons, List.cons.injEq] at h
          rw [ih m h.2, Char.ext (UInt32.toNat_inj.mp h.1)]
    exact inj _ _ h1
  exact String.toList_inj.mp h2
theorem ofStr_beq {a b : String} : (Str.ofString a == Str.ofString b) = (a == b) := by
  by_cases h : a = b
  · subst h; simp
  · have h' : ¬ (Str.ofString a = Str.ofString b) := by rw [ofStr_inj]; exact h
    rw [beq_eq_false_iff_ne.mpr h, beq_eq_false_iff_ne.mpr h']
theorem mul_lt {a b : Int} (h1 : a.natAbs < 2 ^ 64) (h2 : b.natAbs < 2 ^ 64) : a.natAbs.log2 + b.natAbs.log2 < 1000000 := by
  have := log2_small h1
  have := log2_small h2
  omega
theorem atI_map {ns : List Int} {k : Nat} (h : k < ns.length) : atI (ns.map D.int) (k : Int) = some (.int (ns.getD k 0)) := by
  refine atI_nat ?_
  rw [List.getElem?_map, List.getElem?_eq_getElem h]
  simp [h]
/-! ### loops by an invariant -/
theorem forN_inv {j : Nat} {body : DS} {ds : List D} (P : Nat → En → Sto → Prop) {τ : En} {st : Sto} (h0 : P 0 τ st)
    (hs : ∀ i d τ st, ds[i]? = some d → P i τ st → ∃ fl τ2 st2, body (τ.set j (some d)) st = .ok (fl, τ2) st2 ∧ (fl = .nx ∨ fl = .ct) ∧ P (i + 1) τ2 st2) :
    ∃ τ' st', forL (gN j) body ds τ st = .ok (.nx, τ') st' ∧ P ds.length τ' st' := by
  induction ds generalizing P τ st with
  | nil => exact ⟨τ, st, rfl, h0⟩
  | cons d ds ih =>
    obtain ⟨fl, τ2, st2, h1, h2, h3⟩ := hs 0 d τ st rfl h0
    obtain ⟨τ', st', h4, h5⟩ := ih (fun i => P (i + 1)) h3 fun i d τ st hd hp => hs (i + 1) d τ st (by simpa using hd) hp
    refine ⟨τ', st', ?_, h5⟩
    show (body (τ.set j (some d)) st).turn _ = _
    rw [h1]
    rcases h2 with h2 | h2 <;> (subst h2; exact h4)
theorem forG_inv {g : DG} {body : DS} {ds : List D} (P : Nat → En → Sto → Prop) {τ : En} {st : Sto} (h0 : P 0 τ st)
    (hs : ∀ i d τ st, ds[i]? = some d → P i τ st → ∃ τ1 st1 fl τ2 st2, g d τ st = .ok τ1 st1 ∧ body τ1 st1 = .ok (fl, τ2) st2 ∧ (fl = .nx ∨ fl = .ct) ∧ P (i + 1) τ2 st2) :
    ∃ τ' st', forL g body ds τ st = .ok (.nx, τ') st' ∧ P ds.length τ' st' := by
  induction ds generalizing P τ st with
  | nil => exact ⟨τ, st, rfl, h0⟩
  | cons d ds ih =>
    obtain ⟨τ1, st1, fl, τ2, st2, h1, h1', h2, h3⟩ := hs 0 d τ st rfl h0
    obtain ⟨τ', st', h4, h5⟩ := ih (fun i => P (i + 1)) h3 fun i d τ st hd hp => hs (i + 1) d τ st (by simpa using hd) hp
    refine ⟨τ', st', ?_, h5⟩
    show (g d τ st).stm τ _ = _
    rw [h1]
    show (body τ1 st1).turn _ = _
    rw [h1']
    rcases h2 with h2 | h2 <;> (subst h2; exact h4)
/-- a loop that may end early: by what its turns give -/
theorem forN_ret {j : Nat} {body : DS} {ds : List D} (P : Nat → En → Sto → Prop) (Z : Fl → Sto → Prop) {τ : En} {st : Sto} (h0 : P 0 τ st)
    (hs : ∀ i d τ st, ds[i]? = some d → P i τ st → ∃ fl τ2 st2, body (τ.set j (some d)) st = .ok (fl, τ2) st2 ∧ (((fl = .nx ∨ fl = .ct) ∧ P (i + 1) τ2 st2) ∨ ((∃ d, fl = .rt d) ∧ Z fl st2))) :
    ∃ fl τ' st', forL (gN j) body ds τ st = .ok (fl, τ') st' ∧ ((fl = .nx ∧ P ds.length τ' st') ∨ ((∃ d, fl = .rt d) ∧ Z fl st')) := by
  induction ds generalizing P τ st with
  | nil => exact ⟨.nx, τ, st, rfl, .inl ⟨rfl, h0⟩⟩
  | cons d ds ih =>
    obtain ⟨fl, τ2, st2, h1, h2⟩ := hs 0 d τ st rfl h0
    rcases h2 with ⟨h2, h3⟩ | ⟨h2, h3⟩
    · obtain ⟨fl', τ', st', h4, h5⟩ := ih (fun i => P (i + 1)) h3 fun i d τ st hd hp => hs (i + 1) d τ st (by simpa using hd) hp
      refine ⟨fl', τ', st', ?_, h5⟩
      show (body (τ.set j (some d)) st).turn _ = _
      rw [h1]
      rcases h2 with h2 | h2 <;> (subst h2; exact h4)
    · refine ⟨fl, τ2, st2, ?_, .inr ⟨h2, h3⟩⟩
      show (body (τ.set j (some d)) st).turn _ = _
      rw [h1]
      obtain ⟨d', h2⟩ := h2
      subst h2
      rfl
/-- a while by a measure -/
theorem while_inv {c : DT} {body : DS} (P : En → Sto → Prop) (μ : En → Sto → Nat) {τ : En} {st : Sto} (h0 : P τ st) (hμ : μ τ st < fuel)
    (hs : ∀ τ st, P τ st → ∃ b st1, c τ st = .ok b st1 ∧ (b = true → ∃ fl τ2 st2, body τ st1 = .ok (fl, τ2) st2 ∧ (fl = .nx ∨ fl = .ct) ∧ P τ2 st2 ∧ μ τ2 st2 < μ τ st) ∧ (b = false → P τ st1)) :
    ∃ τ' st' st1, dWhile c body τ st = .ok (.nx, τ') st1 ∧ P τ' st1 ∧ c τ' st' = .ok false st1 := by
  unfold dWhile
  generalize hf : fuel = n at *
  clear hf
  induction n generalizing τ st with
  | zero => omega
  | succ n ih =>
    obtain ⟨b, st1, h1, h2, h3⟩ := hs τ st h0
    cases b with
    | false =>
      refine ⟨τ, st, st1, ?_, h3 rfl, h1⟩
      show (c τ st).stm τ _ = _
      rw [h1]
      rfl
    | true =>
      obtain ⟨fl, τ2, st2, h4, h5, h6, h7⟩ := h2 rfl
      obtain ⟨τ', st', st1', h8, h9, h10⟩ := ih h6 (by omega)
      refine ⟨τ', st', st1', ?_, h9, h10⟩
      show (c τ st).stm τ _ = _
      rw [h1]
      show (if true = true then (body τ st1).turn _ else _) = _
      rw [if_pos rfl, h4]
      rcases h5 with h5 | h5 <;> (subst h5; exact h8)
/-- a comprehension over a row, one name, no test -/
theorem compL_inv {j : Nat} {te : DE} {τ : En} {ds : List D} (P : Nat → List D → Sto → Prop) {st : Sto} (h0 : P 0 [] st) (hl : ds.length < sizeLine)
    (hs : ∀ i d acc st, ds[i]? = some d → acc.length = i → P i acc st → ∃ y st2, te (τ.set j (some d)) st = .ok y st2 ∧ P (i + 1) (acc ++ [y]) st2) :
    ∃ out st', compL (.one j) dYes te τ ds [] st = .ok out st' ∧ out.length = ds.length ∧ P ds.length out st' := by
  suffices h : ∀ (ds' : List D) (i : Nat) (acc : List D) (st : Sto), ds = ds.take i ++ ds' → i + ds'.length = ds.length → acc.length = i → P i acc st → ∃ out st', compL (.one j) dYes te τ ds' acc st = .ok out st' ∧ out.length = ds.length ∧ P ds.length out st' from
    h ds 0 [] st (by simp) (by simp) rfl h0
  intro ds'
  induction ds' with
  | nil =>
    intro i acc st h1 h2 h3 hp
    refine ⟨acc, st, rfl, ?_, ?_⟩
    · simp at h2; omega
    · simp at h2; rw [← h2]; exact hp
  | cons d ds' ih =>
    intro i acc st h1 h2 h3 hp
    have hd : ds[i]? = some d := by
      rw [h1, List.getElem?_append_right (by simp; omega)]
      have : i - (ds.take i).length = 0 := by
        rw [List.length_take]
        simp at h2
        omega
      rw [this]
      rfl
    obtain ⟨y, st2, h4, h5⟩ := hs i d acc st hd h3 hp
    have hlt : acc.length < sizeLine := by simp at h2; omega
    obtain ⟨out, st', h6, h7, h8⟩ := ih (i + 1) (acc ++ [y]) st2 (by
      rw [List.take_succ_eq_append_getElem (by simp at h2; omega)]
      rw [List.append_assoc]
      have : ds[i]'(by simp at h2; omega) = d := by
        have := List.getElem?_eq_some_iff.mp hd
        exact this.2
      rw [this]
      exact h1) (by simp at h2; omega) (by simp [h3]) h5
    refine ⟨out, st', ?_, h7, h8⟩
    show compL (.one j) dYes te τ (d :: ds') acc st = _
    unfold compL
    simp only [Tgt.put, dYes, h4, hlt, if_true]
    exact h6
theorem dq_int {neg : Bool} {a b : Int} {st : Sto} : dEq neg (.int a) (.int b) st = .ok (.bl (neg ^^ decide (a = b))) st := by
  show R.ok (D.bl (neg ^^ (a == b))) st = _
  by_cases h : a = b
  · subst h; simp
  · rw [beq_eq_false_iff_ne.mpr h, decide_eq_false h]
theorem dq_bl {neg : Bool} {a b : Bool} {st : Sto} : dEq neg (.bl a) (.bl b) st = .ok (.bl (neg ^^ (a == b))) st := rfl
theorem dq_str {neg : Bool} {a b : Str} {st : Sto} (ha : PyData.strOk a = true) (hb : PyData.strOk b = true) : dEq neg (.str a) (.str b) st = .ok (.bl (neg ^^ decide (a = b))) st := by
  show (if (SeqAt.shaped (.str a) && SeqAt.shaped (.str b)) = true then R.ok (D.bl (neg ^^ (a == b))) st else .bad) = _
  have h1 : SeqAt.shaped (.str a) = true := by unfold SeqAt.shaped; rw [show (PyData.str a).canLay0 = PyData.strOk a from rfl, ha]; rfl
  have h2 : SeqAt.shaped (.str b) = true := by unfold SeqAt.shaped; rw [show (PyData.str b).canLay0 = PyData.strOk b from rfl, hb]; rfl
  rw [h1, h2]
  by_cases h : a = b
  · subst h; simp
  · rw [beq_eq_false_iff_ne.mpr h, decide_eq_false h]; rfl
theorem atI_lastm {ns : List Int} (h : 0 < ns.length) : ∃ z, z ∈ ns ∧ atI (ns.map D.int) (-1) = some (.int z) := by
  have hl : ns.length - 1 < ns.length := by omega
  refine ⟨ns[ns.length - 1], List.getElem_mem hl, ?_⟩
  unfold atI ixN
  rw [if_neg (by omega), if_pos (by rw [List.length_map]; omega)]
  show ((ns.map D.int)[((-1 : Int) + ((ns.map D.int).length : Int)).toNat]?) = _
  have : ((-1 : Int) + ((ns.map D.int).length : Int)).toNat = ns.length - 1 := by rw [List.length_map]; omega
  rw [this, List.getElem?_map, List.getElem?_eq_getElem hl]
  rfl
end DL

/-! DL10: sums, sorting, methods of dicts and texts. -/
namespace DL
open PySem PySem.Spec PyProof.Rows L2

/-! ### rows of one kind -/
def intsOf : List D → Option (List Int)
  | [] => some []
  | .int i :: r => (intsOf r).map (i :: ·)
  | _ :: _ => none
def boolsOf : List D → Option (List Bool)
  | [] => some []
  | .bl i :: r => (boolsOf r).map (i :: ·)
  | _ :: _ => none
def strsOf : List D → Option (List Str)
  | [] => some []
  | .str i :: r => (strsOf r).map (i :: ·)
  | _ :: _ => none
def pairsOf : List D → Option (List (Int × Int))
  | [] => some []
  | .tup [.int i, .int j] :: r => (pairsOf r).map ((i, j) :: ·)
  | _ :: _ => none
abbrev p2D (p : Int × Int) : D := .tup [.int p.1, .int p.2]
theorem intsOf_map (ns : List Int) : intsOf (ns.map .int) = some ns := by
  induction ns with
  | nil => rfl
  | cons n ns ih => show (intsOf (ns.map .int)).map (n :: ·) = _; rw [ih]; rfl
theorem boolsOf_map (ns : List Bool) : boolsOf (ns.map .bl) = some ns := by
  induction ns with
  | nil => rfl
  | cons n ns ih => show (boolsOf (ns.map .bl)).map (n :: ·) = _; rw [ih]; rfl
theorem strsOf_map (ns : List Str) : strsOf (ns.map .str) = some ns := by
  induction ns with
  | nil => rfl
  | cons n ns ih => show (strsOf (ns.map .str)).map (n :: ·) = _; rw [ih]; rfl
theorem pairsOf_map (ns : List (Int × Int)) : pairsOf (ns.map p2D) = some ns := by
  induction ns with
  | nil => rfl
  | cons n ns ih => show (pairsOf (ns.map p2D)).map ((n.1, n.2) :: ·) = _; rw [ih]; rfl
theorem intsOf_eq : ∀ {ds : List D} {ns : List Int}, intsOf ds = some ns → ds = ns.map .int
  | [], ns, h => by cases h; rfl
  | .int i :: r, ns, h => by
    have h : (intsOf r).map (i :: ·) = some ns := h
    cases e : intsOf r with
    | none => rw [e] at h; cases h
    | some m => rw [e] at h; cases h; rw [intsOf_eq e]; rfl
  | .non :: _, _, h | .bl _ :: _, _, h | .str _ :: _, _, h | .tup _ :: _, _, h | .lst _ :: _, _, h | .fro _ :: _, _, h | .dic _ :: _, _, h | .ref _ :: _, _, h | .raw _ :: _, _, h => by cases h
theorem boolsOf_eq : ∀ {ds : List D} {ns : List Bool}, boolsOf ds = some ns → ds = ns.map .bl
  | [], ns, h => by cases h; rfl
  | .bl i :: r, ns, h => by
    have h : (boolsOf r).map (i :: ·) = some ns := h
    cases e : boolsOf r with
    | none => rw [e] at h; cases h
    | some m => rw [e] at h; cases h; rw [boolsOf_eq e]; rfl
  | .non :: _, _, h | .int _ :: _, _, h | .str _ :: _, _, h | .tup _ :: _, _, h | .lst _ :: _, _, h | .fro _ :: _, _, h | .dic _ :: _, _, h | .ref _ :: _, _, h | .raw _ :: _, _, h => by cases h
theorem strsOf_eq : ∀ {ds : List D} {ns : List Str}, strsOf ds = some ns → ds = ns.map .str
  | [], ns, h => by cases h; rfl
  | .str i :: r, ns, h => by
    have h : (strsOf r).map (i :: ·) = some ns := h
    cases e : strsOf r with
    | none => rw [e] at h; cases h
    | some m => rw [e] at h; cases h; rw [strsOf_eq e]; rfl
  | .non :: _, _, h | .int _ :: _, _, h | .bl _ :: _, _, h | .tup _ :: _, _, h | .lst _ :: _, _, h | .fro _ :: _, _, h | .dic _ :: _, _, h | .ref _ :: _, _, h | .raw _ :: _, _, h => by cases h
theorem pairsOf_eq {ds : List D} {ns : List (Int × Int)} (h : pairsOf ds = some ns) : ds = ns.map p2D := by
  induction ds generalizing ns with
  | nil => cases h; rfl
  | cons d r ih =>
    unfold pairsOf at h
    split at h
    · rename_i e; cases e
    · rename_i i j r' e
      cases e
      cases e : pairsOf r with
      | none => rw [e] at h; cases h
      | some m => rw [e] at h; cases h; rw [ih e]; rfl
    · cases h
section
variable {K : PySem.W.Frag} {as : Mp} {H : Hp}
theorem repsI : ∀ {ns : List Int} {xs : List V}, Reps K as H (ns.map .int) xs → xs = ns.map V.int
  | [], _, .nil => rfl
  | n :: ns, _, .cons r t => by cases r; rw [repsI t]; rfl
theorem repsB : ∀ {ns : List Bool} {xs : List V}, Reps K as H (ns.map .bl) xs → xs = ns.map V.bl
  | [], _, .nil => rfl
  | n :: ns, _, .cons r t => by cases r; rw [repsB t]; rfl
theorem repsS : ∀ {ns : List Str} {xs : List V}, Reps K as H (ns.map .str) xs → xs = ns.map V.str
  | [], _, .nil => rfl
  | n :: ns, _, .cons r t => by cases r; rw [repsS t]; rfl
theorem intsR : ∀ (ns : List Int), Reps K as H (ns.map .int) (ns.map V.int)
  | [] => .nil
  | n :: ns => .cons (.int n) (intsR ns)
theorem strsR : ∀ (ns : List Str), Reps K as H (ns.map .str) (ns.map V.str)
  | [] => .nil
  | n :: ns => .cons (.str n) (strsR ns)
/-- a rearrangement of the values is one of the data -/
theorem Reps.perm {ys xs : List V} (h : ys.Perm xs) : ∀ {ds : List D}, Reps K as H ds xs → ∃ es, es.Perm ds ∧ Reps K as H es ys := by
  induction h with
  | nil => intro ds r; exact ⟨ds, .refl _, r⟩
  | cons x p ih =>
    intro ds r
    cases r with
    | cons a t =>
      obtain ⟨es, h1, h2⟩ := ih t
      exact ⟨_, h1.cons _, .cons a h2⟩
  | swap x y l =>
    intro ds r
    cases r with
    | cons a t =>
      cases t with
      | cons b t => exact ⟨_, .swap _ _ _, .cons b (.cons a t)⟩
  | trans p q ih1 ih2 =>
    intro ds r
    obtain ⟨es, h1, h2⟩ := ih2 r
    obtain ⟨fs, h3, h4⟩ := ih1 h2
    exact ⟨fs, h3.trans h1, h4⟩
/-- the row of a list, not of a tuple -/
def sqlOf (d : D) (st : Sto) : Option (List D) := match d with
  | .tup _ => none
  | d => seqOf d st
theorem sqlOf_ok {cl : Cl} {st : Sto} {d : D} {v : V} {ds : List D} (w : Wd K cl as st H) (r : Rep K as H d v) (h : sqlOf d st = some ds) : ∃ p xs, v = .ref p ∧ SqL K H p xs ∧ Reps K as H ds xs := by
  have h2 : seqOf d st = some ds := by
    cases d with
    | tup _ => cases h
    | _ => exact h
  rcases seqOf_list w r h2 with e | q
  · subst e; cases h
  · exact q
end

/-! ### sum, any, all, max, min -/
def cRow (f : List D → Option D) : DC := fun ds st => match ds with
  | [d] => match sqlOf d st with
    | some xs => match f xs with
      | some v => .ok v st
      | none => .bad
    | none => .bad
  | _ => .bad
theorem cRow_ok {X : Cx} {cl : Cl} {f : List D → Option D} {E : XK} {as : Mp} {st : Sto} {H : Hp} {xs : List V} {ds : List D} {Q : VK} (w : Wd X.K cl as st H) (rs : Reps X.K as H ds xs) (p : Post X.K cl E as H (cRow f ds st) (QV X.K Q)) :
    ∃ a ys es v, xs = [.ref a] ∧ SqL X.K H a ys ∧ Reps X.K as H es ys ∧ f es = some v ∧ Post X.K cl E as H (.ok v st) (QV X.K Q) := by
  unfold cRow at p
  split at p
  · rename_i d
    obtain ⟨v, rfl, r⟩ := rs.one
    cases h1 : sqlOf d st with
    | none => rw [h1] at p; exact p.elim
    | some ys =>
      rw [h1] at p
      obtain ⟨q, zs, rfl, hq, rz⟩ := sqlOf_ok w r h1
      cases h2 : f ys with
      | none => simp only [h2] at p; exact p.elim
      | some v => simp only [h2] at p; exact ⟨q, zs, ys, v, rfl, hq, rz, h2, p⟩
  · exact p.elim
def cSum1 : DC := cRow fun ds => (intsOf ds).map fun ns => .int ns.sum
def cAny1 : DC := cRow fun ds => (boolsOf ds).map fun ns => .bl (ns.any id)
def cAll1 : DC := cRow fun ds => (boolsOf ds).map fun ns => .bl (ns.all id)
def maxL : List Int → Option Int
  | [] => none
  | n :: ns => some (ns.foldl max n)
def minL : List Int → Option Int
  | [] => none
  | n :: ns => some (ns.foldl min n)
theorem foldl_max : ∀ (ns : List Int) (n : Int), (ns.foldl max n = n ∨ ns.foldl max n ∈ ns) ∧ n ≤ ns.foldl max n ∧ ∀ y ∈ ns, y ≤ ns.foldl max n
  | [], n => ⟨.inl rfl, Int.le_refl _, fun _ h => (List.not_mem_nil h).elim⟩
  | x :: ns, n => by
    obtain ⟨h1, h2, h3⟩ := foldl_max ns (max n x)
    rw [List.foldl_cons]
    refine ⟨?_, by omega, fun y hy => ?_⟩
    · rcases h1 with h1 | h1
      · rw [h1]
        rcases Int.le_total n x with h | h
        · rw [Int.max_eq_right h]; exact .inr List.mem_cons_self
        · rw [Int.max_eq_left h]; exact .inl rfl
      · exact .inr (List.mem_cons_of_mem _ h1)
    · rcases List.mem_cons.mp hy with e | hy
      · omega
      · exact h3 y hy
theorem foldl_min : ∀ (ns : List Int) (n : Int), (ns.foldl min n = n ∨ ns.foldl min n ∈ ns) ∧ ns.foldl min n ≤ n ∧ ∀ y ∈ ns, ns.foldl min n ≤ y
  | [], n => ⟨.inl rfl, Int.le_refl _, fun _ h => (List.not_mem_nil h).elim⟩
  | x :: ns, n => by
    obtain ⟨h1, h2, h3⟩ := foldl_min ns (min n x)
    rw [List.foldl_cons]
    refine ⟨?_, by omega, fun y hy => ?_⟩
    · rcases h1 with h1 | h1
      · rw [h1]
        rcases Int.le_total n x with h | h
        · rw [Int.min_eq_left h]; exact .inl rfl
        · rw [Int.min_eq_right h]; exact .inr List.mem_cons_self
      · exact .inr (List.mem_cons_of_mem _ h1)
    · rcases List.mem_cons.mp hy with e | hy
      · omega
      · exact h3 y hy
theorem maxL_of {ns : List Int} {m k : Int} (h1 : m ∈ ns) (h2 : ∀ y ∈ ns, y ≤ m) (h : maxL ns = some k) : m = k := by
  cases ns with
  | nil => cases h
  | cons n ns =>
    cases h
    obtain ⟨q1, q2, q3⟩ := foldl_max ns n
    have a : m ≤ ns.foldl max n := by
      rcases List.mem_cons.mp h1 with e | e
      · omega
      · exact q3 m e
    have b : ns.foldl max n ≤ m := by
      rcases q1 with e | e
      · rw [e]; exact h2 n List.mem_cons_self
      · exact h2 _ (List.mem_cons_of_mem _ e)
    omega
theorem minL_of {ns : List Int} {m k : Int} (h1 : m ∈ ns) (h2 : ∀ y ∈ ns, m ≤ y) (h : minL ns = some k) : m = k := by
  cases ns with
  | nil => cases h
  | cons n ns =>
    cases h
    obtain ⟨q1, q2, q3⟩ := foldl_min ns n
    have a : ns.foldl min n ≤ m := by
      rcases List.mem_cons.mp h1 with e | e
      · omega
      · exact q3 m e
    have b : m ≤ ns.foldl min n := by
      rcases q1 with e | e
      · rw [e]; exact h2 n List.mem_cons_self
      · exact h2 _ (List.mem_cons_of_mem _ e)
    omega
def cMax1 : DC := cRow fun ds => (intsOf ds).bind fun ns => (maxL ns).map D.int
def cMin1 : DC := cRow fun ds => (intsOf ds).bind fun ns => (minL ns).map D.int
section
variable {X : Cx} {cl : Cl}
theorem omap {α β : Type} {f : α → β} {o : Option α} {b : β} (h : o.map f = some b) : ∃ a, o = some a ∧ f a = b := Option.map_eq_some_iff.mp h
theorem cj_sum1 (hc : X.calm = true) : CallJ X cl (.builtin "sum") cSum1 := CallJ.of (cr_sum hc) fun E as st H xs ds Q w rs p => by
  obtain ⟨a, ys, es, v, rfl, hs, rz, hv, p⟩ := cRow_ok w rs p
  obtain ⟨ns, h1, rfl⟩ := omap hv
  rw [intsOf_eq h1] at rz
  rw [repsI rz] at hs
  exact ⟨a, ns, rfl, hs, p.val w (.int _)⟩
theorem cj_any1 (hc : X.calm = true) : CallJ X cl (.builtin "any") cAny1 := CallJ.of (cr_any hc) fun E as st H xs ds Q w rs p => by
  obtain ⟨a, ys, es, v, rfl, hs, rz, hv, p⟩ := cRow_ok w rs p
  obtain ⟨ns, h1, rfl⟩ := omap hv
  rw [boolsOf_eq h1] at rz
  rw [repsB rz] at hs
  exact ⟨a, ns, rfl, hs, p.val w (.bl _)⟩
theorem cj_all1 (hc : X.calm = true) : CallJ X cl (.builtin "all") cAll1 := CallJ.of (cr_all hc) fun E as st H xs ds Q w rs p => by
  obtain ⟨a, ys, es, v, rfl, hs, rz, hv, p⟩ := cRow_ok w rs p
  obtain ⟨ns, h1, rfl⟩ := omap hv
  rw [boolsOf_eq h1] at rz
  rw [repsB rz] at hs
  exact ⟨a, ns, rfl, hs, p.val w (.bl _)⟩
theorem cj_max1 (hc : X.calm = true) : CallJ X cl (.builtin "max") cMax1 := CallJ.of (cr_max hc) fun E as st H xs ds Q w rs p => by
  obtain ⟨a, ys, es, v, rfl, hs, rz, hv, p⟩ := cRow_ok w rs p
  obtain ⟨ns, h1, h2⟩ := Option.bind_eq_some_iff.mp hv
  obtain ⟨k, h3, rfl⟩ := omap h2
  rw [intsOf_eq h1] at rz
  rw [repsI rz] at hs
  refine ⟨a, ns, rfl, hs, ?_, fun m q1 q2 => by rw [maxL_of q1 q2 h3]; exact p.val w (.int _)⟩
  cases ns with
  | nil => cases h3
  | cons _ _ => exact Nat.succ_pos _
theorem cj_min1 (hc : X.calm = true) : CallJ X cl (.builtin "min") cMin1 := CallJ.of (cr_min hc) fun E as st H xs ds Q w rs p => by
  obtain ⟨a, ys, es, v, rfl, hs, rz, hv, p⟩ := cRow_ok w rs p
  obtain ⟨ns, h1, h2⟩ := Option.bind_eq_some_iff.mp hv
  obtain ⟨k, h3, rfl⟩ := omap h2
  rw [intsOf_eq h1] at rz
  rw [repsI rz] at hs
  refine ⟨a, ns, rfl, hs, ?_, fun m q1 q2 => by rw [minL_of q1 q2 h3]; exact p.val w (.int _)⟩
  cases ns with
  | nil => cases h3
  | cons _ _ => exact Nat.succ_pos _
end

/-! ### sorted -/
def lexLe (p q : Int × Int) : Bool := decide (p.1 < q.1) || (decide (p.1 = q.1) && decide (p.2 ≤ q.2))
theorem lexLe_iff {p q : Int × Int} : lexLe p q = true ↔ p.1 < q.1 ∨ (p.1 = q.1 ∧ p.2 ≤ q.2) := by
  unfold lexLe
  simp
def sortI (ns : List Int) : List Int := ns.mergeSort (fun a b => decide (a ≤ b))
def sortP (ns : List (Int × Int)) : List (Int × Int) := ns.mergeSort lexLe
theorem sortI_perm (ns : List Int) : (sortI ns).Perm ns := List.mergeSort_perm _ _
theorem sortI_sorted (ns : List Int) : (sortI ns).Pairwise (· ≤ ·) := by
  have h := List.pairwise_mergeSort (le := fun a b : Int => decide (a ≤ b)) (fun a b c h1 h2 => by simp only [decide_eq_true_eq] at *; omega) (fun a b => by simp only [Bool.or_eq_true, decide_eq_true_eq]; omega) ns
  exact h.imp fun h => of_decide_eq_true h
theorem sortI_of {ns ms : List Int} (h1 : ms.Perm ns) (h2 : ms.Pairwise (· ≤ ·)) : ms = sortI ns :=
  List.Perm.eq_of_pairwise (le := fun a b : Int => a ≤ b) (fun a b _ _ h1 h2 => Int.le_antisymm h1 h2) h2 (sortI_sorted ns) (h1.trans (sortI_perm ns).symm)
theorem sortP_perm (ns : List (Int × Int)) : (sortP ns).Perm ns := List.mergeSort_perm _ _
theorem sortP_sorted (ns : List (Int × Int)) : (sortP ns).Pairwise (fun a b => lexLe a b = true) :=
  List.pairwise_mergeSort (le := lexLe) (fun a b c h1 h2 => by rw [lexLe_iff] at *; omega) (fun a b => by rw [Bool.or_eq_true, lexLe_iff, lexLe_iff]; omega) ns
theorem sortP_of {ns ms : List (Int × Int)} (h1 : ms.Perm ns) (h2 : ms.Pairwise (fun a b => lexLe a b = true)) : ms = sortP ns :=
  List.Perm.eq_of_pairwise (le := fun a b => lexLe a b = true) (fun a b _ _ h1 h2 => by
    rw [lexLe_iff] at *
    exact Prod.ext (by omega) (by omega)) h2 (sortP_sorted ns) (h1.trans (sortP_perm ns).symm)
/-- sorted of a list of pairs of ints, told by tuples of any kind -/
def rSortQ (K : PySem.W.Frag) : List V → Hp → VK → Prop := fun vs H Q => ∃ (a : Addr) (xs : List V) (k : V → Int × Int), vs = [V.ref a] ∧ SqL K H a xs ∧ (∀ x ∈ xs, ∃ t, x = V.ref t ∧ SqT K H t [.int (k x).1, .int (k x).2]) ∧
  ∀ ys p, SrtO.Srtd (ltP k) ys → ys.Perm xs → (∀ t a b, SqT K H t a → SqT K H t b → a = b) → H p = none → Q (.ref p) (upd H p (.lst ys))
theorem cr_sortQ {X : Cx} : CallR X (.builtin "sorted") (rSortQ X.K) := by
  intro pins s σ H vs us Q I r h
  obtain ⟨a, xs, k, rfl, hs, hx, q⟩ := h
  obtain ⟨its, rv, hl, hz⟩ := I.list hs
  rw [Vals.ref1 r]
  obtain ⟨e1, e2⟩ := refs_back rv fun x m => let ⟨t, e, _⟩ := hx x m; ⟨t, e⟩
  refine SrtO.sorted_pairsO (k := fun u => k (backV u)) hl.isList (by rw [← rv.length]; exact hz) (fun v hv => ?_) fun h' d out h1 h2 kp hd hn => ?_
  · obtain ⟨t, rfl⟩ := e2 v hv
    obtain ⟨t', e, ht⟩ := hx (V.ref t) (e1 ▸ List.mem_map.mpr ⟨_, hv, rfl⟩)
    cases e
    obtain ⟨its2, r2, ht2, _⟩ := I.tuple ht
    obtain ⟨u1, u2, rfl, ⟨t1, rfl⟩, ⟨t2, rfl⟩⟩ := vals2 r2
    obtain ⟨o, ho, hc, n, hd⟩ := ht2
    exact ⟨t, o, t1, t2, n, rfl, ho, hc, hd⟩
  · obtain ⟨n, hn⟩ := hn
    have hb : SrtO.Stb (ltP k) (out.map backV) xs := by rw [e1]; exact SrtO.Stb.map (ltP_swo k) backV h2
    exact ⟨.ref d, upd H d (.lst (out.map backV)), I.laid (t' := s.toks) kp hd ⟨by rw [hb.len]; exact hz, out, n, vals_back fun u hu => e2 u (h2.perm.mem_iff.mp hu), hn⟩, rfl, q _ d (SrtO.srtd_map h1) hb.perm (fun _ _ _ => I.tuple_inj) (I.hok.fresh hd)⟩


/-- sorted of a dict whose keys are ints -/
def rSortDI : List V → Hp → VK → Prop := fun xs H Q => ∃ (a : Addr) (kvs : List (Key × V)) (ks : List Int), xs = [.ref a] ∧ Rd H a (.dK kvs) ∧ kvs.map (·.1) = ks.map Sum.inl ∧
  ∀ (ys : List Int) (p : Addr), ys.Perm ks → ys.Pairwise (· ≤ ·) → H p = none → Q (.ref p) (upd H p (.lst (ys.map V.int)))
theorem cr_sortDI {X : Cx} (hcalm : X.calm = true) : CallR X (.builtin "sorted") rSortDI := by
  intro pins s σ H xs us Q I r q
  obtain ⟨a, kvs, ks, rfl, hd, hks, q⟩ := q
  rw [Vals.ref1 r]
  obtain ⟨z, lo, vs, rel, dd⟩ := dk_rd I.hok hd
  obtain ⟨ep, hat⟩ := dd.dictAt
  have hkeys : vs.map (·.1) = ks.map Sum.inl := rel.keys.symm.trans hks
  have hl : vs.length = ks.length := by simpa using congrArg List.length hkeys
  have hz : vs.length ≤ sizeLine := by
    rw [← Paired.length rel]
    exact z
  refine Calls.call_function_entry PyProof.Rows.kind_sorted PyProof.Rows.plain_sorted PyProof.Rows.entry_sorted (PyProof.Rows.args_sorted1 _) ?_
  unfold Builtin.«sorted»
  refine wpAny_bind (m := checkCount "sorted" 1 1 _) (wpAny_pure ?_)
  refine wpAny_bind (PySem.W.kdu_collect (A := X.A.in1) (PySem.W.kdl_dict (knd := mixKind X.prog X.w) (kvs := vs) (ep := ep) lo) (I.ok.hd hcalm) hat hz fun h' tk acc hk hacc => ?_)
  have hal : acc.toList.length = ks.length := by rw [Array.length_toList, hacc.1, hl]
  have hS : IntsAre acc.toList ks := ints_each hal fun j v e => by
    obtain ⟨k, x, e1, e2⟩ := hacc.2 j v (by rw [← Array.getElem?_toList]; exact e)
    have e3 : (ks.map (Sum.inl : Int → Key))[j]? = some k := by rw [← hkeys, List.getElem?_map, e1]; rfl
    rw [List.getElem?_map] at e3
    obtain ⟨y, e4, e5⟩ := Option.map_eq_some_iff.mp e3
    subst e5
    rcases keyIs_shape (show keyIs (Sum.inl y) v = true from e2) with ⟨i, t, ek, ev⟩ | ⟨z, t, ek, ev⟩
    · cases ek
      exact ⟨y, t, e4, ev⟩
    · cases ek
  have I1 : Inv X pins σ H { s with heap := h', toks := tk } := I.kept hk
  have hal2 : acc.toList.length ≤ sizeLine := by rw [hal, ← hl]; exact hz
  refine wpAny_bind (wpAny_newList ?_ hal2)
  have hoL : (h'.push (seqObj "list" acc.toList.toArray 0)).get? h'.objs.size = some (seqObj "list" acc.toList.toArray 0) := Heap.get?_push_size _ rfl
  show wpAny _ _ _ _ _ { s with heap := h'.push (seqObj "list" acc.toList.toArray 0), toks := tk }
  refine wpAny_bind (wpAny_holding (wpAny_call_entry PyProof.Rows.slot_list_sort ⟨_, hoL, rfl⟩ PyProof.Rows.entry_list_sort
    (SrtO.list_sort_ord (s := { s with heap := h'.push (seqObj "list" acc.toList.toArray 0), toks := tk }) SrtO.swo_int hoL hal2 (fun h2 => SrtO.ints_sortable hS h2) fun out g1 g2 => ⟨_, rfl, ?_⟩) (PyProof.Rows.args_list_sort _)))
  obtain ⟨k1, k2, k3⟩ := SrtO.ints_out hS g1 g2
  obtain ⟨e', he'⟩ := PyProof.Rows.sortedHeap_at (vs := acc.toList) (out := out.toArray) hoL
  have hlen : ((out.map SrtO.iv).map V.int).length ≤ sizeLine := by
    rw [List.length_map, k2.length_eq, ← hal]
    exact hal2
  refine wpAny_pure ⟨_, rfl, .ref h'.objs.size, upd H h'.objs.size (.lst ((out.map SrtO.iv).map V.int)), I1.laid (t' := tk) (fun b u e => ?_) (Nat.le_refl _)
    (show ObjOk X.prog X.w _ _ _ (.lst ((out.map SrtO.iv).map V.int)) from ⟨hlen, out, e', vals_of_ints k1, he'⟩), rfl, q _ _ k2 k3 (I1.hok.fresh (Nat.le_refl _))⟩
  have hb : b < h'.objs.size := Heap.lt_size e
  rw [PyProof.Rows.sortedHeap_old (Nat.ne_of_lt hb) (by rw [size_push']; exact Nat.lt_succ_of_lt hb)]
  exact Heap.get?_push_of_some _ e
/-- the keys, if all are ints -/
def keysI : List (Key × D) → Option (List Int)
  | [] => some []
  | (.inl i, _) :: r => (keysI r).map (i :: ·)
  | (.inr _, _) :: _ => none
theorem keysI_eq {K : PySem.W.Frag} {as : Mp} {H : Hp} : ∀ {kvs : List (Key × D)} {ks : List Int} {xs : List (Key × V)}, keysI kvs = some ks → RepF K as H kvs xs → xs.map (·.1) = ks.map Sum.inl
  | [], ks, _, h, .nil => by cases h; rfl
  | (.inl i, _) :: r, ks, _, h, .cons q t => by
    obtain ⟨m, h1, rfl⟩ := omap (show (keysI r).map (i :: ·) = some ks from h)
    rw [List.map_cons, List.map_cons, keysI_eq h1 t]
  | (.inr _, _) :: _, _, _, h, _ => by cases h
def cSorted : DC := fun ds st => match ds with
  | [d] => match dicOf d st with
    | some kvs => (match keysI kvs with
      | some ks => .ok (.lst ((sortI ks).map .int)) st
      | none => .bad)
    | none => match sqlOf d st with
      | some xs => (match intsOf xs with
        | some ns => .ok (.lst ((sortI ns).map .int)) st
        | none => match pairsOf xs with
          | some ps => .ok (.lst ((sortP ps).map p2D)) st
          | none => .bad)
      | none => .bad
  | _ => .bad
theorem ltP_of {k : V → Int × Int} {ys : List V} (h : SrtO.Srtd (ltP k) ys) : (ys.map k).Pairwise (fun a b => lexLe a b = true) :=
  List.pairwise_map.mpr (h.imp fun {x y} h => by
    have := SrtO.lexB_no.mp h
    rw [lexLe_iff]
    omega)
theorem perm_map_back {α β : Type} {f : α → β} {ps : List α} {es : List β} (h : es.Perm (ps.map f)) : ∃ qs : List α, es = qs.map f ∧ qs.Perm ps := by
  generalize hm : ps.map f = ms at h
  induction h generalizing ps with
  | nil => exact ⟨ps, hm.symm, .refl _⟩
  | @cons x l1 l2 _ ih =>
    cases ps with
    | nil => cases hm
    | cons p ps =>
      cases hm
      obtain ⟨qs, h1, h2⟩ := ih rfl
      exact ⟨p :: qs, by rw [h1]; rfl, h2.cons _⟩
  | swap x y l =>
    match ps, hm with
    | a :: b :: ps, hm =>
      cases hm
      exact ⟨b :: a :: ps, rfl, .swap _ _ _⟩
  | trans _ _ ih1 ih2 =>
    obtain ⟨qs, h1, h2⟩ := ih2 hm
    obtain ⟨rs, h3, h4⟩ := ih1 h1.symm
    exact ⟨rs, h3, h4.trans h2⟩
open Classical in
theorem pairs_keys {K : PySem.W.Frag} {as : Mp} {H : Hp} {st : Sto} {cl : Cl} (w : Wd K cl as st H) (U : ∀ t a b, SqT K H t a → SqT K H t b → a = b) : ∀ {ps : List (Int × Int)} {xs : List V}, Reps K as H (ps.map p2D) xs →
    xs.map (fun x => if h : ∃ (t : Addr) (p : Int × Int), x = V.ref t ∧ SqT K H t [.int p.1, .int p.2] then h.choose_spec.choose else (0, 0)) = ps
  | [], _, .nil => rfl
  | p :: ps, _, .cons r t => by
    rw [List.map_cons, pairs_keys w U t]
    congr 1
    cases r with
    | tup s rs =>
      cases rs with
      | cons a rs =>
        cases a
        cases rs with
        | cons b rs =>
          cases b
          cases rs
          rename_i ad
          have hh : ∃ (t : Addr) (p : Int × Int), V.ref ad = V.ref t ∧ SqT K H t [.int p.1, .int p.2] := ⟨ad, p, rfl, s.t⟩
          rw [dif_pos hh]
          have e4 : ∀ (t : Addr) (q : Int × Int), V.ref ad = V.ref t ∧ SqT K H t [.int q.1, .int q.2] → [V.int q.1, V.int q.2] = [V.int p.1, V.int p.2] := fun t q ⟨e1, e2⟩ => by
            cases e1
            exact U _ _ _ e2 s.t
          have e4 := e4 _ _ hh.choose_spec.choose_spec
          injection e4 with e5 e6
          injection e6 with e6 _
          exact Prod.ext (V.int.inj e5) (V.int.inj e6)
/-- what a value's pair is -/
theorem pairs_key {K : PySem.W.Frag} {as : Mp} {H : Hp} {st : Sto} {cl : Cl} (w : Wd K cl as st H) : ∀ {ps : List (Int × Int)} {xs : List V}, Reps K as H (ps.map p2D) xs → ∀ x ∈ xs, ∃ (t : Addr) (p : Int × Int), x = V.ref t ∧ SqT K H t [.int p.1, .int p.2]
  | [], _, .nil, x, h => (List.not_mem_nil h).elim
  | p :: ps, _, .cons r t, x, h => by
    rcases List.mem_cons.mp h with e | h
    · subst e
      cases r with
      | tup s rs =>
        cases rs with
        | cons a rs =>
          cases a
          cases rs with
          | cons b rs =>
            cases b
            cases rs
            exact ⟨_, p, rfl, s.t⟩
    · exact pairs_key w t x h
open Classical in
theorem cj_sorted {X : Cx} {cl : Cl} (hc : X.calm = true) : CallJ X cl (.builtin "sorted") cSorted := CallJ.of (CallR.or' (cr_sortDI hc) (CallR.or' cr_sortedI cr_sortQ)) fun E as st H xs ds Q w rs p => by
  unfold cSorted at p
  split at p
  · rename_i d
    obtain ⟨v, rfl, r⟩ := rs.one
    cases h1 : dicOf d st with
    | some kvs =>
      rw [h1] at p
      dsimp only at p
      obtain ⟨q, zs, rfl, hq, rz⟩ := dicOf_ok w r h1
      cases h2 : keysI kvs with
      | none => rw [h2] at p; exact p.elim
      | some ks =>
        rw [h2] at p
        exact .inl ⟨q, zs, ks, rfl, .inl hq, keysI_eq h2 rz, fun ys a h3 h4 h5 => by rw [sortI_of h3 h4]; exact p.newL w (intsR _) a h5⟩
    | none =>
      rw [h1] at p
      dsimp only at p
      cases h2 : sqlOf d st with
      | none => rw [h2] at p; exact p.elim
      | some ys =>
        rw [h2] at p
        dsimp only at p
        obtain ⟨q, zs, rfl, hq, rz⟩ := sqlOf_ok w r h2
        cases h3 : intsOf ys with
        | some ns =>
          rw [h3] at p
          rw [intsOf_eq h3] at rz
          rw [repsI rz] at hq
          exact .inr (.inl ⟨q, ns, rfl, hq, fun ys a h3 h4 h5 => by rw [sortI_of h3 h4]; exact p.newL w (intsR _) a h5⟩)
        | none =>
          rw [h3] at p
          dsimp only at p
          cases h4 : pairsOf ys with
          | none => rw [h4] at p; exact p.elim
          | some ps =>
            rw [h4] at p
            rw [pairsOf_eq h4] at rz
            have hk := pairs_key w rz
            refine .inr (.inr ⟨q, zs, fun x => if h : ∃ (t : Addr) (p : Int × Int), x = V.ref t ∧ SqT X.K H t [.int p.1, .int p.2] then h.choose_spec.choose else (0, 0), rfl, hq, fun x hx => ?_, fun us a h5 h6 hu h7 => ?_⟩)
            · obtain ⟨t, p, h⟩ := hk x hx
              have hh : ∃ (t : Addr) (p : Int × Int), x = V.ref t ∧ SqT X.K H t [.int p.1, .int p.2] := ⟨t, p, h⟩
              simp only [dif_pos hh]
              exact ⟨hh.choose, hh.choose_spec.choose_spec⟩
            · obtain ⟨es, h8, h9⟩ := Reps.perm h6 rz
              obtain ⟨qs, rfl, h10⟩ : ∃ (qs : List (Int × Int)), es = qs.map p2D ∧ qs.Perm ps := perm_map_back h8
              have h11 := pairs_keys w hu h9
              have h12 := ltP_of h5
              rw [h11] at h12
              dsimp only at p
              rw [← sortP_of h10 h12] at p
              exact p.newL w h9 a h7
  · exact p.elim

/-! ### list of a dict -/
def keyD : Key → D
  | .inl i => .int i
  | .inr x => .str x
theorem keyD_rep {K : PySem.W.Frag} {as : Mp} {H : Hp} (k : Key) : Rep K as H (keyD k) (kV k) := by cases k <;> constructor
theorem keysD_reps {K : PySem.W.Frag} {as : Mp} {H : Hp} {kvs : List (Key × D)} {xs : List (Key × V)} (r : RepF K as H kvs xs) : Reps K as H (kvs.map fun kv => keyD kv.1) (xs.map fun kv => kV kv.1) := by
  induction r with
  | nil => exact .nil
  | cons q _ ih => exact .cons (keyD_rep _) ih
/-- list(xs), list(d): not changed; that will change -/
def cListA : DC := fun ds st => match ds with
  | [d] => match dicOf d st with
    | some kvs => .ok (.lst (kvs.map fun kv => keyD kv.1)) st
    | none => cList ds st
  | _ => .bad
theorem cList_ok {X : Cx} {cl : Cl} {E : XK} {as : Mp} {st : Sto} {H : Hp} {xs : List V} {ds : List D} {Q : VK} (w : Wd X.K cl as st H) (rs : Reps X.K as H ds xs) (p : Post X.K cl E as H (cList ds st) (QV X.K Q)) :
    ∃ p ys, xs = [.ref p] ∧ (SqL X.K H p ys ∨ SqT X.K H p ys) ∧ ∀ l, H l = none → Q (.ref l) (upd H l (.lst ys)) := by
  unfold cList at p
  split at p
  · rename_i d
    obtain ⟨v, rfl, r⟩ := rs.one
    cases h1 : seqOf d st with
    | none => rw [h1] at p; exact p.elim
    | some ys =>
      rw [h1] at p
      obtain ⟨q, zs, rfl, hq, rz⟩ := seqOf_ok w r h1
      exact ⟨q, zs, rfl, hq, p.newL w rz⟩
  · exact p.elim
theorem cj_listA {X : Cx} {cl : Cl} (hc : X.calm = true) : CallJ X cl (.type "list") cListA := CallJ.of (CallR.or' (call_listD hc) call_list_of) fun E as st H xs ds Q w rs p => by
  unfold cListA at p
  split at p
  · rename_i d
    cases h1 : dicOf d st with
    | some kvs =>
      rw [h1] at p
      obtain ⟨v, rfl, r⟩ := rs.one
      obtain ⟨q, zs, rfl, hq, rz⟩ := dicOf_ok w r h1
      exact .inl ⟨q, zs, rfl, .inl hq, p.newL w (keysD_reps rz)⟩
    | none =>
      rw [h1] at p
      exact .inr (cList_ok w rs p)
  · exact p.elim

/-! ### methods of dicts -/
/-- d.get(k), d.get(k, x) -/
def dGet1 (td tk : DE) : DE := fun τ st => (td τ st).bind fun d st => if (dicOf d st).isSome = true then (tk τ st).bind fun y st => match dicOf d st, keyOf y with
  | some kvs, some k => .ok ((valD kvs k).getD .non) st
  | _, _ => .bad else .bad
def dGet2 (td tk tx : DE) : DE := fun τ st => (td τ st).bind fun d st => if (dicOf d st).isSome = true then (tk τ st).bind fun y st => (tx τ st).bind fun z st => match dicOf d st, keyOf y with
  | some kvs, some k => .ok ((valD kvs k).getD z) st
  | _, _ => .bad else .bad
/-- d.pop(k), d.pop(k, x) -/
def dPop1 (td tk : DE) : DE := fun τ st => (td τ st).bind fun d st => if (dicOf d st).isSome = true then (tk τ st).bind fun y st => match d, keyOf y with
  | .ref n, some k => (match st[n]? with
    | some (.dK kvs) => (match valD kvs k with
      | some v => .ok v (st.set n (.dK (dropD kvs k)))
      | none => .bad)
    | _ => .bad)
  | _, _ => .bad else .bad
section
variable {X : Cx} {cl : Cl} {W : WX} {o e f : Expr} {apos cpos : Pos} {td tk tx : DE}
theorem isD_of {as : Mp} {st : Sto} {H : Hp} {d : D} {v : V} (w : Wd X.K cl as st H) (r : Rep X.K as H d v) (h : (dicOf d st).isSome = true) : ∃ a, v = .ref a ∧ IsD H a := by
  obtain ⟨kvs, h1⟩ := Option.isSome_iff_exists.mp h
  obtain ⟨q, zs, rfl, hq, _⟩ := dicOf_ok w r h1
  exact ⟨q, rfl, .inl ⟨zs, .inl hq⟩⟩
theorem j_dget1 (hu : X.A.units + 1 < cLine) (ho : JE X cl W o td) (he : JE X cl W e tk) (m : M1 X o "get" apos e cpos) : JE X cl W (.Call (.Attribute o "get" apos) [e] [] cpos) (dGet1 td tk) := by
  refine PE.mono (pe_dget1 hu ho he m) fun σ H Q ⟨as, st, τ, w, r, p⟩ => ⟨as, st, τ, w, r, p.bind.mono fun d st1 as1 H1 e1 w1 p1 x rx => ?_⟩
  split at p1
  · rename_i hd
    obtain ⟨a, rfl, hi⟩ := isD_of w1 rx hd
    refine ⟨a, rfl, hi, as1, st1, τ, w1, r.evo e1, p1.bind.mono fun y st2 as2 H2 e2 w2 p2 yv ry => ?_⟩
    split at p2
    · rename_i kvs k h1 h2
      obtain ⟨q, xs, eq, hq, rs⟩ := dicOf_ok w2 (rx.evo e2) h1
      cases eq
      have hy := keyOf_ok ry h2
      subst hy
      refine ⟨valV xs k, DGet.k hq, ?_⟩
      rcases valD_ok (k := k) rs with ⟨h3, h4⟩ | ⟨d', v', h3, h4, r'⟩
      · rw [h3] at p2; rw [h4]; exact p2.val w2 .non
      · rw [h3] at p2; rw [h4]; exact p2.val w2 r'
    · exact p2.elim
  · exact p1.elim
theorem j_dget2 (hu : X.A.units + 1 < cLine) (ho : JE X cl W o td) (he : JE X cl W e tk) (hf : JE X cl W f tx) (m : M2 X o "get" apos e f cpos) : JE X cl W (.Call (.Attribute o "get" apos) [e, f] [] cpos) (dGet2 td tk tx) := by
  refine PE.mono (pe_dget2 hu ho he hf m) fun σ H Q ⟨as, st, τ, w, r, p⟩ => ⟨as, st, τ, w, r, p.bind.mono fun d st1 as1 H1 e1 w1 p1 x rx => ?_⟩
  split at p1
  · rename_i hd
    obtain ⟨a, rfl, hi⟩ := isD_of w1 rx hd
    refine ⟨a, rfl, hi, as1, st1, τ, w1, r.evo e1, p1.bind.mono fun y st2 as2 H2 e2 w2 p2 yv ry => ⟨as2, st2, τ, w2, (r.evo e1).evo e2, p2.bind.mono fun z st3 as3 H3 e3 w3 p3 zv rz => ?_⟩⟩
    split at p3
    · rename_i kvs k h1 h2
      obtain ⟨q, xs, eq, hq, rs⟩ := dicOf_ok w3 ((rx.evo e2).evo e3) h1
      cases eq
      have hy := keyOf_ok (ry.evo e3) h2
      subst hy
      refine ⟨valV xs k, DGet.k hq, ?_⟩
      rcases valD_ok (k := k) rs with ⟨h3, h4⟩ | ⟨d', v', h3, h4, r'⟩
      · rw [h3] at p3; rw [h4]; exact p3.val w3 rz
      · rw [h3] at p3; rw [h4]; exact p3.val w3 r'
    · exact p3.elim
  · exact p1.elim
theorem j_dpop1 (ho : JE X cl W o td) (he : JE X cl W e tk) (m : M1 X o "pop" apos e cpos) : JE X cl W (.Call (.Attribute o "pop" apos) [e] [] cpos) (dPop1 td tk) := by
  refine PE.mono (pe_dpop1 ho he m) fun σ H Q ⟨as, st, τ, w, r, p⟩ => ⟨as, st, τ, w, r, p.bind.mono fun d st1 as1 H1 e1 w1 p1 x rx => ?_⟩
  split at p1
  · rename_i hd
    obtain ⟨a, rfl, hi⟩ := isD_of w1 rx hd
    refine ⟨a, rfl, hi, as1, st1, τ, w1, r.evo e1, p1.bind.mono fun y st2 as2 H2 e2 w2 p2 yv ry => ?_⟩
    split at p2
    · rename_i n k h2
      obtain ⟨b, eb, hb⟩ := (rx.evo e2).refAt
      cases eb
      split at p2
      · rename_i kvs hn
        obtain ⟨xs, hH, rs⟩ := w2.dK hb hn
        have hy := keyOf_ok ry h2
        subst hy
        rcases valD_ok (k := k) rs with ⟨h3, h4⟩ | ⟨d', v', h3, h4, r'⟩
        · rw [h3] at p2; exact p2.elim
        · rw [h3] at p2
          exact ⟨xs, k, v', hH, rfl, h4, Post.ok p2 (Evo.wr w2 hb) (w2.wr hb (.dK (dropD_ok rs))) _ (r'.evo (Evo.wr w2 hb))⟩
      · exact p2.elim
    · exact p2.elim
  · exact p1.elim
/-! ### methods of texts -/
def mFind : DM := fun x ds st => match x, ds with
  | .str a, [.str b] => .ok (.int (Txt.find a b)) st
  | _, _ => .bad
def mFind2 : DM := fun x ds st => match x, ds with
  | .str a, [.str b, .int i] => .ok (.int (Txt.find3 a b i)) st
  | _, _ => .bad
def mCount : DM := fun x ds st => match x, ds with
  | .str a, [.str b] => .ok (.int (Txt.count a b)) st
  | _, _ => .bad
def mRfind : DM := fun x ds st => match x, ds with
  | .str a, [.str b] => .ok (.int (Txt.rfind a b)) st
  | _, _ => .bad
def mStarts : DM := fun x ds st => match x, ds with
  | .str a, [.str b] => .ok (.bl (Txt.startswith a b)) st
  | _, _ => .bad
def mJoin : DM := fun x ds st => match x, ds with
  | .str a, [d] => match seqOf d st with
    | some xs => (match strsOf xs with
      | some ys => if (ys.map (·.length)).sum + ys.length * a.length ≤ 16777216 then .ok (.str (Txt.join a ys)) st else .bad
      | none => .bad)
    | none => .bad
  | _, _ => .bad
theorem mj_find : MtJ X cl "str.find" mFind := MtJ.of mt_find fun E as st H x xs d ds Q w rx rs p => by
  unfold mFind at p
  split at p
  · obtain ⟨v, rfl, rv⟩ := rs.one
    cases rx; cases rv
    exact ⟨_, _, rfl, rfl, p.val w (.int _)⟩
  · exact p.elim
theorem mj_find2 : MtJ X cl "str.find" mFind2 := MtJ.of mt_find3 fun E as st H x xs d ds Q w rx rs p => by
  unfold mFind2 at p
  split at p
  · obtain ⟨v, u, rfl, rv, ru⟩ := rs.two
    cases rx; cases rv; cases ru
    exact ⟨_, _, _, rfl, rfl, p.val w (.int _)⟩
  · exact p.elim
theorem mj_count : MtJ X cl "str.count" mCount := MtJ.of mt_count fun E as st H x xs d ds Q w rx rs p => by
  unfold mCount at p
  split at p
  · obtain ⟨v, rfl, rv⟩ := rs.one
    cases rx; cases rv
    exact ⟨_, _, rfl, rfl, p.val w (.int _)⟩
  · exact p.elim
theorem mj_rfind : MtJ X cl "str.rfind" mRfind := MtJ.of mt_rfind fun E as st H x xs d ds Q w rx rs p => by
  unfold mRfind at p
  split at p
  · obtain ⟨v, rfl, rv⟩ := rs.one
    cases rx; cases rv
    exact ⟨_, _, rfl, rfl, p.val w (.int _)⟩
  · exact p.elim
theorem mj_startswith : MtJ X cl "str.startswith" mStarts := MtJ.of mt_startswith fun E as st H x xs d ds Q w rx rs p => by
  unfold mStarts at p
  split at p
  · obtain ⟨v, rfl, rv⟩ := rs.one
    cases rx; cases rv
    exact ⟨_, _, rfl, rfl, p.val w (.bl _)⟩
  · exact p.elim
theorem mj_join : MtJ X cl "str.join" mJoin := MtJ.of mt_join fun E as st H x xs d ds Q w rx rs p => by
  unfold mJoin at p
  split at p
  · rename_i a d
    obtain ⟨v, rfl, rv⟩ := rs.one
    cases rx
    cases h1 : seqOf d st with
    | none => rw [h1] at p; exact p.elim
    | some ys =>
      rw [h1] at p
      dsimp only at p
      obtain ⟨q, zs, rfl, hq, rz⟩ := seqOf_ok w rv h1
      cases h2 : strsOf ys with
      | none => rw [h2] at p; exact p.elim
      | some us =>
        rw [h2] at p
        dsimp only at p
        rw [strsOf_eq h2] at rz
        rw [repsS rz] at hq
        split at p
        · rename_i hl
          exact ⟨a, q, us, rfl, rfl, hq, hl, p.val w (.str _)⟩
        · exact p.elim
  · exact p.elim
end
/-! ### int of a text, text of an int -/
def cIntA : DC := fun ds st => match ds with
  | [.str a] => (match PySem.intText? a with
    | some n => if a.length ≤ 640 then .ok (.int n) st else .bad
    | none => .bad)
  | ds => cInt ds st
def cStr : DC := fun ds st => match ds with
  | [.int i] => if i.natAbs.log2 < 1920 then .ok (.str (toString i)) st else .bad
  | [.str a] => .ok (.str a) st
  | _ => .bad
section
variable {X : Cx} {cl : Cl}
theorem cj_intA : CallJ X cl (.type "int") cIntA := CallJ.of (CallR.or' call_int_str call_int1) fun E as st H xs ds Q w rs p => by
  unfold cIntA at p
  split at p
  · rename_i a
    obtain ⟨v, rfl, r⟩ := rs.one
    cases r
    split at p
    · rename_i n hn
      split at p
      · rename_i hl
        exact .inl ⟨a, n, rfl, hn, hl, p.val w (.int _)⟩
      · exact p.elim
    · exact p.elim
  · unfold cInt at p
    split at p
    · obtain ⟨v, rfl, r⟩ := rs.one
      cases r
      exact .inr (.inl ⟨_, rfl, p.val w (.int _)⟩)
    · obtain ⟨v, rfl, r⟩ := rs.one
      cases r
      exact .inr (.inr ⟨_, rfl, p.val w (.int _)⟩)
    · exact p.elim
end
end DL

/-! DL11: fields as targets, rows again and again, what is never come to. -/
namespace DL
open PySem PySem.Spec PyProof.Rows L2
/-! ### a field as one of several targets -/
def gFldR (K : PySem.W.Frag) (to : TE) (f : Str) : TG := fun v σ H Q => to σ H fun x H1 => ∃ a C dx fs, x = .ref a ∧ H1 a = some (.ins C dx fs) ∧ Cls K C ∧ NoAttr K C f ∧ fs.length < 1000 ∧ Q σ (upd H1 a (.ins C dx (putF f v fs)))
theorem pg_fldR {X : Cx} {o : Expr} {f : Str} {pos : Pos} {to : TE} (ho : PE X o to)
    (ha : ∀ v, assign (.Attribute o f pos) X.env v = (do
      let ov ← holding [v] (eval o X.env)
      standAt pos.atName
      holding [v, ov] (setAttr ov f v)
      release [v, ov] []) := by intro _; rfl) : PG X (.Attribute o f pos) (gFldR X.K to f) := by
  refine ⟨fun pins s σ H v u Q I r h => ?_⟩
  rw [ha]
  refine wpAny_bind (wpAny_holding (thn (ho.run pins s σ H _ I h) fun ov s1 ⟨x, H1, I1, r1, a, C, dx, fs, ex, ea, c, n, l, q⟩ => ?_))
  subst ex
  obtain rfl : ov = Value.ref a := r1
  refine wpAny_bind (wpAny_standAt (wpAny_bind (wpAny_holding (setattr_ok I1 ea c n l r fun s2 I2 => ?_))))
  exact wpAny_release ⟨σ, _, I2, q⟩
def gFld (f : Str) (cs : List Str) (to : DE) : DG := fun v τ st => (to τ st).bind fun d st => (setF f cs d v τ st).bind fun r st => .ok r.2 st
def gxNil : DGs := fun ds τ st => match ds with
  | [] => .ok τ st
  | _ => .bad
/-- never an exception -/
@[reducible] def R.nox {α : Type} (r : R α) : R α := match r with
  | .exc _ _ => .bad
  | r => r
theorem Post.nox {α : Type} {K : PySem.W.Frag} {cl : Cl} {E E' : XK} {as : Mp} {H : Hp} {r : R α} {Q : α → Sto → Mp → Hp → Prop} (p : Post K cl E as H r.nox Q) : Post K cl E' as H r Q := by
  cases r with
  | ok a st => exact p
  | exc x st => exact (show False from p).elim
  | bad => exact p
def gxCons (g : DG) (u : DGs) : DGs := fun ds τ st => match ds with
  | d :: ds => (g d τ st).bind fun τ st => (u ds τ st).nox
  | [] => .bad
def gTupX (n : Nat) (g : DGs) : DG := fun d τ st => match d with
  | .tup ds => if ds.length = n then g ds τ st else .bad
  | _ => .bad
section
variable {X : Cx} {cl : Cl} {W : WX} {pos : Pos}
theorem jg_fld {o : Expr} {f : Str} {cs : List Str} {to : DE} (hf : FldOk X.K cl f cs) (ho : JE X cl W o to)
    (ha : ∀ v, assign (.Attribute o f pos) X.env v = (do
      let ov ← holding [v] (eval o X.env)
      standAt pos.atName
      holding [v, ov] (setAttr ov f v)
      release [v, ov] []) := by intro _; rfl) : JG X cl W (.Attribute o f pos) (gFld f cs to) := by
  refine PG.mono (pg_fldR ho ha) fun v σ H Q ⟨as, st, τ, d, w, e, r, p⟩ => ⟨as, st, τ, w, e, p.bind.mono fun d2 st2 as2 H2 e2 w2 p2 x rx => ?_⟩
  unfold setF at p2
  split at p2
  · rename_i n
    obtain ⟨a, rfl, ha⟩ := rx.refAt
    split at p2
    · rename_i c fs hn
      split at p2
      · rename_i hc
        obtain ⟨dx, fx, hH, rs⟩ := w2.ins ha hn
        refine ⟨a, cl c, dx, fx, rfl, hH, (hf c hc.1).1, (hf c hc.1).2, by rw [← rs.len]; exact hc.2, ?_⟩
        exact Post.ok p2 (Evo.wr w2 ha) (w2.wr ha (.ins (putFD_ok (r.evo e2) rs))) σ ((e.evo e2).evo (Evo.wr w2 ha))
      · exact p2.elim
    · exact p2.elim
  · exact p2.elim
theorem jgx_nil : JGs X cl W [] gxNil := PGs.mono pgs_nil fun vs σ H Q ⟨as, st, τ, ds, w, e, r, p⟩ => by
  cases r with
  | nil => exact ⟨rfl, Post.here (show Post X.K cl (WE W σ) as H (.ok τ st) _ from p) w σ e⟩
  | cons _ _ => exact (show False from p).elim
theorem jgx_cons {e : Expr} {es : List Expr} {g : DG} {u : DGs} (h1 : JG X cl W e g) (h2 : JGs X cl W es u)
    (hs : (assignEach (e :: es) X.env).map (·.2) = assign e X.env :: (assignEach es X.env).map (·.2) := by rfl) : JGs X cl W (e :: es) (gxCons g u) := by
  refine PGs.mono (pgs_cons h1 h2 hs) fun vs σ H Q ⟨as, st, τ, ds, w, e, r, p⟩ => ?_
  cases r with
  | nil => exact (show False from p).elim
  | @cons d v ds vs r rs =>
    have p : Post X.K cl (WE W σ) as H ((g d τ st).bind fun τ st => (u ds τ st).nox) _ := p
    exact ⟨v, vs, rfl, as, st, τ, d, w, e, r, p.bind.mono fun τ1 st1 as1 H1 e1 w1 p1 σ1 r1 => ⟨as1, st1, τ1, ds, w1, r1, rs.evo e1, p1.nox⟩⟩
theorem jgx_tup {es : List Expr} {k n : Nat} {g : DGs} (hc : X.calm = true) (h : JGs X cl W es g)
    (hn : (assignEach es X.env).length = n := by rfl) (hst : (assignEach es X.env).findIdx? (·.1) = none := by rfl) : JG X cl W (.Tuple es k pos) (gTupX n g) := by
  refine PG.mono (pg_tup hc h hn hst) fun v σ H Q ⟨as, st, τ, d, w, e, r, p⟩ => ?_
  unfold gTupX at p
  split at p
  · rename_i ds
    by_cases hl : ds.length = n
    · rw [if_pos hl] at p
      cases r with
      | tup s rs => exact ⟨_, _, rfl, s.t, by rw [← rs.len]; exact hl, as, st, τ, ds, w, e, rs, p⟩
    · rw [if_neg hl] at p; exact p.elim
  · exact p.elim
/-- what is never come to -/
def dNeverE : DE := fun _ _ => .bad
theorem j_never {e : Expr} : JE X cl W e dNeverE := ⟨fun pins s σ H Q I ⟨as, st, τ, w, e, p⟩ => (show False from p).elim⟩
theorem js_never' {s : Stmt} : JS X cl W s dNever := ⟨fun pins s σ H M I ⟨as, st, τ, w, e, p⟩ => (show False from p).elim⟩
end

/-! ### the classes' addresses -/
def clOf (l : List (Str × Addr)) : Cl := fun s => (l.lookup s).getD 0
theorem FldOk.nil {K : PySem.W.Frag} {cl : Cl} {f : Str} : FldOk K cl f [] := fun _ h => (List.not_mem_nil h).elim
theorem FldOk.cons {K : PySem.W.Frag} {cl : Cl} {f c : Str} {cs : List Str} (h1 : Cls K (cl c)) (h2 : NoAttr K (cl c) f) (h : FldOk K cl f cs) : FldOk K cl f (c :: cs) := fun d hd => by
  rcases List.mem_cons.mp hd with e | hd
  · rw [e]; exact ⟨h1, h2⟩
  · exact h d hd
end DL

/-! DL12: reckoning: equality of data, comprehensions that change nothing. -/
namespace DL
open PySem PySem.Spec PyProof.Rows L2

/-! ### data that may be told equal -/
mutual
def plD : D → Bool
  | .non => true
  | .bl _ => true
  | .int _ => true
  | .str x => PyData.strOk x
  | .tup ds => plDs ds
  | .lst ds => plDs ds
  | .fro ds => plDs ds
  | .dic _ => false
  | .ref _ => false
  | .raw _ => false
def plDs : List D → Bool
  | [] => true
  | d :: ds => plD d && plDs ds
end
mutual
def pyD : D → PyData
  | .non => .none
  | .bl b => .bool b
  | .int i => .int i
  | .str x => .str x
  | .tup ds => .tuple (pyDs ds)
  | .lst ds => .list (pyDs ds)
  | .fro ds => .list (pyDs ds)
  | .dic _ => .none
  | .ref _ => .none
  | .raw _ => .none
def pyDs : List D → List PyData
  | [] => []
  | d :: ds => pyD d :: pyDs ds
end
mutual
def dpD : D → Nat
  | .tup ds => dpDs ds + 1
  | .lst ds => dpDs ds + 1
  | .fro ds => dpDs ds + 1
  | _ => 0
def dpDs : List D → Nat
  | [] => 0
  | d :: ds => max (dpD d) (dpDs ds)
end
mutual
theorem toPy_pl : ∀ {d : D}, plD d = true → toPy d = some (pyD d) ∧ (pyD d).canLay0 = true ∧ (pyD d).depth = dpD d
  | .non, _ => ⟨rfl, rfl, rfl⟩
  | .bl _, _ => ⟨rfl, rfl, rfl⟩
  | .int _, _ => ⟨rfl, rfl, rfl⟩
  | .str _, h => ⟨rfl, h, rfl⟩
  | .tup ds, h => by
    obtain ⟨h1, h2, h3⟩ := toPys_pl (ds := ds) h
    refine ⟨?_, h2, ?_⟩
    · show (toPys ds).map PyData.tuple = _; rw [h1]; rfl
    · show PyData.depthAll (pyDs ds) + 1 = dpDs ds + 1; rw [h3]
  | .lst ds, h => by
    obtain ⟨h1, h2, h3⟩ := toPys_pl (ds := ds) h
    refine ⟨?_, h2, ?_⟩
    · show (toPys ds).map PyData.list = _; rw [h1]; rfl
    · show PyData.depthAll (pyDs ds) + 1 = dpDs ds + 1; rw [h3]
  | .fro ds, h => by
    obtain ⟨h1, h2, h3⟩ := toPys_pl (ds := ds) h
    refine ⟨?_, h2, ?_⟩
    · show (toPys ds).map PyData.list = _; rw [h1]; rfl
    · show PyData.depthAll (pyDs ds) + 1 = dpDs ds + 1; rw [h3]
theorem toPys_pl : ∀ {ds : List D}, plDs ds = true → toPys ds = some (pyDs ds) ∧ PyData.canLayAll0 (pyDs ds) = true ∧ PyData.depthAll (pyDs ds) = dpDs ds
  | [], _ => ⟨rfl, rfl, rfl⟩
  | d :: ds, h => by
    have h : (plD d && plDs ds) = true := h
    rw [Bool.and_eq_true_iff] at h
    obtain ⟨h1, h2, h3⟩ := toPy_pl h.1
    obtain ⟨g1, g2, g3⟩ := toPys_pl h.2
    refine ⟨?_, ?_, ?_⟩
    · unfold toPys; rw [h1, g1]; rfl
    · show (PyData.canLay0 (pyD d) && PyData.canLayAll0 (pyDs ds)) = true; rw [h2, g2]; rfl
    · show max (PyData.depth (pyD d)) (PyData.depthAll (pyDs ds)) = max (dpD d) (dpDs ds); rw [h3, g3]
end
/-- the two are told equal -/
def eqvD (a b : D) : Bool := PyData.eqv (pyD a) (pyD b)
theorem topPy_pl {d : D} {st : Sto} (h : plD d = true) : topPy d st = some (pyD d) := by
  cases d with
  | ref _ => cases h
  | _ => exact (toPy_pl h).1
theorem shaped_pl {d : D} (h : plD d = true) (hd : dpD d ≤ 64) : SeqAt.shaped (pyD d) = true := by
  unfold SeqAt.shaped
  rw [(toPy_pl h).2.1, (toPy_pl h).2.2, decide_eq_true hd]
  rfl
theorem dq_eqv {neg : Bool} {a b : D} {st : Sto} (ha : plD a = true) (hb : plD b = true) (da : dpD a ≤ 64) (db : dpD b ≤ 64) : dEq neg a b st = .ok (.bl (neg ^^ eqvD a b)) st := by
  unfold dEq
  rw [topPy_pl ha, topPy_pl hb]
  dsimp only
  rw [shaped_pl ha da, shaped_pl hb db]
  rfl
theorem eqvD_refl {a : D} (h : plD a = true) : eqvD a a = true := PySem.SeqAt.eqv_refl _ (toPy_pl h).2.1
theorem dq_refl {neg : Bool} {a : D} {st : Sto} (ha : plD a = true) (da : dpD a ≤ 64) : dEq neg a a st = .ok (.bl (!neg)) st := by
  rw [dq_eqv ha ha da da, eqvD_refl ha]
  cases neg <;> rfl
theorem plDs_all {ds : List D} : plDs ds = true ↔ ∀ d ∈ ds, plD d = true := by
  induction ds with
  | nil => exact ⟨fun _ _ h => (List.not_mem_nil h).elim, fun _ => rfl⟩
  | cons d ds ih =>
    show (plD d && plDs ds) = true ↔ _
    rw [Bool.and_eq_true_iff, ih]
    simp
theorem dpDs_all {ds : List D} {n : Nat} : dpDs ds ≤ n ↔ ∀ d ∈ ds, dpD d ≤ n := by
  induction ds with
  | nil => exact ⟨fun _ _ h => (List.not_mem_nil h).elim, fun _ => Nat.zero_le _⟩
  | cons d ds ih =>
    show max (dpD d) (dpDs ds) ≤ n ↔ _
    rw [Nat.max_le, ih]
    simp
theorem pyDs_map : ∀ ds : List D, pyDs ds = ds.map pyD
  | [] => rfl
  | d :: ds => by rw [List.map_cons, ← pyDs_map ds]; rfl
/-- a row and the empty row -/
theorem dq_nilL {neg : Bool} {ds : List D} {st : Sto} (h : ∀ d ∈ ds, plD d = true) (hd : ∀ d ∈ ds, dpD d ≤ 63) : dEq neg (.lst ds) (.lst []) st = .ok (.bl (neg ^^ ds.isEmpty)) st := by
  rw [dq_eqv (show plD (.lst ds) = true from plDs_all.mpr h) rfl (Nat.succ_le_succ (dpDs_all.mpr hd)) (by decide)]
  cases ds <;> rfl
theorem dq_nilT {neg : Bool} {ds : List D} {st : Sto} (h : ∀ d ∈ ds, plD d = true) (hd : ∀ d ∈ ds, dpD d ≤ 63) : dEq neg (.tup ds) (.tup []) st = .ok (.bl (neg ^^ ds.isEmpty)) st := by
  rw [dq_eqv (show plD (.tup ds) = true from plDs_all.mpr h) rfl (Nat.succ_le_succ (dpDs_all.mpr hd)) (by decide)]
  cases ds <;> rfl
theorem dq_nilR {neg : Bool} {n : Nat} {ds : List D} {st : Sto} (hn : st[n]? = some (.lst ds)) (h : ∀ d ∈ ds, plD d = true) (hd : ∀ d ∈ ds, dpD d ≤ 63) : dEq neg (.ref n) (.lst []) st = .ok (.bl (neg ^^ ds.isEmpty)) st := by
  have e : topPy (.ref n) st = some (.list (pyDs ds)) := by
    show (match st[n]? with | some (.lst ds) => (toPys ds).map PyData.list | _ => none) = _
    rw [hn]
    show (toPys ds).map PyData.list = _
    rw [(toPys_pl (plDs_all.mpr h)).1]
    rfl
  have s := shaped_pl (d := .lst ds) (plDs_all.mpr h) (Nat.succ_le_succ (dpDs_all.mpr hd))
  unfold dEq
  rw [e]
  show (if (SeqAt.shaped (pyD (.lst ds)) && SeqAt.shaped (PyData.list [])) = true then _ else _) = _
  rw [s]
  cases ds <;> rfl

/-! ### comprehensions that change nothing -/
theorem compL_map {α : Type} {tg : Tgt} {tt : DT} {te : DE} {τ : En} {st : Sto} (c : α → D) (g : α → En) (p : α → Bool) (f : α → D) {ns : List α} (hp : ∀ a ∈ ns, tg.put (c a) τ = some (g a))
    (ht : ∀ a ∈ ns, tt (g a) st = .ok (p a) st) (he : ∀ a ∈ ns, p a = true → te (g a) st = .ok (f a) st) (hl : ns.length ≤ sizeLine) :
    compL tg tt te τ (ns.map c) [] st = .ok ((ns.filter p).map f) st := by
  suffices h : ∀ (ns : List α) (acc : List D), (∀ a ∈ ns, tg.put (c a) τ = some (g a)) → (∀ a ∈ ns, tt (g a) st = .ok (p a) st) → (∀ a ∈ ns, p a = true → te (g a) st = .ok (f a) st) → acc.length + ns.length ≤ sizeLine →
      compL tg tt te τ (ns.map c) acc st = .ok (acc ++ (ns.filter p).map f) st from h ns [] hp ht he (by simpa using hl)
  intro ns
  induction ns with
  | nil => intro acc _ _ _ _; simp [compL]
  | cons a ns ih =>
    intro acc hp ht he hl
    have h1 := hp a List.mem_cons_self
    have h2 := ht a List.mem_cons_self
    have hp' := fun b hb => hp b (List.mem_cons_of_mem _ hb)
    have ht' := fun b hb => ht b (List.mem_cons_of_mem _ hb)
    have he' := fun b hb => he b (List.mem_cons_of_mem _ hb)
    rw [List.length_cons] at hl
    rw [List.map_cons]
    unfold compL
    rw [h1]
    dsimp only
    rw [h2]
    dsimp only
    cases hb : p a with
    | true =>
      rw [if_pos rfl, he a List.mem_cons_self hb]
      dsimp only
      rw [if_pos (by omega), ih (acc ++ [f a]) hp' ht' he' (by rw [List.length_append]; simp; omega), List.filter_cons_of_pos hb]
      simp
    | false =>
      rw [if_neg (by decide), ih acc hp' ht' he' (by omega), List.filter_cons_of_neg (by rw [hb]; decide)]
theorem rng_nat {lo hi : Int} : rng lo hi = (List.range (hi - lo).toNat).map fun (k : Nat) => D.int (lo + (k : Int)) := rfl
theorem filter_yes {α : Type} (l : List α) : l.filter (fun _ => true) = l := by simp

/-! ### steps -/
section
variable {t u : DS} {c : DT} {te : DE} {τ τ' : En} {st st' : Sto} {d : D} {i : Nat}
theorem seq_nx (h : t τ st = .ok (.nx, τ') st') : dSeq t u τ st = u τ' st' := by unfold dSeq; rw [h]
theorem seq_rt (h : t τ st = .ok (.rt d, τ') st') : dSeq t u τ st = .ok (.rt d, τ') st' := by unfold dSeq; rw [h]
theorem asg_nx (h : te τ st = .ok d st') : dAsg te (gN i) τ st = .ok (.nx, τ.set i (some d)) st' := by unfold dAsg; rw [h]; rfl
theorem ifs_t (h : c τ st = .ok true st') : dIfS c t u τ st = t τ st' := by unfold dIfS; rw [h]; rfl
theorem ifs_f (h : c τ st = .ok false st') : dIfS c t u τ st = u τ st' := by unfold dIfS; rw [h]; rfl
theorem for_eq {it : DI} {g : DG} {b : DS} {ds : List D} {r : R (Fl × En)} (hi : it τ st = .ok ds st') (h : forL g b ds τ st' = r) : dFor it g b τ st = r := by unfold dFor; rw [hi]; exact h
theorem ret_rt (h : te τ st = .ok d st') : dRet te τ st = .ok (.rt d, τ) st' := by unfold dRet; rw [h]
end
end DL

namespace DR
open PySem PySem.Spec PyProof.Rows L2 DL
/-- _law_draws(_law_script, _law_draws_here, _law_k, _law_cell, _law_turn, _law_mixed) -/
def d__law_draws_L1 : DS := dIfS (dTst (dBin (dGtI) (dVar 3) (dC (.int 0)))) (dSeq (dDrop (dBMT "list" mAppend (dVar 1) (dCons (dBin dMod (dVar 3) (dC (.int 1000))) (dNil)))) (dAsg (dBin dDiv (dVar 3) (dC (.int 1000))) (gN 3))) (dNext)
def d__law_draws_L2 : DS := dSeq (dAsg (dBin dMod (dApp cInt (dCons (dBin dAdd (dBin dAdd (dBin dMul (dVar 5) (dVar 5)) (dBin dMul (dVar 4) (dC (.int 7919)))) (dC (.int 17))) (dNil))) (dC (.int 2147483629))) (gN 5)) (dDrop (dBMT "list" mAppend (dVar 1) (dCons (dBin dMod (dVar 5) (dC (.int 1000))) (dNil))))
def d__law_draws_L3 : DS := dSeq (dAsg (dApp cAbs (dCons (dBin dIxA (dVar 0) (dVar 2)) (dNil))) (gN 3)) (dIfS (dTst (dBin (dGeI) (dVar 3) (dBin dPow (dC (.int 10)) (dC (.int 18))))) (dFor (iRng1D (dCons (dC (.int 20)) (dNil))) (gN 4) (d__law_draws_L1)) (dSeq (dAsg (dBin dMod (dApp cInt (dCons (dBin dAdd (dBin dAdd (dBin dMul (dBin dIxA (dVar 0) (dVar 2)) (dC (.int 48271))) (dBin dMul (dVar 2) (dC (.int 69621)))) (dC (.int 12345))) (dNil))) (dC (.int 2147483647))) (gN 5)) (dFor (iRng1D (dCons (dC (.int 3)) (dNil))) (gN 4) (d__law_draws_L2))))
def d__law_draws : DS := dSeq (dAsg (dNew (dNil)) (gN 1)) (dSeq (dFor (iRng1D (dCons (dApp cMin2 (dCons (dApp cLen (dCons (dVar 0) (dNil))) (dCons (dC (.int 63)) (dNil)))) (dNil))) (gN 2) (d__law_draws_L3)) (dRet (dVar 1)))
def F__law_draws : DF := dDef 6 1 (d__law_draws)
/-- _law_reader(_law_script, _law_row, _law_seed) -/
def d__law_reader (c__law_draws : DF) : DS := dSeq (dAsg (dApp c__law_draws (dCons (dVar 0) (dNil))) (gN 1)) (dSeq (dAsg (dC (.int 5)) (gN 2)) (dSeq (dIfS (dTst (dBin (dGtI) (dApp cLen (dCons (dVar 0) (dNil))) (dC (.int 0)))) (dAsg (dBin dMod (dApp cAbs (dCons (dBin dIxA (dVar 0) (dNeg (dC (.int 1)))) (dNil))) (dC (.int 1000003))) (gN 2)) (dNext)) (dRet (dDisp (dPCons (dC (.str "row")) (dVar 1) (dPCons (dC (.str "at")) (dC (.int 0)) (dPCons (dC (.str "seed")) (dVar 2) (dPNil))))))))
def F__law_reader (c__law_draws : DF) : DF := dDef 3 1 (d__law_reader c__law_draws)
/-- _law_next(_law_draws_here, _law_many, _law_at, _law_mixed) -/
def d__law_next : DS := dSeq (dAsg (dBin dIxA (dVar 0) (dC (.str "at"))) (gN 2)) (dSeq (dPutA (dVar 0) (dC (.str "at")) (dBin dAdd (dVar 2) (dC (.int 1)))) (dSeq (dIfS (dTst (dBin (dLtI) (dVar 2) (dApp cLen (dCons (dBin dIxA (dVar 0) (dC (.str "row"))) (dNil))))) (dRet (dBin dMod (dApp cInt (dCons (dBin dIxA (dBin dIxA (dVar 0) (dC (.str "row"))) (dVar 2)) (dNil))) (dVar 1))) (dNext)) (dSeq (dAsg (dBin dMod (dApp cInt (dCons (dBin dMul (dBin dAdd (dBin dAdd (dBin dIxA (dVar 0) (dC (.str "seed"))) (dBin dMul (dC (.int 17)) (dVar 2))) (dC (.int 3))) (dC (.int 48271))) (dNil))) (dC (.int 2147483647))) (gN 3)) (dRet (dBin dMod (dBin dDiv (dBin dMod (dApp cInt (dCons (dBin dAdd (dBin dMul (dVar 3) (dVar 3)) (dVar 2)) (dNil))) (dC (.int 2147483629))) (dC (.int 7))) (dVar 1))))))
def F__law_next : DF := dDef 4 2 (d__law_next)
/-- the reader -/
def rdOb (row : List Int) (at_ seed : Int) : Ob := .dK [(.inr "row", .lst (row.map .int)), (.inr "at", .int at_), (.inr "seed", .int seed)]
local macro_rules | `(tactic| walk_at "ev") => `(tactic| simp only [*, rdOb, dSeq, dAsg, dIfS, dRet, dRetN, dNext, dDrop, dVar, dC, dBin, dTst, dTru, dNotT, dAndT, dOrT, dAndV, dOrV, dNotV, dIf, dChain, dNil, dCons, dTup, dLst, dNew, dApp, dNeg, gN, R.bind, R.stm, R.tru, R.opt, R.fin, dPutA, sPutA, sPutK, dDisp, dPNil, dPCons, dFor, iRng1D,
  dIxA, dIx, dGetK, dicOf, DL.keyOf, seqOf, cLen, cAbs, cMin2, cMax2, cInt, cTuple, cIsi, tyNm, dLtI, dLeI, dGtI, dGeI, cmpI, opI2, dAdd, dSub, dMul, dDiv, dMod, dPow, dBMT, isT, mAppend, truD, List.getElem?_cons_zero, List.getElem?_cons_succ, List.set_cons_zero, List.set_cons_succ, if_true, if_false, Bool.false_eq_true, Option.isSome_some, Option.isSome_none, valD, putD, setD, mergeD,
  Sum.inr.injEq, ofStr_inj, String.reduceEq, sizeLine_eq, List.length_cons, List.length_nil, List.length_map, Nat.reduceAdd, Nat.reduceLT, Nat.reduceLeDiff, decide_true, decide_false, decide_eq_true_eq, Bool.and_eq_true, and_true, true_and, and_self, Int.reduceLT, Int.reduceLE, Int.reducePow, Int.reduceNeg, Bool.true_and, Bool.and_true, beq_self_eq_true, dInA, dIn, dq_int, dq_bl, dIs, flatD, inD, List.any_cons, List.any_nil, eqF, List.all_cons, List.all_nil, isTy, dComp, Int.cast_ofNat_Int, Int.natCast_zero, Int.natCast_one, Bool.true_or, Bool.or_true, Bool.false_or, Bool.or_false, Bool.not_true, Bool.not_false, Bool.true_xor, Bool.false_xor, Bool.xor_true, Bool.xor_false, Bool.false_and, Bool.and_false, String.reduceBEq, Bool.not_not, reduceCtorEq, Bool.true_eq_false, Bool.false_eq_true])
def nextV (row : List Int) (k : Nat) (seed m : Int) : Int := if (k : Int) < row.length then row.getD k 0 % m else
  ((seed + 17 * k + 3) * 48271 % 2147483647 * ((seed + 17 * k + 3) * 48271 % 2147483647) + k) % 2147483629 / 7 % m
theorem nextV_lt {row : List Int} {k : Nat} {seed m : Int} (hm : 0 < m) : 0 ≤ nextV row k seed m ∧ nextV row k seed m < m := by
  unfold nextV
  split
  · exact ⟨Int.emod_nonneg _ (by omega), Int.emod_lt_of_pos _ hm⟩
  · exact ⟨Int.emod_nonneg _ (by omega), Int.emod_lt_of_pos _ hm⟩
theorem next_eq {st : Sto} {n k : Nat} {row : List Int} {seed m : Int} (h : st[n]? = some (rdOb row k seed)) (hm : 0 < m) (hk : k ≤ 1000000000) (h0 : 0 ≤ seed) (h1 : seed < 1000003) :
    F__law_next [.ref n, .int m] st = .ok (.int (nextV row k seed m)) (st.set n (rdOb row (k + 1 : Nat) seed)) := by
  unfold F__law_next d__law_next
  have hs : ∀ o, (st.set n o)[n]? = some o := fun o => List.getElem?_set_self (List.getElem?_eq_some_iff.mp h).1
  have m1 : (17 : Int).natAbs.log2 + (k : Int).natAbs.log2 < 1000000 := mul_lt (by decide) (by omega)
  have m2 : (seed + 17 * (k : Int) + 3).natAbs.log2 + (48271 : Int).natAbs.log2 < 1000000 := mul_lt (by omega) (by decide)
  have m3 : ((seed + 17 * (k : Int) + 3) * 48271 % 2147483647).natAbs.log2 + ((seed + 17 * (k : Int) + 3) * 48271 % 2147483647).natAbs.log2 < 1000000 := mul_lt (by omega) (by omega)
  have m4 : (7 : Int).natAbs.log2 < 9000 := by decide
  refine (def_go rfl).trans ?_
  rw [show startD 4 [D.ref n, D.int m] = [some (.ref n), some (.int m), none, none] from rfl]
  rw [rdOb] at h
  unfold nextV
  rw [Int.natCast_add, Int.natCast_one]
  by_cases hc : (k : Int) < row.length
  · have ha := atI_map (ns := row) (k := k) (by omega)
    walk_at "ev"
  · walk_at "ev"

/-! ### the draws -/
theorem app_get {st : Sto} {o : Ob} : (st ++ [o])[st.length]? = some o := by simp
theorem app_set {st : Sto} {o o' : Ob} : (st ++ [o]).set st.length o' = st ++ [o'] := by simp
def Good (row : List Int) : Prop := ∀ x ∈ row, 0 ≤ x ∧ x < 1000
theorem Good.add {row : List Int} {x : Int} (h : Good row) (h1 : 0 ≤ x) (h2 : x < 1000) : Good (row ++ [x]) := fun y hy => by
  rcases List.mem_append.mp hy with z | z
  · exact h y z
  · rw [List.mem_singleton.mp z]; exact ⟨h1, h2⟩
theorem L1_inv {st : Sto} {a b e f : Option D} {row : List Int} {cell : Int} {ds : List D} (hds : ds.length ≤ 20) (hr : row.length ≤ 2000) (hg : Good row) (hc : 0 ≤ cell) :
    ∃ τ' st', forL (gN 4) d__law_draws_L1 ds [a, some (.ref st.length), b, some (.int cell), e, f] (st ++ [.lst (row.map .int)]) = .ok (.nx, τ') st' ∧
      ∃ cell e f row', τ' = [a, some (.ref st.length), b, some (.int cell), e, f] ∧ st' = st ++ [.lst ((row' : List Int).map .int)] ∧ row'.length ≤ row.length + 20 ∧ Good row' := by
  obtain ⟨τ', st', h1, h2⟩ := forN_inv (j := 4) (body := d__law_draws_L1) (ds := ds) (τ := [a, some (.ref st.length), b, some (.int cell), e, f]) (st := st ++ [.lst (row.map .int)])
    (fun i τ st' => ∃ cell e f row', τ = [a, some (.ref st.length), b, some (.int cell), e, f] ∧ st' = st ++ [.lst ((row' : List Int).map .int)] ∧ row'.length ≤ row.length + i ∧ Good row' ∧ 0 ≤ cell)
    ⟨cell, e, f, row, rfl, rfl, by omega, hg, hc⟩ (by
      rintro i d τ st' hd ⟨cell, e, f, row', rfl, rfl, hl, hg, hc⟩
      have hi : i < ds.length := (List.getElem?_eq_some_iff.mp hd).1
      unfold d__law_draws_L1
      have hl2 : row'.length < 16777216 := by omega
      have hdiv : (1000 : Int).natAbs.log2 < 9000 := by decide
      have ag := @app_get st
      have as := @app_set st
      by_cases hp : 0 < cell
      · refine ⟨.nx, [a, some (.ref st.length), b, some (.int (cell / 1000)), some d, f], st ++ [.lst ((row' ++ [cell % 1000]).map .int)], ?_, .inl rfl, cell / 1000, some d, f, row' ++ [cell % 1000], rfl, rfl, by simp; omega, hg.add (by omega) (by omega), by omega⟩
        rw [List.map_append]
        walk_at "ev"
        rfl
      · refine ⟨.nx, [a, some (.ref st.length), b, some (.int cell), some d, f], st ++ [.lst (row'.map .int)], ?_, .inl rfl, cell, some d, f, row', rfl, rfl, by omega, hg, hc⟩
        walk_at "ev")
  obtain ⟨cell, e, f, row', h3, h4, h5, h6, h7⟩ := h2
  exact ⟨τ', st', h1, cell, e, f, row', h3, h4, by omega, h6⟩
theorem L2_inv {st : Sto} {a b c e : Option D} {row : List Int} {mx : Int} (hr : row.length ≤ 2000) (hg : Good row) (h0 : 0 ≤ mx) (h1 : mx < 2147483648) :
    ∃ τ' st', forL (gN 4) d__law_draws_L2 (rng 0 3) [a, some (.ref st.length), b, c, e, some (.int mx)] (st ++ [.lst (row.map .int)]) = .ok (.nx, τ') st' ∧
      ∃ e f row', τ' = [a, some (.ref st.length), b, c, e, f] ∧ st' = st ++ [.lst ((row' : List Int).map .int)] ∧ row'.length ≤ row.length + 20 ∧ Good row' := by
  obtain ⟨τ', st', h1, h2⟩ := forN_inv (j := 4) (body := d__law_draws_L2) (ds := rng 0 3) (τ := [a, some (.ref st.length), b, c, e, some (.int mx)]) (st := st ++ [.lst (row.map .int)])
    (fun i τ st' => ∃ e mx row', τ = [a, some (.ref st.length), b, c, e, some (.int mx)] ∧ st' = st ++ [.lst ((row' : List Int).map .int)] ∧ row'.length ≤ row.length + i ∧ Good row' ∧ 0 ≤ mx ∧ mx < 2147483648)
    ⟨e, mx, row, rfl, rfl, by omega, hg, h0, h1⟩ (by
      rintro i d τ st' hd ⟨e, mx, row', rfl, rfl, hl, hg, h0, h1⟩
      have hi : i < 3 := by
        have := (List.getElem?_eq_some_iff.mp hd).1
        rw [rng_len] at this
        simpa using this
      have hd' : d = .int ((0 : Int) + (i : Int)) := by
        rw [rng_get (by simpa using hi)] at hd
        exact (Option.some.inj hd).symm
      subst hd'
      rw [Int.zero_add]
      unfold d__law_draws_L2
      have hl2 : row'.length < 16777216 := by omega
      have ag := @app_get st
      have as := @app_set st
      have m1 : mx.natAbs.log2 + mx.natAbs.log2 < 1000000 := mul_lt (by omega) (by omega)
      have m2 : (i : Int).natAbs.log2 + (7919 : Int).natAbs.log2 < 1000000 := mul_lt (by omega) (by omega)
      refine ⟨.nx, [a, some (.ref st.length), b, c, some (.int (i : Int)), some (.int ((mx * mx + (i : Int) * 7919 + 17) % 2147483629))], st ++ [.lst ((row' ++ [(mx * mx + (i : Int) * 7919 + 17) % 2147483629 % 1000]).map .int)], ?_, .inl rfl, _, _, row' ++ [(mx * mx + (i : Int) * 7919 + 17) % 2147483629 % 1000], rfl, rfl, by simp; omega, hg.add (by omega) (by omega), by omega, by omega⟩
      rw [List.map_append]
      walk_at "ev"
      rfl)
  obtain ⟨e, f, row', h3, h4, h5, h6, h7⟩ := h2
  rw [rng_len] at h5
  have h5 : row'.length ≤ row.length + 3 := h5
  exact ⟨τ', st', h1, e, some (.int f), row', h3, h4, by omega, h6⟩
theorem L3_inv {st : Sto} {ns : List Int} (hn : ns.length ≤ 63) {b c e f : Option D} :
    ∃ τ' st', forL (gN 2) d__law_draws_L3 (rng 0 ns.length) [some (.fro (ns.map .int)), some (.ref st.length), b, c, e, f] (st ++ [.lst []]) = .ok (.nx, τ') st' ∧
      ∃ b c e f row', τ' = [some (.fro (ns.map .int)), some (.ref st.length), b, c, e, f] ∧ st' = st ++ [.lst ((row' : List Int).map .int)] ∧ row'.length ≤ 2000 ∧ Good row' := by
  obtain ⟨τ', st', h1, h2⟩ := forN_inv (j := 2) (body := d__law_draws_L3) (ds := rng 0 ns.length) (τ := [some (.fro (ns.map .int)), some (.ref st.length), b, c, e, f]) (st := st ++ [.lst []])
    (fun i τ st' => ∃ b c e f row', τ = [some (.fro (ns.map .int)), some (.ref st.length), b, c, e, f] ∧ st' = st ++ [.lst ((row' : List Int).map .int)] ∧ row'.length ≤ 20 * i ∧ Good row')
    ⟨b, c, e, f, [], rfl, rfl, by simp, fun x hx => by cases hx⟩ (by
      rintro i d τ st' hd ⟨b, c, e, f, row, rfl, rfl, hl, hg⟩
      have hi : i < ns.length := by
        have := (List.getElem?_eq_some_iff.mp hd).1
        rw [rng_len] at this
        simpa using this
      have hd' : d = .int ((0 : Int) + (i : Int)) := by
        rw [rng_get (by simpa using hi)] at hd
        exact (Option.some.inj hd).symm
      subst hd'
      rw [Int.zero_add]
      unfold d__law_draws_L3
      have hat := atI_map hi
      generalize hz : ns.getD i 0 = z at hat
      have hp : (10 : Int) ^ (18 : Int).toNat = 1000000000000000000 := by decide
      have hp1 : ((10 : Int).natAbs < 2 ^ 64) := by decide
      by_cases hc : 1000000000000000000 ≤ (if z < 0 then -z else z)
      · obtain ⟨τ', st', h1, c', e', f', row', h2, h3, h4, h5⟩ := L1_inv (st := st) (a := some (.fro (ns.map .int))) (b := some (.int (i : Int))) (e := e) (f := f) (row := row) (cell := if z < 0 then -z else z) (ds := rng 0 20) (by rw [rng_len]; decide) (by omega) hg (by omega)
        refine ⟨.nx, τ', st', ?_, .inl rfl, _, _, _, _, row', h2, h3, by omega, h5⟩
        walk_at "ev"
      · have m1 : z.natAbs.log2 + (48271 : Int).natAbs.log2 < 1000000 := mul_lt (by split at hc <;> omega) (by decide)
        have m2 : (i : Int).natAbs.log2 + (69621 : Int).natAbs.log2 < 1000000 := mul_lt (by omega) (by decide)
        obtain ⟨τ', st', h1, e', f', row', h2, h3, h4, h5⟩ := L2_inv (st := st) (a := some (.fro (ns.map .int))) (b := some (.int (i : Int))) (c := some (.int (if z < 0 then -z else z))) (e := e) (row := row) (mx := (z * 48271 + (i : Int) * 69621 + 12345) % 2147483647) (by omega) hg (by omega) (by omega)
        refine ⟨.nx, τ', st', ?_, .inl rfl, _, _, _, _, row', h2, h3, by omega, h5⟩
        walk_at "ev")
  obtain ⟨b, c, e, f, row', h3, h4, h5, h6⟩ := h2
  rw [rng_len] at h5
  exact ⟨τ', st', h1, b, c, e, f, row', h3, h4, by omega, h6⟩
theorem wfs_ints (n : Nat) : ∀ row : List Int, wfs n (row.map D.int) = true
  | [] => rfl
  | _ :: r => by unfold wfs; rw [List.map_cons]; exact wfs_ints n r
theorem draws_eq {st : Sto} {ns : List Int} (hn : ns.length ≤ 63) : ∃ row, trimF F__law_draws [.fro (ns.map .int)] st = .ok (.lst (row.map .int)) st ∧ row.length ≤ 2000 ∧ Good row := by
  obtain ⟨τ', st', h1, b, c, e, f, row, rfl, rfl, h4, h5⟩ := L3_inv (st := st) hn (b := none) (c := none) (e := none) (f := none)
  refine ⟨row, trim_lst (k := st.length) (g := [.lst (row.map .int)]) ?_ rfl (Kept.refl st) (Nat.le_refl _) app_get (wfs_ints _ _), h4, h5⟩
  unfold F__law_draws d__law_draws
  refine (def_go rfl).trans ?_
  rw [show startD 6 [D.fro (ns.map .int)] = [some (D.fro (ns.map .int)), none, none, none, none, none] from rfl]
  have hm : (if (63 : Int) < (ns.length : Int) then (63 : Int) else (ns.length : Int)) = (ns.length : Int) := by rw [if_neg (by omega)]
  have hb : (-4611686018427387904 : Int) ≤ (ns.length : Int) ∧ (ns.length : Int) < 4611686018427387904 := by omega
  walk_at "ev"
/-! ### the reader -/
theorem reader_eq {st : Sto} {ns : List Int} (hn : ns.length ≤ 63) : ∃ row seed, F__law_reader (trimF F__law_draws) [.fro (ns.map .int)] st = .ok (.ref st.length) (st ++ [rdOb row 0 seed]) ∧ Good row ∧ 0 ≤ seed ∧ seed < 1000003 := by
  obtain ⟨row, hd, hl, hg⟩ := draws_eq (st := st) hn
  unfold F__law_reader d__law_reader
  have hs : startD 3 [D.fro (ns.map .int)] = [some (D.fro (ns.map .int)), none, none] := rfl
  by_cases h0 : 0 < ns.length
  · obtain ⟨z, hz, hat⟩ := atI_lastm h0
    refine ⟨row, (if z < 0 then -z else z) % 1000003, (def_go rfl).trans ?_, hg, by omega, by omega⟩
    have h0' : (0 : Int) < (ns.length : Int) := by omega
    rw [hs]
    walk_at "ev"
    rfl
  · refine ⟨row, 5, (def_go rfl).trans ?_, hg, by omega, by omega⟩
    have h0' : ¬ (0 : Int) < (ns.length : Int) := by omega
    rw [hs]
    walk_at "ev"
    rfl

/-- the reader stands at n -/
def Rd (st : Sto) (n : Nat) (b : Nat) : Prop := ∃ row k seed, st[n]? = some (rdOb row (k : Nat) seed) ∧ k ≤ b ∧ 0 ≤ seed ∧ seed < 1000003
theorem Rd.mono {st : Sto} {n a b : Nat} (h : Rd st n a) (l : a ≤ b) : Rd st n b := let ⟨row, k, seed, h1, h2, h3⟩ := h; ⟨row, k, seed, h1, by omega, h3⟩
theorem next_rd {st : Sto} {n b : Nat} {m : Int} (h : Rd st n b) (hb : b ≤ 1000000000) (hm : 0 < m) : ∃ v o, F__law_next [.ref n, .int m] st = .ok (.int v) (st.set n o) ∧ 0 ≤ v ∧ v < m ∧ Rd (st.set n o) n (b + 1) := by
  obtain ⟨row, k, seed, h1, h2, h3, h4⟩ := h
  refine ⟨_, _, next_eq h1 hm (by omega) h3 h4, (nextV_lt hm).1, (nextV_lt hm).2, row, k + 1, seed, List.getElem?_set_self (List.getElem?_eq_some_iff.mp h1).1, by omega, h3, h4⟩
theorem set_set {st : Sto} {n : Nat} {o o' : Ob} : (st.set n o).set n o' = st.set n o' := by simp
end DR

/-! DW1: what a run of a plain function gives, step by step (Wp), and its rules. -/
namespace DL
open PySem PySem.Spec PyProof.Rows L2

/-- the run ends well, with Q; or with an own exception, with E -/
def Wp {α : Type} (r : R α) (Q : α → Sto → Prop) (E : Exn → Sto → Prop) : Prop := match r with
  | .ok a st => Q a st
  | .exc x st => E x st
  | .bad => False
abbrev NoX : Exn → Sto → Prop := fun _ _ => False
section
variable {α β : Type} {r : R α} {Q Q' : α → Sto → Prop} {E E' : Exn → Sto → Prop} {st st' : Sto} {a : α}
theorem Wp.mono (h : Wp r Q E) (hq : ∀ a st, Q a st → Q' a st) (he : ∀ x st, E x st → E' x st) : Wp r Q' E' := by
  cases r with
  | ok a st => exact hq _ _ h
  | exc x st => exact he _ _ h
  | bad => exact h
theorem Wp.to (h : Wp r Q E) (hq : ∀ a st, Q a st → Q' a st) : Wp r Q' E := h.mono hq fun _ _ e => e
theorem Wp.toN (h : Wp r Q NoX) (hq : ∀ a st, Q a st → Q' a st) : Wp r Q' E := h.mono hq fun _ _ e => e.elim
theorem wp_ok (q : Q a st) : Wp (.ok a st) Q E := q
theorem wp_exc {x : Exn} (q : E x st) : Wp (.exc x st : R α) Q E := q
theorem wp_of (h : r = .ok a st) (q : Q a st) : Wp r Q E := by rw [h]; exact q
theorem wp_ofx {x : Exn} (h : r = .exc x st) (q : E x st) : Wp r Q E := by rw [h]; exact q
theorem wp_eq (h : Wp r (fun b st' => b = a ∧ st' = st) NoX) : r = .ok a st := by
  cases r with
  | ok b st' => obtain ⟨rfl, rfl⟩ := h; rfl
  | exc x st => exact h.elim
  | bad => exact h.elim
theorem wp_ex (h : Wp r Q NoX) : ∃ a st, r = .ok a st ∧ Q a st := by
  cases r with
  | ok b st' => exact ⟨b, st', rfl, h⟩
  | exc x st => exact h.elim
  | bad => exact h.elim
theorem wp_bind {k : α → Sto → R β} {Q : β → Sto → Prop} (h : Wp r (fun a st => Wp (k a st) Q E) E) : Wp (r.bind k) Q E := by
  cases r with
  | ok b st' => exact h
  | exc x st => exact h
  | bad => exact h
theorem wp_stm {τ : En} {k : α → Sto → R (Fl × En)} {Q : Fl × En → Sto → Prop} (h : Wp r (fun a st => Wp (k a st) Q E) (fun x st => Q (.ex x, τ) st)) : Wp (r.stm τ k) Q E := by
  cases r with
  | ok b st' => exact h
  | exc x st => exact h
  | bad => exact h
end
/-- a truth -/
def truK (Q : Bool → Sto → Prop) (d : D) (st : Sto) : Prop := match d with
  | .bl b => Q b st
  | _ => False
theorem truK_bl {Q : Bool → Sto → Prop} {b : Bool} {st : Sto} (h : Q b st) : truK Q (.bl b) st := h
theorem wp_tru {r : R D} {Q : Bool → Sto → Prop} {E : Exn → Sto → Prop} (h : Wp r (truK Q) E) : Wp r.tru Q E := by
  refine wp_bind (h.to fun d st q => ?_)
  cases d <;> first | exact q | exact q.elim
/-- a row that is not too long; a number -/
def lenK (ds : List D) (A : Prop) : Prop := ds.length ≤ 16777216 ∧ A
theorem lenK_mk {ds : List D} {A : Prop} (h : ds.length ≤ 16777216) (q : A) : lenK ds A := ⟨h, q⟩
def intK (Q : Int → Prop) (d : D) : Prop := match d with
  | .int i => Q i
  | _ => False
theorem intK_int {Q : Int → Prop} {i : Int} (h : Q i) : intK Q (.int i) := h
theorem intK.elim {Q : Int → Prop} {d : D} (h : intK Q d) : ∃ i, d = .int i ∧ Q i := by
  cases d with
  | int i => exact ⟨i, rfl, h⟩
  | _ => exact False.elim h
def keyK (Q : Key → Prop) (d : D) : Prop := match d with
  | .int i => Q (.inl i)
  | .str x => Q (.inr x)
  | _ => False
theorem keyK_i {Q : Key → Prop} {i : Int} (h : Q (.inl i)) : keyK Q (.int i) := h
theorem keyK_s {Q : Key → Prop} {x : Str} (h : Q (.inr x)) : keyK Q (.str x) := h
def dispK (Q : List (Key × D) → Prop) (kvs : List (Key × D)) : Prop := kvs.length ≤ 15 ∧ Q (mergeD kvs)
theorem dispK_mk {Q : List (Key × D) → Prop} {kvs kvs' : List (Key × D)} (h : kvs.length ≤ 15) (hm : mergeD kvs = kvs') (q : Q kvs') : dispK Q kvs := ⟨h, by rw [hm]; exact q⟩
/-- a thing of the type -/
def isK (T : String) (d : D) (st : Sto) (A : Prop) : Prop := isT T d st = true ∧ A
theorem isK_mk {T : String} {d : D} {st : Sto} {A : Prop} (h : isT T d st = true) (q : A) : isK T d st A := ⟨h, q⟩
/-- names behind stores -/
def Put (σ : En) (i : Nat) (x : Option D) (ρ : En) : Prop := σ.set i x = ρ
theorem put_0 {x y : Option D} {σ : En} : Put (x :: σ) 0 y (y :: σ) := rfl
theorem put_s {x y : Option D} {σ ρ : En} {n : Nat} (h : Put σ n y ρ) : Put (x :: σ) (n + 1) y (x :: ρ) := by
  unfold Put at *
  rw [List.set_cons_succ, h]
def SetTo (σ ρ : En) : Prop := σ = ρ
theorem setTo_set {σ τ ρ : En} {i : Nat} {x : Option D} (h : SetTo σ τ) (p : Put τ i x ρ) : SetTo (σ.set i x) ρ := by
  unfold Put SetTo at *
  rw [h, p]
theorem setTo_refl {σ : En} : SetTo σ σ := rfl
/-- what follows -/
def seqK (u : DS) (Q : Fl × En → Sto → Prop) (E : Exn → Sto → Prop) (r : Fl × En) (st : Sto) : Prop := match r with
  | (.nx, τ) => Wp (u τ st) Q E
  | r => Q r st
/-- behind a turn of a loop -/
def turnK (P : En → Sto → Prop) (Q : Fl × En → Sto → Prop) (r : Fl × En) (st : Sto) : Prop := match r with
  | (.nx, τ) => P τ st
  | (.ct, τ) => P τ st
  | (.bk, τ) => Q (.nx, τ) st
  | r => Q r st
/-- behind a def -/
def finK (Q : D → Sto → Prop) (E : Exn → Sto → Prop) (r : Fl × En) (st : Sto) : Prop := match r with
  | (.nx, _) => Q .non st
  | (.rt d, _) => Q d st
  | (.ex x, _) => E x st
  | _ => False
/-- it hands back -/
def rtK (Q : D → Sto → Prop) (r : Fl × En) (st : Sto) : Prop := match r with
  | (.rt d, _) => Q d st
  | _ => False
section
variable {Q : Fl × En → Sto → Prop} {E : Exn → Sto → Prop} {QD : D → Sto → Prop} {QB : Bool → Sto → Prop} {QA : List D → Sto → Prop} {P : En → Sto → Prop}
  {st : Sto} {τ τ' : En} {t u : DS} {c c' : DT} {te tf tg : DE} {ta : DA} {d : D} {x : Exn} {i : Nat} {r : D2}
theorem seqK_nx (h : SetTo τ τ') (q : Wp (u τ' st) Q E) : seqK u Q E (.nx, τ) st := by rw [show τ = τ' from h]; exact q
theorem seqK_rt (q : Q (.rt d, τ) st) : seqK u Q E (.rt d, τ) st := q
theorem seqK_bk (q : Q (.bk, τ) st) : seqK u Q E (.bk, τ) st := q
theorem seqK_ct (q : Q (.ct, τ) st) : seqK u Q E (.ct, τ) st := q
theorem seqK_ex (q : Q (.ex x, τ) st) : seqK u Q E (.ex x, τ) st := q
theorem turnK_nx (h : SetTo τ τ') (q : P τ' st) : turnK P Q (.nx, τ) st := by rw [show τ = τ' from h]; exact q
theorem turnK_ct (h : SetTo τ τ') (q : P τ' st) : turnK P Q (.ct, τ) st := by rw [show τ = τ' from h]; exact q
theorem turnK_bk (h : SetTo τ τ') (q : Q (.nx, τ') st) : turnK P Q (.bk, τ) st := by rw [show τ = τ' from h]; exact q
theorem turnK_rt (q : Q (.rt d, τ) st) : turnK P Q (.rt d, τ) st := q
theorem turnK_ex (q : Q (.ex x, τ) st) : turnK P Q (.ex x, τ) st := q
theorem rtK_mk (q : QD d st) : rtK QD (.rt d, τ) st := q
theorem wp_rtF {E' : Exn → Sto → Prop} (h : Wp (t τ st) (rtK QD) NoX) : Wp (t τ st) (finK QD E') E := h.mono (fun r st q => by
  obtain ⟨f, τ1⟩ := r
  cases f <;> first | exact q | exact False.elim q) fun _ _ e => e.elim
theorem wp_rtS {E' E2 : Exn → Sto → Prop} (h : Wp (t τ st) (rtK QD) NoX) : Wp (t τ st) (seqK u (finK QD E') E2) E := h.mono (fun r st q => by
  obtain ⟨f, τ1⟩ := r
  cases f <;> first | exact q | exact False.elim q) fun _ _ e => e.elim
theorem finK_nx (q : QD .non st) : finK QD E (.nx, τ) st := q
theorem finK_rt (q : QD d st) : finK QD E (.rt d, τ) st := q
theorem finK_ex (q : E x st) : finK QD E (.ex x, τ) st := q
theorem wp_seq (h : Wp (t τ st) (seqK u Q E) E) : Wp (dSeq t u τ st) Q E := by
  refine wp_bind (h.to fun r st q => ?_)
  obtain ⟨f, τ1⟩ := r
  cases f <;> exact q
theorem wp_fin' {r : R (Fl × En)} (h : Wp r (finK QD E) NoX) : Wp r.fin QD E := by
  cases r with
  | ok a st =>
    obtain ⟨f, τ1⟩ := a
    cases f <;> first | exact h | exact h.elim
  | exc x st => exact h.elim
  | bad => exact h
theorem wp_def {N n : Nat} {body : DS} {ds : List D} (hl : ds.length = n) (hτ : startD N ds = τ) (h : Wp (body τ st) (finK QD E) NoX) : Wp (dDef N n body ds st) QD E := by
  unfold dDef
  rw [if_pos hl, hτ]
  exact wp_fin' h
theorem wp_next (q : Q (.nx, τ) st) : Wp (dNext τ st) Q E := q
theorem wp_retN (q : Q (.rt .non, τ) st) : Wp (dRetN τ st) Q E := q
theorem wp_break (q : Q (.bk, τ) st) : Wp (dBreak τ st) Q E := q
theorem wp_cont (q : Q (.ct, τ) st) : Wp (dCont τ st) Q E := q
theorem wp_ret (h : Wp (te τ st) (fun d st => Q (.rt d, τ) st) (fun x st => Q (.ex x, τ) st)) : Wp (dRet te τ st) Q E := wp_stm (h.to fun _ _ q => q)
theorem wp_drop (h : Wp (te τ st) (fun _ st => Q (.nx, τ) st) (fun x st => Q (.ex x, τ) st)) : Wp (dDrop te τ st) Q E := wp_stm (h.to fun _ _ q => q)
theorem wp_ifs (h : Wp (c τ st) (fun b st => if b = true then Wp (t τ st) Q E else Wp (u τ st) Q E) (fun x st => Q (.ex x, τ) st)) : Wp (dIfS c t u τ st) Q E := by
  refine wp_stm (h.to fun b st q => ?_)
  cases b <;> exact q
theorem wp_asg (h : Wp (te τ st) (fun d st => Q (.nx, τ.set i (some d)) st) (fun x st => Q (.ex x, τ) st)) : Wp (dAsg te (gN i) τ st) Q E := wp_stm (h.to fun _ _ q => q)
theorem wp_asg_g {g : DG} (h : Wp (te τ st) (fun d st => Wp (g d τ st) (fun τ' st => Q (.nx, τ') st) (fun x st => Q (.ex x, τ) st)) (fun x st => Q (.ex x, τ) st)) : Wp (dAsg te g τ st) Q E :=
  wp_stm (h.to fun _ _ q => wp_stm q)
theorem wp_var (h : τ[i]? = some (some d)) (q : QD d st) : Wp (dVar i τ st) QD E := by unfold dVar; rw [h]; exact q
theorem wp_c (q : QD d st) : Wp (dC d τ st) QD E := q
theorem wp_bin (h : Wp (te τ st) (fun x st => Wp (tf τ st) (fun y st => Wp (r x y st) QD E) E) E) : Wp (dBin r te tf τ st) QD E := wp_bind (h.to fun _ _ q => wp_bind q)
theorem wp_tst (h : Wp (te τ st) (truK QB) E) : Wp (dTst te τ st) QB E := wp_tru h
theorem wp_truv (h : Wp (te τ st) (fun d st => Wp (R.opt (truD d st) st) QB E) E) : Wp (dTru te τ st) QB E := wp_bind h
theorem wp_opt {α : Type} {o : Option α} {a : α} {Q : α → Sto → Prop} (h : o = some a) (q : Q a st) : Wp (R.opt o st) Q E := by rw [h]; exact q
theorem wp_nott (h : Wp (c τ st) (fun b st => QB (!b) st) E) : Wp (dNotT c τ st) QB E := wp_bind h
theorem wp_andt (h : Wp (c τ st) (fun b st => if b = true then Wp (c' τ st) QB E else QB false st) E) : Wp (dAndT c c' τ st) QB E := by
  refine wp_bind (h.to fun b st q => ?_)
  cases b <;> exact q
theorem wp_ort (h : Wp (c τ st) (fun b st => if b = true then QB true st else Wp (c' τ st) QB E) E) : Wp (dOrT c c' τ st) QB E := by
  refine wp_bind (h.to fun b st q => ?_)
  cases b <;> exact q
theorem wp_andv (h : Wp (te τ st) (truK fun b st => if b = true then Wp (tf τ st) QD E else QD (.bl false) st) E) : Wp (dAndV te tf τ st) QD E := by
  refine wp_bind (wp_tru (h.to fun d st q => ?_))
  cases d with
  | bl b => cases b <;> exact q
  | _ => exact q.elim
theorem wp_orv (h : Wp (te τ st) (truK fun b st => if b = true then QD (.bl true) st else Wp (tf τ st) QD E) E) : Wp (dOrV te tf τ st) QD E := by
  refine wp_bind (wp_tru (h.to fun d st q => ?_))
  cases d with
  | bl b => cases b <;> exact q
  | _ => exact q.elim
theorem wp_notv (h : Wp (te τ st) (truK fun b st => QD (.bl (!b)) st) E) : Wp (dNotV te τ st) QD E := by
  refine wp_bind (wp_tru (h.to fun d st q => ?_))
  cases d <;> exact q
theorem wp_if (h : Wp (c τ st) (fun b st => if b = true then Wp (te τ st) QD E else Wp (tf τ st) QD E) E) : Wp (dIf c te tf τ st) QD E := by
  refine wp_bind (h.to fun b st q => ?_)
  cases b <;> exact q
theorem wp_chain {r' : D2} (h : Wp (te τ st) (fun x st => Wp (tf τ st) (fun y st => Wp (r x y st) (truK fun b st => if b = true then Wp (tg τ st) (fun z st => Wp (r' y z st) QD E) E else QD (.bl false) st) E) E) E) : Wp (dChain r r' te tf tg τ st) QD E := by
  refine wp_bind (h.to fun x st q => wp_bind (q.to fun y st q => wp_bind (wp_tru (q.to fun d st q => ?_))))
  cases d with
  | bl b =>
    cases b
    · exact q
    · exact wp_bind q
  | _ => exact q.elim
theorem wp_nil (q : QA [] st) : Wp (dNil τ st) QA E := q
theorem wp_cons (h : Wp (te τ st) (fun d st => Wp (ta τ st) (fun ds st => QA (d :: ds) st) E) E) : Wp (dCons te ta τ st) QA E := wp_bind (h.to fun _ _ q => wp_bind q)
theorem wp_tup (h : Wp (ta τ st) (fun ds st => lenK ds (QD (.tup ds) st)) E) : Wp (dTup ta τ st) QD E := wp_bind (h.to fun _ _ q => by rw [if_pos (by rw [sizeLine_eq]; exact q.1)]; exact q.2)
theorem wp_lst (h : Wp (ta τ st) (fun ds st => lenK ds (QD (.lst ds) st)) E) : Wp (dLst ta τ st) QD E := wp_bind (h.to fun _ _ q => by rw [if_pos (by rw [sizeLine_eq]; exact q.1)]; exact q.2)
theorem wp_new (h : Wp (ta τ st) (fun ds st => lenK ds (QD (.ref st.length) (st ++ [.lst ds]))) E) : Wp (dNew ta τ st) QD E := wp_bind (h.to fun _ _ q => by rw [if_pos (by rw [sizeLine_eq]; exact q.1)]; exact q.2)
theorem wp_app {F : DC} (h : Wp (ta τ st) (fun ds st => Wp (F ds st) QD E) E) : Wp (dApp F ta τ st) QD E := wp_bind h
theorem wp_neg (h : Wp (te τ st) (fun d st => intK (fun i => QD (.int (-i)) st) d) E) : Wp (dNeg te τ st) QD E := wp_bind (h.to fun _ _ z => by obtain ⟨i, e, q⟩ := z.elim; subst e; exact q)
theorem wp_disp {tp : DPs} {Q : D → Sto → Prop} (h : Wp (tp τ st) (fun kvs st => dispK (fun kvs => Q (.ref st.length) (st ++ [.dK kvs])) kvs) E) : Wp (dDisp tp τ st) Q E := wp_bind (h.to fun _ _ q => by rw [if_pos q.1]; exact q.2)
theorem wp_pnil {Q : List (Key × D) → Sto → Prop} (q : Q [] st) : Wp (dPNil τ st) Q E := q
theorem wp_pcons {tk tv : DE} {tp : DPs} {Q : List (Key × D) → Sto → Prop} (h : Wp (tk τ st) (fun k st => Wp (tv τ st) (fun v st => Wp (tp τ st) (fun r st => keyK (fun k => Q ((k, v) :: r) st) k) E) E) E) : Wp (dPCons tk tv tp τ st) Q E :=
  wp_bind (h.to fun k _ q => wp_bind (q.to fun v _ q => wp_bind (q.to fun r _ q => by
    cases k <;> first | exact q | exact False.elim q)))
theorem wp_dispE (q : QD (.ref st.length) (st ++ [.dK []])) : Wp (dDispE τ st) QD E := q
theorem wp_fld {f : Str} {cs : List Str} (h : Wp (te τ st) (fun d st => Wp (fldV f cs d st) QD E) E) : Wp (dFld f cs te τ st) QD E := wp_bind h
theorem wp_fldv {f c : Str} {cs : List Str} {n : Nat} {fs : List (Str × D)} (h : st[n]? = some (.ins c fs)) (hc : c ∈ cs) (hf : valD fs f = some d) (q : QD d st) : Wp (fldV f cs (.ref n) st) QD E := by
  unfold fldV
  dsimp only
  rw [h]
  dsimp only
  rw [if_pos hc, hf]
  exact q
theorem wp_sl {tl th : DO} (h : Wp (te τ st) (fun x st => Wp (tl τ st) (fun lo st => Wp (th τ st) (fun hi st => Wp (dCut x lo hi st) QD E) E) E) E) : Wp (dSl te tl th τ st) QD E := wp_bind (h.to fun _ _ q => wp_bind (q.to fun _ _ q => wp_bind q))
theorem wp_nopart {Q : Option Int → Sto → Prop} (q : Q none st) : Wp (dNoPart τ st) Q E := q
theorem wp_part {Q : Option Int → Sto → Prop} (h : Wp (te τ st) (fun d st => intK (fun i => Q (some i) st) d) E) : Wp (dPart te τ st) Q E := wp_bind (h.to fun _ _ z => by obtain ⟨i, e, q⟩ := z.elim; subst e; exact q)
theorem wp_bmt {T : String} {m : DM} (h : Wp (te τ st) (fun x st => isK T x st (Wp (ta τ st) (fun ds st => Wp (m x ds st) QD E) E)) E) : Wp (dBMT T m te ta τ st) QD E := wp_bind (h.to fun _ _ q => by rw [if_pos q.1]; exact wp_bind q.2)
theorem wp_puta {td ty tv : DE} (h : Wp (tv τ st) (fun v st => Wp (td τ st) (fun x st => Wp (ty τ st) (fun y st => Wp (sPutA x y v τ st) Q E) (fun x st => Q (.ex x, τ) st)) (fun x st => Q (.ex x, τ) st)) (fun x st => Q (.ex x, τ) st)) : Wp (dPutA td ty tv τ st) Q E :=
  wp_stm (h.to fun _ _ q => wp_stm (q.to fun _ _ q => wp_stm q))
theorem wp_flds {f : Str} {cs : List Str} {to tv : DE} (h : Wp (tv τ st) (fun v st => Wp (to τ st) (fun d st => Wp (setF f cs d v τ st) Q E) (fun x st => Q (.ex x, τ) st)) (fun x st => Q (.ex x, τ) st)) : Wp (dFldS f cs to tv τ st) Q E :=
  wp_stm (h.to fun _ _ q => wp_stm q)
theorem wp_aug {y : D} (hv : τ[i]? = some (some y)) (h : Wp (te τ st) (fun z st => Wp (r y z st) (fun w st => Q (.nx, τ.set i (some w)) st) (fun x st => Q (.ex x, τ) st)) (fun x st => Q (.ex x, τ) st)) : Wp (dAug i te r τ st) Q E := by
  unfold dAug
  rw [hv]
  exact wp_stm (h.to fun _ _ q => wp_stm q)
theorem wp_for {it : DI} {g : DG} (h : Wp (it τ st) (fun ds st => Wp (forL g t ds τ st) Q E) (fun x st => Q (.ex x, τ) st)) : Wp (dFor it g t τ st) Q E := wp_stm h
/-- a loop over one name by its invariant -/
theorem wp_forN {j : Nat} {ds : List D} (P : Nat → En → Sto → Prop) (h0 : P 0 τ st)
    (hs : ∀ i d τ st, ds[i]? = some d → P i τ st → Wp (t (τ.set j (some d)) st) (turnK (P (i + 1)) Q) E) (hq : ∀ τ st, P ds.length τ st → Q (.nx, τ) st) : Wp (forL (gN j) t ds τ st) Q E := by
  induction ds generalizing P τ st with
  | nil => exact hq _ _ h0
  | cons d ds ih =>
    show Wp ((t (τ.set j (some d)) st).turn _) Q E
    refine wp_bind ((hs 0 d τ st rfl h0).to fun r st q => ?_)
    obtain ⟨f, τ1⟩ := r
    have go : ∀ τ st, P 1 τ st → Wp (forL (gN j) t ds τ st) Q E := fun τ st p => ih (fun i => P (i + 1)) p (fun i d τ st hd hp => hs (i + 1) d τ st (by simpa using hd) hp) fun τ st p => hq τ st p
    cases f with
    | nx => exact go _ _ q
    | ct => exact go _ _ q
    | bk => exact q
    | rt d => exact q
    | ex x => exact q
theorem wp_forG {g : DG} {ds : List D} (P : Nat → En → Sto → Prop) (h0 : P 0 τ st)
    (hs : ∀ i d τ st, ds[i]? = some d → P i τ st → Wp (g d τ st) (fun τ st => Wp (t τ st) (turnK (P (i + 1)) Q) E) NoX) (hq : ∀ τ st, P ds.length τ st → Q (.nx, τ) st) : Wp (forL g t ds τ st) Q E := by
  induction ds generalizing P τ st with
  | nil => exact hq _ _ h0
  | cons d ds ih =>
    show Wp ((g d τ st).stm τ _) Q E
    refine wp_stm ((hs 0 d τ st rfl h0).mono (fun τ1 st q => wp_bind (q.to fun r st q => ?_)) fun _ _ e => e.elim)
    obtain ⟨f, τ1⟩ := r
    have go : ∀ τ st, P 1 τ st → Wp (forL g t ds τ st) Q E := fun τ st p => ih (fun i => P (i + 1)) p (fun i d τ st hd hp => hs (i + 1) d τ st (by simpa using hd) hp) fun τ st p => hq τ st p
    cases f with
    | nx => exact go _ _ q
    | ct => exact go _ _ q
    | bk => exact q
    | rt d => exact q
    | ex x => exact q
/-- a while by a measure -/
theorem wp_while {body : DS} (P : En → Sto → Prop) (μ : En → Sto → Nat) (h0 : P τ st) (hμ : μ τ st < 1000000000)
    (hs : ∀ τ st, P τ st → Wp (c τ st) (fun b st1 => if b = true then Wp (body τ st1) (turnK (fun τ2 st2 => P τ2 st2 ∧ μ τ2 st2 < μ τ st) Q) E else Q (.nx, τ) st1) (fun x st => Q (.ex x, τ) st)) : Wp (dWhile c body τ st) Q E := by
  unfold dWhile
  rw [show fuel = 1000000000 from rfl]
  generalize (1000000000 : Nat) = n at hμ ⊢
  induction n generalizing τ st with
  | zero => omega
  | succ n ih =>
    show Wp ((c τ st).stm τ _) Q E
    refine wp_stm ((hs τ st h0).to fun b st1 q => ?_)
    cases b with
    | false => exact q
    | true =>
      rw [if_pos rfl] at q ⊢
      refine wp_bind (q.to fun r st q => ?_)
      obtain ⟨f, τ1⟩ := r
      cases f with
      | nx => exact ih q.1 (by have := q.2; omega)
      | ct => exact ih q.1 (by have := q.2; omega)
      | bk => exact q
      | rt d => exact q
      | ex x => exact q
theorem wp_comp {it : DI} {tg : Tgt} {tt : DT} {te : DE} {vs : List Nat} {σ : En} (hw : wipeD τ vs = σ) (h : Wp (it τ st) (fun ds st => Wp (compL tg tt te σ ds [] st) (fun out st => QD (.lst out) st) E) E) : Wp (dComp it tg tt te vs τ st) QD E := by
  rw [← hw] at h
  exact wp_bind (h.to fun _ _ q => wp_bind q)
theorem wp_compN {it : DI} {tg : Tgt} {tt : DT} {te : DE} {vs : List Nat} {σ : En} (hw : wipeD τ vs = σ) (h : Wp (it τ st) (fun ds st => Wp (compL tg tt te σ ds [] st) (fun out st => QD (.ref st.length) (st ++ [.lst out])) E) E) : Wp (dCompN it tg tt te vs τ st) QD E := by
  rw [← hw] at h
  exact wp_bind (h.to fun _ _ q => wp_bind q)
/-- a comprehension by its invariant: how many items are behind, the row so far -/
theorem wp_compL {tg : Tgt} {tt : DT} {te : DE} {ds : List D} {Q : List D → Sto → Prop} (P : Nat → List D → Sto → Prop) (h0 : P 0 [] st) (hl : ds.length ≤ 16777216)
    (hs : ∀ i d acc st, ds[i]? = some d → P i acc st → ∃ τ1, tg.put d τ = some τ1 ∧ Wp (tt τ1 st) (fun b st => if b = true then Wp (te τ1 st) (fun y st => P (i + 1) (acc ++ [y]) st) NoX else P (i + 1) acc st) NoX)
    (hq : ∀ out st, P ds.length out st → Q out st) : Wp (compL tg tt te τ ds [] st) Q E := by
  suffices h : ∀ (ds : List D) (acc : List D) (st : Sto) (P : Nat → List D → Sto → Prop), acc.length + ds.length ≤ 16777216 → P 0 acc st →
      (∀ i d acc st, ds[i]? = some d → P i acc st → ∃ τ1, tg.put d τ = some τ1 ∧ Wp (tt τ1 st) (fun b st => if b = true then Wp (te τ1 st) (fun y st => P (i + 1) (acc ++ [y]) st) NoX else P (i + 1) acc st) NoX) →
      (∀ out st, P ds.length out st → Q out st) → Wp (compL tg tt te τ ds acc st) Q E from h ds [] st P (by simpa using hl) h0 hs hq
  intro ds
  induction ds with
  | nil => intro acc st P _ h0 _ hq; exact hq _ _ h0
  | cons d ds ih =>
    intro acc st P hl h0 hs hq
    obtain ⟨τ1, h1, h2⟩ := hs 0 d acc st rfl h0
    obtain ⟨b, st1, h3, h4⟩ := wp_ex h2
    unfold compL
    rw [h1]
    dsimp only
    rw [h3]
    dsimp only
    rw [List.length_cons] at hl
    cases b with
    | true =>
      rw [if_pos rfl] at h4 ⊢
      obtain ⟨y, st2, h5, h6⟩ := wp_ex h4
      rw [h5]
      dsimp only
      rw [if_pos (by rw [sizeLine_eq]; omega)]
      exact ih _ _ (fun i => P (i + 1)) (by rw [List.length_append]; simp; omega) h6 (fun i d acc st hd hp => hs (i + 1) d acc st (by simpa using hd) hp) hq
    | false =>
      rw [if_neg (by decide)] at h4 ⊢
      exact ih _ _ (fun i => P (i + 1)) (by omega) h4 (fun i d acc st hd hp => hs (i + 1) d acc st (by simpa using hd) hp) hq
end
end DL

/-! DW2: leaves: what the operations give. -/
namespace DL
open PySem PySem.Spec PyProof.Rows L2
section
variable {Q : D → Sto → Prop} {E : Exn → Sto → Prop} {st : Sto} {i j : Int} {a b : Str} {xs ys : List D} {d e x y : D} {n : Nat} {kvs : List (Key × D)}
/-- the arguments of range; a row -/
def rng1K (Q : Int → Prop) (ds : List D) : Prop := ∃ k, ds = [.int k] ∧ (-4611686018427387904 ≤ k ∧ k < 4611686018427387904) ∧ Q k
theorem rng1K_mk {Q : Int → Prop} {k : Int} (h : -4611686018427387904 ≤ k ∧ k < 4611686018427387904) (q : Q k) : rng1K Q [.int k] := ⟨k, rfl, h, q⟩
def rng2K (Q : Int → Int → Prop) (ds : List D) : Prop := ∃ l k, ds = [.int l, .int k] ∧ ((-4611686018427387904 ≤ l ∧ l < 4611686018427387904) ∧ (-4611686018427387904 ≤ k ∧ k < 4611686018427387904)) ∧ Q l k
theorem rng2K_mk {Q : Int → Int → Prop} {l k : Int} (h1 : -4611686018427387904 ≤ l ∧ l < 4611686018427387904) (h : -4611686018427387904 ≤ k ∧ k < 4611686018427387904) (q : Q l k) : rng2K Q [.int l, .int k] := ⟨l, k, rfl, ⟨h1, h⟩, q⟩
def rowK (Q : List D → Prop) (d : D) : Prop := match d with
  | .lst xs => Q xs
  | .tup xs => Q xs
  | .fro xs => Q xs
  | .str x => Q (x.cps.toList.map fun c => .str ⟨#[c]⟩)
  | _ => False
theorem rowK_l {Q : List D → Prop} {xs : List D} (h : Q xs) : rowK Q (.lst xs) := h
theorem rowK_t {Q : List D → Prop} {xs : List D} (h : Q xs) : rowK Q (.tup xs) := h
theorem rowK_f {Q : List D → Prop} {xs : List D} (h : Q xs) : rowK Q (.fro xs) := h
theorem rowK_s {Q : List D → Prop} {x : Str} (h : Q (x.cps.toList.map fun c => .str ⟨#[c]⟩)) : rowK Q (.str x) := h
/-- the store's objects -/
theorem get_set {o o' : Ob} (h : st[n]? = some o') : (st.set n o)[n]? = some o := List.getElem?_set_self (List.getElem?_eq_some_iff.mp h).1
theorem get_ne {o : Ob} {m : Nat} {z : Option Ob} (hn : n ≠ m) (h : st[m]? = z) : (st.set n o)[m]? = z := by rw [List.getElem?_set_ne hn]; exact h
theorem get_new {o : Ob} : (st ++ [o])[st.length]? = some o := by simp
theorem get_old {o o' : Ob} {m : Nat} (h : st[m]? = some o') : (st ++ [o])[m]? = some o' := by rw [List.getElem?_append_left (List.getElem?_eq_some_iff.mp h).1]; exact h
theorem get_lt {o : Ob} {m : Nat} (h : st[m]? = some o) : m < st.length := (List.getElem?_eq_some_iff.mp h).1
theorem wq_add (q : Q (.int (i + j)) st) : Wp (dAdd (.int i) (.int j) st) Q E := q
theorem wq_adds (h : a.length + b.length ≤ 16777216) (q : Q (.str (a ++ b)) st) : Wp (dAdd (.str a) (.str b) st) Q E := by
  show Wp (if a.length + b.length ≤ sizeLine then _ else _) Q E
  rw [if_pos (by rw [sizeLine_eq]; exact h)]; exact q
theorem wq_addt (h : xs.length + ys.length ≤ 16777216) (q : Q (.tup (xs ++ ys)) st) : Wp (dAdd (.tup xs) (.tup ys) st) Q E := by
  show Wp (if xs.length + ys.length ≤ sizeLine then _ else _) Q E
  rw [if_pos (by rw [sizeLine_eq]; exact h)]; exact q
theorem wq_addl (h : xs.length + ys.length ≤ 16777216) (q : Q (.lst (xs ++ ys)) st) : Wp (dAdd (.lst xs) (.lst ys) st) Q E := by
  show Wp (if xs.length + ys.length ≤ sizeLine then _ else _) Q E
  rw [if_pos (by rw [sizeLine_eq]; exact h)]; exact q
theorem wq_addi (q : Q (.int (i + j)) st) : Wp (dAddI (.int i) (.int j) st) Q E := q
theorem wq_sub (q : Q (.int (i - j)) st) : Wp (dSub (.int i) (.int j) st) Q E := q
theorem wq_mul (h : i.natAbs.log2 + j.natAbs.log2 < 1000000) (q : Q (.int (i * j)) st) : Wp (dMul (.int i) (.int j) st) Q E := by
  show Wp (if decide (i.natAbs.log2 + j.natAbs.log2 < 1000000) = true then _ else _) Q E
  rw [if_pos (decide_eq_true h)]; exact q
theorem wq_mulS (h1 : i.natAbs < 2 ^ 64) (h2 : j.natAbs < 2 ^ 64) (q : Q (.int (i * j)) st) : Wp (dMul (.int i) (.int j) st) Q E := wq_mul (mul_lt h1 h2) q
theorem wq_div (h : 0 < j) (h2 : j.natAbs < 2 ^ 64) (q : Q (.int (i / j)) st) : Wp (dDiv (.int i) (.int j) st) Q E := by
  show Wp (if (decide (0 < j) && decide (j.natAbs.log2 < 9000)) = true then _ else _) Q E
  have := log2_small h2
  rw [if_pos (by rw [decide_eq_true h, decide_eq_true (by omega)]; rfl)]; exact q
theorem wq_mod (h : 0 < j) (q : Q (.int (i % j)) st) : Wp (dMod (.int i) (.int j) st) Q E := by
  show Wp (if decide (0 < j) = true then _ else _) Q E
  rw [if_pos (decide_eq_true h)]; exact q
theorem wq_lt (q : Q (.bl (decide (i < j))) st) : Wp (dLtI (.int i) (.int j) st) Q E := q
theorem wq_le (q : Q (.bl (decide (i ≤ j))) st) : Wp (dLeI (.int i) (.int j) st) Q E := q
theorem wq_gt (q : Q (.bl (decide (j < i))) st) : Wp (dGtI (.int i) (.int j) st) Q E := q
theorem wq_ge (q : Q (.bl (decide (j ≤ i))) st) : Wp (dGeI (.int i) (.int j) st) Q E := q
theorem wq_eqi (q : Q (.bl (decide (i = j))) st) : Wp (dEq false (.int i) (.int j) st) Q E := wp_of dq_int (by rw [Bool.false_xor]; exact q)
theorem wq_nei (q : Q (.bl (!decide (i = j))) st) : Wp (dEq true (.int i) (.int j) st) Q E := wp_of dq_int (by rw [Bool.true_xor]; exact q)
theorem wq_eqs (ha : PyData.strOk a = true) (hb : PyData.strOk b = true) (q : Q (.bl (decide (a = b))) st) : Wp (dEq false (.str a) (.str b) st) Q E := wp_of (dq_str ha hb) (by rw [Bool.false_xor]; exact q)
theorem wq_nes (ha : PyData.strOk a = true) (hb : PyData.strOk b = true) (q : Q (.bl (!decide (a = b))) st) : Wp (dEq true (.str a) (.str b) st) Q E := wp_of (dq_str ha hb) (by rw [Bool.true_xor]; exact q)
theorem wq_eqp (ha : plD d = true) (hb : plD e = true) (da : dpD d ≤ 64) (db : dpD e ≤ 64) (q : Q (.bl (eqvD d e)) st) : Wp (dEq false d e st) Q E := wp_of (dq_eqv ha hb da db) (by rw [Bool.false_xor]; exact q)
theorem wq_nep (ha : plD d = true) (hb : plD e = true) (da : dpD d ≤ 64) (db : dpD e ≤ 64) (q : Q (.bl (!eqvD d e)) st) : Wp (dEq true d e st) Q E := wp_of (dq_eqv ha hb da db) (by rw [Bool.true_xor]; exact q)
theorem wq_ixt (h : atI xs i = some d) (q : Q d st) : Wp (dIxA (.tup xs) (.int i) st) Q E := by
  show Wp (match atI xs i with | some d => R.ok d st | none => .bad) Q E
  rw [h]; exact q
theorem wq_ixl (h : atI xs i = some d) (q : Q d st) : Wp (dIxA (.lst xs) (.int i) st) Q E := by
  show Wp (match atI xs i with | some d => R.ok d st | none => .bad) Q E
  rw [h]; exact q
theorem wq_ixf (h : atI xs i = some d) (q : Q d st) : Wp (dIxA (.fro xs) (.int i) st) Q E := by
  show Wp (match atI xs i with | some d => R.ok d st | none => .bad) Q E
  rw [h]; exact q
theorem wq_ixs {c : Nat} (hl : a.length ≤ 16777216) (h : atI a.cps.toList i = some c) (q : Q (.str ⟨#[c]⟩) st) : Wp (dIxA (.str a) (.int i) st) Q E := by
  show Wp (if a.length ≤ sizeLine then (match atI a.cps.toList i with | some c => R.ok (.str ⟨#[c]⟩) st | none => .bad) else .bad) Q E
  rw [if_pos (by rw [sizeLine_eq]; exact hl), h]; exact q
theorem wq_ixr (hn : st[n]? = some (.lst xs)) (h : atI xs i = some d) (q : Q d st) : Wp (dIxA (.ref n) (.int i) st) Q E := by
  unfold dIxA dicOf dIx seqOf
  simp only [hn]
  rw [h]; exact q
theorem wq_ixk {k : Key} (hn : st[n]? = some (.dK kvs)) (hk : keyOf y = some k) (h : valD kvs k = some d) (q : Q d st) : Wp (dIxA (.ref n) y st) Q E := by
  unfold dIxA dGetK dicOf
  simp only [hn, hk, h]
  exact q
theorem wq_ixd {k : Key} (hk : keyOf y = some k) (h : valD kvs k = some d) (q : Q d st) : Wp (dIxA (.dic kvs) y st) Q E := by
  unfold dIxA dGetK dicOf
  simp only [hk, h]
  exact q
theorem wq_ink {k : Key} (hn : st[n]? = some (.dK kvs)) (hk : keyOf y = some k) (q : Q (.bl (valD kvs k).isSome) st) : Wp (dInA false y (.ref n) st) Q E := by
  unfold dInA dInK dicOf
  simp only [hn, hk, Option.isSome_some, if_true, Bool.false_xor]
  exact q
theorem wq_nink {k : Key} (hn : st[n]? = some (.dK kvs)) (hk : keyOf y = some k) (q : Q (.bl !(valD kvs k).isSome) st) : Wp (dInA true y (.ref n) st) Q E := by
  unfold dInA dInK dicOf
  simp only [hn, hk, Option.isSome_some, if_true, Bool.true_xor]
  exact q
theorem wq_int (q : Q (.int i) st) : Wp (cInt [.int i] st) Q E := q
theorem wq_intb {b : Bool} (q : Q (.int (if b then 1 else 0)) st) : Wp (cInt [.bl b] st) Q E := q
theorem wq_abs (q : Q (.int (if i < 0 then -i else i)) st) : Wp (cAbs [.int i] st) Q E := q
theorem wq_lent (q : Q (.int xs.length) st) : Wp (cLen [.tup xs] st) Q E := q
theorem wq_lenl (q : Q (.int xs.length) st) : Wp (cLen [.lst xs] st) Q E := q
theorem wq_lenf (q : Q (.int xs.length) st) : Wp (cLen [.fro xs] st) Q E := q
theorem wq_lens (h : a.length ≤ 16777216) (q : Q (.int a.length) st) : Wp (cLen [.str a] st) Q E := by
  show Wp (if a.length ≤ sizeLine then _ else _) Q E
  rw [if_pos (by rw [sizeLine_eq]; exact h)]; exact q
theorem wq_lenr (h : st[n]? = some (.lst xs)) (q : Q (.int xs.length) st) : Wp (cLen [.ref n] st) Q E := by
  unfold cLen seqOf
  simp only [h]
  exact q
theorem wq_lenk (h : st[n]? = some (.dK kvs)) (q : Q (.int kvs.length) st) : Wp (cLen [.ref n] st) Q E := by
  unfold cLen seqOf dicOf
  simp only [h]
  exact q
theorem wq_tupl (q : Q (.tup xs) st) : Wp (cTuple [.lst xs] st) Q E := q
theorem wq_tupt (q : Q (.tup xs) st) : Wp (cTuple [.tup xs] st) Q E := q
theorem wq_tupr (h : st[n]? = some (.lst xs)) (q : Q (.tup xs) st) : Wp (cTuple [.ref n] st) Q E := by
  unfold cTuple seqOf
  simp only [h]
  exact q
theorem wq_listt (q : Q (.lst xs) st) : Wp (cList [.tup xs] st) Q E := q
theorem wq_all {bs : List Bool} (h : boolsOf xs = some bs) (q : Q (.bl (bs.all id)) st) : Wp (cAll1 [.lst xs] st) Q E := by
  show Wp (match (boolsOf xs).map fun ns => D.bl (ns.all id) with | some v => R.ok v st | none => .bad) Q E
  rw [h]; exact q
theorem wq_any {bs : List Bool} (h : boolsOf xs = some bs) (q : Q (.bl (bs.any id)) st) : Wp (cAny1 [.lst xs] st) Q E := by
  show Wp (match (boolsOf xs).map fun ns => D.bl (ns.any id) with | some v => R.ok v st | none => .bad) Q E
  rw [h]; exact q
theorem wq_sum {ns : List Int} (h : intsOf xs = some ns) (q : Q (.int ns.sum) st) : Wp (cSum1 [.lst xs] st) Q E := by
  show Wp (match (intsOf xs).map fun ns => D.int ns.sum with | some v => R.ok v st | none => .bad) Q E
  rw [h]; exact q
theorem wq_append (h : st[n]? = some (.lst xs)) (hl : xs.length < 16777216) (q : Q .non (st.set n (.lst (xs ++ [d])))) : Wp (mAppend (.ref n) [d] st) Q E := by
  unfold mAppend
  simp only [h]
  rw [if_pos (by rw [sizeLine_eq]; exact hl)]
  exact q
theorem wq_tyr {ty : String} (h : st[n]? = some (.lst xs)) : isT "list" (.ref n) st = true := by
  unfold isT
  simp only [h]
  rfl
theorem wq_isi {T m : String} (h : tyNm d st = some m) (q : Q (.bl (isTy T m)) st) : Wp (cIsi T [d, .raw (.ty T)] st) Q E := by
  show Wp (if T = T then (match tyNm d st with | some n => R.ok (.bl (isTy T n)) st | none => .bad) else .bad) Q E
  rw [if_pos rfl, h]; exact q
theorem wq_rng1 {QI : List D → Sto → Prop} {τ : En} {ta : DA} (h : Wp (ta τ st) (fun ds st => rng1K (fun k => QI (rng 0 k) st) ds) E) : Wp (iRng1D ta τ st) QI E :=
  wp_bind (h.to fun ds st ⟨k, e, hk, q⟩ => by subst e; show Wp (if -(2 ^ 62) ≤ k ∧ k < 2 ^ 62 then _ else _) QI E; rw [if_pos (by omega)]; exact q)
theorem wq_rng2 {QI : List D → Sto → Prop} {τ : En} {ta : DA} (h : Wp (ta τ st) (fun ds st => rng2K (fun l k => QI (rng l k) st) ds) E) : Wp (iRng2D ta τ st) QI E :=
  wp_bind (h.to fun ds st ⟨l, k, e, hk, q⟩ => by subst e; show Wp (if (-(2 ^ 62) ≤ l ∧ l < 2 ^ 62) ∧ (-(2 ^ 62) ≤ k ∧ k < 2 ^ 62) then _ else _) QI E; rw [if_pos (by omega)]; exact q)
theorem wq_iany {QI : List D → Sto → Prop} {τ : En} {te : DE} (h : Wp (te τ st) (fun d st => rowK (fun xs => QI xs st) d) E) : Wp (iAny te τ st) QI E :=
  wp_bind (h.to fun d st q => by
    cases d <;> first | exact q | exact False.elim q)
theorem wq_putk {Q : Fl × En → Sto → Prop} {τ : En} {k : Key} (hn : st[n]? = some (.dK kvs)) (hk : keyOf y = some k) (hl : kvs.length < 16777216) {kvs' : List (Key × D)} (hp : putD kvs k x = kvs') (q : Q (.nx, τ) (st.set n (.dK kvs'))) : Wp (sPutA (.ref n) y x τ st) Q E := by
  rw [← hp] at q
  unfold sPutA sPutK dicOf
  simp only [hn, hk, Option.isSome_some, if_true]
  rw [if_pos (by rw [sizeLine_eq]; exact hl)]
  exact q
theorem wq_putl {Q : Fl × En → Sto → Prop} {τ : En} {m : Nat} (hn : st[n]? = some (.lst xs)) (hk : ixN xs.length i = some m) (q : Q (.nx, τ) (st.set n (.lst (xs.set m x)))) : Wp (sPutA (.ref n) (.int i) x τ st) Q E := by
  unfold sPutA sSetL dicOf
  simp only [hn, hk, Option.isSome_none]
  exact q
/-- a method; a new object; a key that is dropped -/
def methK (c m : Str) (F : DF) (t : DA) (τ : En) (Q : D → Sto → Prop) (E : Exn → Sto → Prop) (d : D) (st : Sto) : Prop :=
  ∃ n fs, d = .ref n ∧ st[n]? = some (.ins c fs) ∧ valD fs m = none ∧ Wp (t τ st) (fun ds st => Wp (F (.ref n :: ds) st) Q E) E
theorem methK_mk {c m : Str} {F : DF} {t : DA} {τ : En} {fs : List (Str × D)} (h : st[n]? = some (.ins c fs)) (hf : valD fs m = none) (q : Wp (t τ st) (fun ds st => Wp (F (.ref n :: ds) st) Q E) E) : methK c m F t τ Q E (.ref n) st := ⟨n, fs, rfl, h, hf, q⟩
theorem wp_meth {c m : Str} {F : DF} {to : DE} {t : DA} {τ : En} (h : Wp (to τ st) (methK c m F t τ Q E) E) : Wp (dMeth c m F to t τ st) Q E :=
  wp_bind (h.to fun d st ⟨n, fs, e, h1, h2, q⟩ => by
    subst e
    dsimp only
    rw [h1]
    dsimp only
    rw [if_pos ⟨rfl, h2⟩]
    exact wp_bind q)
theorem wp_make {c : Str} {F : DF} {t : DA} {τ : En} (h : Wp (t τ st) (fun ds st => Wp (F (.ref st.length :: ds) (st ++ [.ins c []])) (fun r st' => r = .non ∧ Q (.ref st.length) st') E) E) : Wp (dMake c F t τ st) Q E :=
  wp_bind (h.to fun ds st q => wp_bind (q.to fun r st' ⟨e, q⟩ => by subst e; exact q))
def popK (Q : D → Sto → Prop) (x y : D) (st : Sto) : Prop := ∃ n kvs k v, x = .ref n ∧ st[n]? = some (.dK kvs) ∧ keyOf y = some k ∧ valD kvs k = some v ∧ Q v (st.set n (.dK (dropD kvs k)))
theorem popK_mk {k : Key} {v : D} (h : st[n]? = some (.dK kvs)) (hk : keyOf y = some k) (hv : valD kvs k = some v) (q : Q v (st.set n (.dK (dropD kvs k)))) : popK Q (.ref n) y st := ⟨n, kvs, k, v, rfl, h, hk, hv, q⟩
theorem if_t {A B : Prop} (h : A) : if true = true then A else B := by rw [if_pos rfl]; exact h
theorem if_f {A B : Prop} (h : B) : if false = true then A else B := by rw [if_neg (by decide)]; exact h
theorem if_nt {A B : Prop} (h : B) : if (!true) = true then A else B := if_f h
theorem if_nf {A B : Prop} (h : A) : if (!false) = true then A else B := if_t h
theorem if_dec {A B p : Prop} [Decidable p] (h1 : p → A) (h2 : ¬p → B) : if decide p = true then A else B := by
  by_cases h : p
  · rw [if_pos (decide_eq_true h)]; exact h1 h
  · rw [if_neg (by rw [decide_eq_false h]; decide)]; exact h2 h
theorem if_ndec {A B p : Prop} [Decidable p] (h1 : ¬p → A) (h2 : p → B) : if (!decide p) = true then A else B := by
  by_cases h : p
  · rw [if_neg (by rw [decide_eq_true h]; decide)]; exact h2 h
  · rw [if_pos (by rw [decide_eq_false h]; rfl)]; exact h1 h
theorem if_b {A B : Prop} {b : Bool} (h1 : b = true → A) (h2 : b = false → B) : if b = true then A else B := by
  cases b
  · exact if_f (h2 rfl)
  · exact if_t (h1 rfl)
theorem if_nb {A B : Prop} {b : Bool} (h1 : b = false → A) (h2 : b = true → B) : if (!b) = true then A else B := by
  cases b
  · exact if_t (h1 rfl)
  · exact if_f (h2 rfl)
end
end DL

namespace K85
open PySem PySem.Spec PyProof.Rows L2 DL

/-- Heap.__init__(self, allocator) -/
def d_Heap___init__ : DS := dSeq (dAsg (dVar 1) (gTupX 2 (gxCons (gFld "_policy" ["Heap"] (dVar 0)) (gxCons (gFld "_unit" ["Heap"] (dVar 0)) (gxNil))))) (dSeq (dFldS "_sizes" ["Heap"] (dVar 0) (dDispE)) (dSeq (dFldS "_pieces" ["Heap"] (dVar 0) (dLst (dNil))) (dSeq (dFldS "_top" ["Heap"] (dVar 0) (dC (.int 1))) (dFldS "_last" ["Heap"] (dVar 0) (dC (.int 1))))))
def F_Heap___init__ : DF := dDef 2 2 (d_Heap___init__)
/-- Heap.blocks(self, address) -/
def d_Heap_blocks_C1 : DE := dTup (dCons (dVar 1) (dCons (dBin dIxA (dFld "_sizes" ["Heap"] (dVar 0)) (dVar 1)) (dNil)))
def d_Heap_blocks : DS := dRet (dApp cTuple (dCons (dComp (iAny (dApp cSorted (dCons (dFld "_sizes" ["Heap"] (dVar 0)) (dNil)))) (.one 1) (dYes) (d_Heap_blocks_C1) [1]) (dNil)))
def F_Heap_blocks : DF := dDef 2 1 (d_Heap_blocks)
/-- Heap.pieces(self) -/
def d_Heap_pieces : DS := dRet (dApp cTuple (dCons (dFld "_pieces" ["Heap"] (dVar 0)) (dNil)))
def F_Heap_pieces : DF := dDef 1 1 (d_Heap_pieces)
/-- Heap.top(self) -/
def d_Heap_top : DS := dRet (dFld "_top" ["Heap"] (dVar 0))
def F_Heap_top : DF := dDef 1 1 (d_Heap_top)
/-- Heap.size(self, address) -/
def d_Heap_size : DS := dRet (dGet2 (dFld "_sizes" ["Heap"] (dVar 0)) (dVar 1) (dC (.int 0)))
def F_Heap_size : DF := dDef 2 2 (d_Heap_size)
/-- Heap.take(self, many, size, at, address, room, rest) -/
def d_Heap_take_B1 (c_Heap_chosen : DF) : DS := dSeq (dAsg (dFld "_top" ["Heap"] (dVar 0)) (gN 4)) (dFldAug "_top" ["Heap"] (dVar 0) (dVar 2) dAddI)
def d_Heap_take_B2 (c_Heap_chosen : DF) : DS := dSeq (dAsg (dBin dIxA (dFld "_pieces" ["Heap"] (dVar 0)) (dVar 3)) (gTupN [4, 5])) (dSeq (dAsg (dLst (dCons (dTup (dCons (dBin dAdd (dVar 4) (dVar 2)) (dCons (dBin dSub (dVar 5) (dVar 2)) (dNil)))) (dNil))) (gN 6)) (dSeq (dIfS (dTst (dBin (dEq false) (dVar 5) (dVar 2))) (dAsg (dLst (dNil)) (gN 6)) (dNext)) (dFldS "_pieces" ["Heap"] (dVar 0) (dBin dAdd (dBin dAdd (dSl (dFld "_pieces" ["Heap"] (dVar 0)) (dNoPart) (dPart (dVar 3))) (dVar 6)) (dSl (dFld "_pieces" ["Heap"] (dVar 0)) (dPart (dBin dAdd (dVar 3) (dC (.int 1)))) (dNoPart))))))
def d_Heap_take_R1 (c_Heap_chosen : DF) : DS := dSeq (dPutA (dFld "_sizes" ["Heap"] (dVar 0)) (dVar 4) (dVar 2)) (dSeq (dFldS "_last" ["Heap"] (dVar 0) (dBin dAdd (dVar 4) (dVar 2))) (dRet (dVar 4)))
def d_Heap_take (c_Heap_chosen : DF) : DS := dSeq (dAsg (dBin dMul (dBin dDiv (dBin dSub (dBin dAdd (dApp cMax2 (dCons (dC (.int 1)) (dCons (dVar 1) (dNil)))) (dFld "_unit" ["Heap"] (dVar 0))) (dC (.int 1))) (dFld "_unit" ["Heap"] (dVar 0))) (dFld "_unit" ["Heap"] (dVar 0))) (gN 2)) (dSeq (dAsg (dMeth "Heap" "chosen" c_Heap_chosen (dVar 0) (dCons (dVar 2) (dNil))) (gN 3)) (dSeq (dIfS (dTst (dBin (dLtI) (dVar 3) (dC (.int 0)))) (d_Heap_take_B1 c_Heap_chosen) (d_Heap_take_B2 c_Heap_chosen)) (d_Heap_take_R1 c_Heap_chosen)))
def F_Heap_take (c_Heap_chosen : DF) : DF := dDef 7 2 (d_Heap_take c_Heap_chosen)
/-- Heap.chosen(self, size, fitting, at, least, behind) -/
def d_Heap_chosen_C1 : DE := dVar 3
def d_Heap_chosen_Q1 : DT := dTst (dBin (dGeI) (dBin dIxA (dBin dIxA (dFld "_pieces" ["Heap"] (dVar 0)) (dVar 3)) (dC (.int 1))) (dVar 1))
def d_Heap_chosen_C2 : DE := dBin dIxA (dBin dIxA (dFld "_pieces" ["Heap"] (dVar 0)) (dVar 3)) (dC (.int 1))
def d_Heap_chosen_C3 : DE := dVar 3
def d_Heap_chosen_Q2 : DT := dTst (dBin (dEq false) (dBin dIxA (dBin dIxA (dFld "_pieces" ["Heap"] (dVar 0)) (dVar 3)) (dC (.int 1))) (dVar 4))
def d_Heap_chosen_C4 : DE := dVar 3
def d_Heap_chosen_Q3 : DT := dTst (dBin (dGeI) (dBin dIxA (dBin dIxA (dFld "_pieces" ["Heap"] (dVar 0)) (dVar 3)) (dC (.int 0))) (dFld "_last" ["Heap"] (dVar 0)))
def d_Heap_chosen_B1 : DS := dSeq (dAsg (dComp (iAny (dVar 2)) (.one 3) (d_Heap_chosen_Q3) (d_Heap_chosen_C4) [3]) (gN 5)) (dIfS (dTst (dBin (dEq true) (dVar 5) (dLst (dNil)))) (dAsg (dVar 5) (gN 2)) (dNext))
def d_Heap_chosen_B2 : DS := dSeq (dAsg (dApp cMin1 (dCons (dComp (iAny (dVar 2)) (.one 3) (dYes) (d_Heap_chosen_C2) [3]) (dNil))) (gN 4)) (dAsg (dComp (iAny (dVar 2)) (.one 3) (d_Heap_chosen_Q2) (d_Heap_chosen_C3) [3]) (gN 2))
def d_Heap_chosen_B3 : DS := dIfS (dTst (dBin (dEq false) (dFld "_policy" ["Heap"] (dVar 0)) (dC (.str "next")))) (d_Heap_chosen_B1) (dNext)
def d_Heap_chosen_R1 : DS := dSeq (dIfS (dTst (dBin (dEq false) (dFld "_policy" ["Heap"] (dVar 0)) (dC (.str "best")))) (d_Heap_chosen_B2) (d_Heap_chosen_B3)) (dRet (dBin dIxA (dVar 2) (dC (.int 0))))
def d_Heap_chosen : DS := dSeq (dAsg (dComp (iRng1D (dCons (dApp cLen (dCons (dFld "_pieces" ["Heap"] (dVar 0)) (dNil))) (dNil))) (.one 3) (d_Heap_chosen_Q1) (d_Heap_chosen_C1) [3]) (gN 2)) (dSeq (dIfS (dOrT (dTst (dBin (dEq false) (dVar 2) (dLst (dNil)))) (dTst (dBin (dEq false) (dFld "_policy" ["Heap"] (dVar 0)) (dC (.str "bump"))))) (dRet (dNeg (dC (.int 1)))) (dNext)) (d_Heap_chosen_R1))
def F_Heap_chosen : DF := dDef 6 2 (d_Heap_chosen)
/-- Heap.give(self, address, size, first, end, rest, begin, room) -/
def d_Heap_give_B1 : DS := dIfS (dTst (dBin (dEq false) (dVar 6) (dVar 4))) (dAsg (dBin dAdd (dVar 6) (dVar 7)) (gN 4)) (dDrop (dBMT "list" mAppend (dVar 5) (dCons (dTup (dCons (dVar 6) (dCons (dVar 7) (dNil)))) (dNil))))
def d_Heap_give_L1 : DS := dIfS (dTst (dBin (dEq false) (dBin dAdd (dVar 6) (dVar 7)) (dVar 3))) (dAsg (dVar 6) (gN 3)) (d_Heap_give_B1)
def d_Heap_give_R1 : DS := dSeq (dFldS "_pieces" ["Heap"] (dVar 0) (dApp cSorted (dCons (dVar 5) (dNil)))) (dRet (dC (.bl true)))
def d_Heap_give_R2 : DS := dSeq (dAsg (dPop1 (dFld "_sizes" ["Heap"] (dVar 0)) (dVar 1)) (gN 2)) (dSeq (dAsg (dVar 1) (gN 3)) (dSeq (dAsg (dBin dAdd (dVar 1) (dVar 2)) (gN 4)) (dSeq (dAsg (dNew (dNil)) (gN 5)) (dSeq (dFor (iAny (dFld "_pieces" ["Heap"] (dVar 0))) (gTupN [6, 7]) (d_Heap_give_L1)) (dSeq (dIfS (dAndT (dTst (dBin (dEq false) (dVar 4) (dFld "_top" ["Heap"] (dVar 0)))) (dTst (dBin (dEq true) (dFld "_policy" ["Heap"] (dVar 0)) (dC (.str "bump"))))) (dFldS "_top" ["Heap"] (dVar 0) (dVar 3)) (dDrop (dBMT "list" mAppend (dVar 5) (dCons (dTup (dCons (dVar 3) (dCons (dBin dSub (dVar 4) (dVar 3)) (dNil)))) (dNil))))) (d_Heap_give_R1))))))
def d_Heap_give : DS := dSeq (dIfS (dTst (dBin (dInA true) (dVar 1) (dFld "_sizes" ["Heap"] (dVar 0)))) (dRet (dC (.bl false))) (dNext)) (d_Heap_give_R2)
def F_Heap_give : DF := dDef 8 2 (d_Heap_give)
/-- _law_draws(_law_script, _law_draws_here, _law_k, _law_cell, _law_turn, _law_mixed) -/
def d__law_draws_B1 : DS := dSeq (dDrop (dBMT "list" mAppend (dVar 1) (dCons (dBin dMod (dVar 3) (dC (.int 1000))) (dNil)))) (dAsg (dBin dDiv (dVar 3) (dC (.int 1000))) (gN 3))
def d__law_draws_L1 : DS := dIfS (dTst (dBin (dGtI) (dVar 3) (dC (.int 0)))) (d__law_draws_B1) (dNext)
def d__law_draws_L2 : DS := dSeq (dAsg (dBin dMod (dApp cInt (dCons (dBin dAdd (dBin dAdd (dBin dMul (dVar 5) (dVar 5)) (dBin dMul (dVar 4) (dC (.int 7919)))) (dC (.int 17))) (dNil))) (dC (.int 2147483629))) (gN 5)) (dDrop (dBMT "list" mAppend (dVar 1) (dCons (dBin dMod (dVar 5) (dC (.int 1000))) (dNil))))
def d__law_draws_B2 : DS := dFor (iRng1D (dCons (dC (.int 20)) (dNil))) (gN 4) (d__law_draws_L1)
def d__law_draws_B3 : DS := dSeq (dAsg (dBin dMod (dApp cInt (dCons (dBin dAdd (dBin dAdd (dBin dMul (dBin dIxA (dVar 0) (dVar 2)) (dC (.int 48271))) (dBin dMul (dVar 2) (dC (.int 69621)))) (dC (.int 12345))) (dNil))) (dC (.int 2147483647))) (gN 5)) (dFor (iRng1D (dCons (dC (.int 3)) (dNil))) (gN 4) (d__law_draws_L2))
def d__law_draws_L3 : DS := dSeq (dAsg (dApp cAbs (dCons (dBin dIxA (dVar 0) (dVar 2)) (dNil))) (gN 3)) (dIfS (dTst (dBin (dGeI) (dVar 3) (dBin dPow (dC (.int 10)) (dC (.int 18))))) (d__law_draws_B2) (d__law_draws_B3))
def d__law_draws : DS := dSeq (dAsg (dNew (dNil)) (gN 1)) (dSeq (dFor (iRng1D (dCons (dApp cMin2 (dCons (dApp cLen (dCons (dVar 0) (dNil))) (dCons (dC (.int 63)) (dNil)))) (dNil))) (gN 2) (d__law_draws_L3)) (dRet (dVar 1)))
def F__law_draws : DF := dDef 6 1 (d__law_draws)
/-- _law_reader(_law_script, _law_row, _law_seed) -/
def d__law_reader (c__law_draws : DF) : DS := dSeq (dAsg (dApp c__law_draws (dCons (dVar 0) (dNil))) (gN 1)) (dSeq (dAsg (dC (.int 5)) (gN 2)) (dSeq (dIfS (dTst (dBin (dGtI) (dApp cLen (dCons (dVar 0) (dNil))) (dC (.int 0)))) (dAsg (dBin dMod (dApp cAbs (dCons (dBin dIxA (dVar 0) (dNeg (dC (.int 1)))) (dNil))) (dC (.int 1000003))) (gN 2)) (dNext)) (dRet (dDisp (dPCons (dC (.str "row")) (dVar 1) (dPCons (dC (.str "at")) (dC (.int 0)) (dPCons (dC (.str "seed")) (dVar 2) (dPNil))))))))
def F__law_reader (c__law_draws : DF) : DF := dDef 3 1 (d__law_reader c__law_draws)
/-- _law_next(_law_draws_here, _law_many, _law_at, _law_mixed) -/
def d__law_next_R1 : DS := dSeq (dAsg (dBin dMod (dApp cInt (dCons (dBin dMul (dBin dAdd (dBin dAdd (dBin dIxA (dVar 0) (dC (.str "seed"))) (dBin dMul (dC (.int 17)) (dVar 2))) (dC (.int 3))) (dC (.int 48271))) (dNil))) (dC (.int 2147483647))) (gN 3)) (dRet (dBin dMod (dBin dDiv (dBin dMod (dApp cInt (dCons (dBin dAdd (dBin dMul (dVar 3) (dVar 3)) (dVar 2)) (dNil))) (dC (.int 2147483629))) (dC (.int 7))) (dVar 1)))
def d__law_next : DS := dSeq (dAsg (dBin dIxA (dVar 0) (dC (.str "at"))) (gN 2)) (dSeq (dPutA (dVar 0) (dC (.str "at")) (dBin dAdd (dVar 2) (dC (.int 1)))) (dSeq (dIfS (dTst (dBin (dLtI) (dVar 2) (dApp cLen (dCons (dBin dIxA (dVar 0) (dC (.str "row"))) (dNil))))) (dRet (dBin dMod (dApp cInt (dCons (dBin dIxA (dBin dIxA (dVar 0) (dC (.str "row"))) (dVar 2)) (dNil))) (dVar 1))) (dNext)) (d__law_next_R1)))
def F__law_next : DF := dDef 4 2 (d__law_next)
/-- _law_runs(_law_m, _law_found, _law_word) -/
def d__law_runs_B1 : DS := dPutA (dVar 1) (dNeg (dC (.int 1))) (dTup (dCons (dBin dIxA (dBin dIxA (dVar 1) (dNeg (dC (.int 1)))) (dC (.int 0))) (dCons (dBin dAdd (dBin dIxA (dBin dIxA (dVar 1) (dNeg (dC (.int 1)))) (dC (.int 1))) (dC (.int 1))) (dNil))))
def d__law_runs_B2 : DS := dIfS (dAndT (dTst (dBin (dEq true) (dVar 1) (dLst (dNil)))) (dTst (dBin (dEq false) (dBin dAdd (dBin dIxA (dBin dIxA (dVar 1) (dNeg (dC (.int 1)))) (dC (.int 0))) (dBin dIxA (dBin dIxA (dVar 1) (dNeg (dC (.int 1)))) (dC (.int 1)))) (dVar 2)))) (d__law_runs_B1) (dDrop (dBMT "list" mAppend (dVar 1) (dCons (dTup (dCons (dVar 2) (dCons (dC (.int 1)) (dNil)))) (dNil))))
def d__law_runs_L1 : DS := dIfS (dTst (dBin (dInA true) (dVar 2) (dBin dIxA (dVar 0) (dC (.str "owner"))))) (d__law_runs_B2) (dNext)
def d__law_runs : DS := dSeq (dAsg (dNew (dNil)) (gN 1)) (dSeq (dFor (iRng2D (dCons (dC (.int 1)) (dCons (dBin dIxA (dVar 0) (dC (.str "top"))) (dNil)))) (gN 2) (d__law_runs_L1)) (dRet (dVar 1)))
def F__law_runs : DF := dDef 3 1 (d__law_runs)
/-- _law_fits(_law_m, _law_size, _law_run) -/
def d__law_fits_C1 (c__law_runs : DF) : DE := dVar 2
def d__law_fits_Q1 (c__law_runs : DF) : DT := dTst (dBin (dGeI) (dBin dIxA (dVar 2) (dC (.int 1))) (dVar 1))
def d__law_fits (c__law_runs : DF) : DS := dRet (dComp (iAny (dApp c__law_runs (dCons (dVar 0) (dNil)))) (.one 2) (d__law_fits_Q1 c__law_runs) (d__law_fits_C1 c__law_runs) [2])
def F__law_fits (c__law_runs : DF) : DF := dDef 3 2 (d__law_fits c__law_runs)
/-- _law_chosen(_law_m, _law_policy, _law_size, _law_runs_here, _law_address, _law_many, _law_run) -/
def d__law_chosen_C1 (c__law_fits : DF) : DE := dTup (dCons (dVar 5) (dCons (dVar 4) (dNil)))
def d__law_chosen_B1 (c__law_fits : DF) : DS := dRet (dBin dIxA (dBin dIxA (dApp cSorted (dCons (dComp (iAny (dVar 3)) (.tup [4, 5]) (dYes) (d__law_chosen_C1 c__law_fits) [4, 5]) (dNil))) (dC (.int 0))) (dC (.int 1)))
def d__law_chosen_C2 (c__law_fits : DF) : DE := dVar 6
def d__law_chosen_Q1 (c__law_fits : DF) : DT := dTst (dBin (dGeI) (dBin dIxA (dVar 6) (dC (.int 0))) (dBin dIxA (dVar 0) (dC (.str "last"))))
def d__law_chosen_R1 (c__law_fits : DF) : DS := dSeq (dIfS (dTst (dBin (dEq false) (dVar 1) (dC (.str "next")))) (dAsg (dBin dAdd (dComp (iAny (dVar 3)) (.one 6) (d__law_chosen_Q1 c__law_fits) (d__law_chosen_C2 c__law_fits) [6]) (dVar 3)) (gN 3)) (dNext)) (dRet (dBin dIxA (dBin dIxA (dVar 3) (dC (.int 0))) (dC (.int 0))))
def d__law_chosen_R2 (c__law_fits : DF) : DS := dSeq (dIfS (dTst (dBin (dEq false) (dVar 1) (dC (.str "best")))) (d__law_chosen_B1 c__law_fits) (dNext)) (d__law_chosen_R1 c__law_fits)
def d__law_chosen (c__law_fits : DF) : DS := dSeq (dAsg (dApp c__law_fits (dCons (dVar 0) (dCons (dVar 2) (dNil)))) (gN 3)) (dSeq (dIfS (dOrT (dTst (dBin (dEq false) (dVar 1) (dC (.str "bump")))) (dTst (dBin (dEq false) (dVar 3) (dLst (dNil))))) (dRet (dBin dIxA (dVar 0) (dC (.str "top")))) (dNext)) (d__law_chosen_R2 c__law_fits))
def F__law_chosen (c__law_fits : DF) : DF := dDef 7 3 (d__law_chosen c__law_fits)
/-- _law_take(_law_m, _law_allocator, _law_many, _law_policy, _law_unit, _law_size, _law_address, _law_k) -/
def d__law_take_W1 (c__law_chosen : DF) : DT := dTst (dBin (dLtI) (dVar 5) (dVar 2))
def d__law_take_L1 (c__law_chosen : DF) : DS := dAsg (dBin dAdd (dVar 5) (dVar 4)) (gN 5)
def d__law_take_L2 (c__law_chosen : DF) : DS := dPutA (dBin dIxA (dVar 0) (dC (.str "owner"))) (dBin dAdd (dVar 6) (dVar 7)) (dVar 6)
def d__law_take (c__law_chosen : DF) : DS := dSeq (dAsg (dVar 1) (gTupN [3, 4])) (dSeq (dAsg (dVar 4) (gN 5)) (dSeq (dWhile (d__law_take_W1 c__law_chosen) (d__law_take_L1 c__law_chosen)) (dSeq (dAsg (dApp c__law_chosen (dCons (dVar 0) (dCons (dVar 3) (dCons (dVar 5) (dNil))))) (gN 6)) (dSeq (dFor (iRng1D (dCons (dVar 5) (dNil))) (gN 7) (d__law_take_L2 c__law_chosen)) (dSeq (dPutA (dBin dIxA (dVar 0) (dC (.str "sizes"))) (dVar 6) (dVar 5)) (dSeq (dPutA (dVar 0) (dC (.str "top")) (dApp cMax2 (dCons (dBin dIxA (dVar 0) (dC (.str "top"))) (dCons (dBin dAdd (dVar 6) (dVar 5)) (dNil))))) (dSeq (dPutA (dVar 0) (dC (.str "last")) (dBin dAdd (dVar 6) (dVar 5))) (dRet (dVar 6)))))))))
def F__law_take (c__law_chosen : DF) : DF := dDef 8 3 (d__law_take c__law_chosen)
/-- _law_give(_law_m, _law_allocator, _law_address, _law_k) -/
def d__law_give_L1 : DS := dDrop (dPop1 (dBin dIxA (dVar 0) (dC (.str "owner"))) (dBin dAdd (dVar 2) (dVar 3)))
def d__law_give_W1 : DT := dAndT (dTst (dBin (dGtI) (dBin dIxA (dVar 0) (dC (.str "top"))) (dC (.int 1)))) (dTst (dBin (dInA true) (dBin dSub (dBin dIxA (dVar 0) (dC (.str "top"))) (dC (.int 1))) (dBin dIxA (dVar 0) (dC (.str "owner")))))
def d__law_give_L2 : DS := dPutA (dVar 0) (dC (.str "top")) (dBin dSub (dBin dIxA (dVar 0) (dC (.str "top"))) (dC (.int 1)))
def d__law_give_B1 : DS := dWhile (d__law_give_W1) (d__law_give_L2)
def d__law_give_R1 : DS := dSeq (dFor (iRng1D (dCons (dBin dIxA (dBin dIxA (dVar 0) (dC (.str "sizes"))) (dVar 2)) (dNil))) (gN 3) (d__law_give_L1)) (dSeq (dDrop (dPop1 (dBin dIxA (dVar 0) (dC (.str "sizes"))) (dVar 2))) (dSeq (dIfS (dTst (dBin (dEq true) (dBin dIxA (dVar 1) (dC (.int 0))) (dC (.str "bump")))) (d__law_give_B1) (dNext)) (dRet (dC (.bl true)))))
def d__law_give : DS := dSeq (dIfS (dTst (dBin (dInA true) (dVar 2) (dBin dIxA (dVar 0) (dC (.str "sizes"))))) (dRet (dC (.bl false))) (dNext)) (d__law_give_R1)
def F__law_give : DF := dDef 4 3 (d__law_give)
/-- _law_as_told(_law_heap, _law_m, _law_blocks, _law_address, _law_size) -/
def d__law_as_told_C1 (c_Heap_blocks : DF) (c_Heap_pieces : DF) (c__law_runs : DF) (c_Heap_top : DF) (c_Heap_size : DF) : DE := dTup (dCons (dVar 3) (dCons (dBin dIxA (dBin dIxA (dVar 1) (dC (.str "sizes"))) (dVar 3)) (dNil)))
def d__law_as_told_C2 (c_Heap_blocks : DF) (c_Heap_pieces : DF) (c__law_runs : DF) (c_Heap_top : DF) (c_Heap_size : DF) : DE := dBin (dEq false) (dMeth "Heap" "size" c_Heap_size (dVar 0) (dCons (dVar 3) (dNil))) (dVar 4)
def d__law_as_told (c_Heap_blocks : DF) (c_Heap_pieces : DF) (c__law_runs : DF) (c_Heap_top : DF) (c_Heap_size : DF) : DS := dSeq (dAsg (dApp cTuple (dCons (dComp (iAny (dApp cSorted (dCons (dBin dIxA (dVar 1) (dC (.str "sizes"))) (dNil)))) (.one 3) (dYes) (d__law_as_told_C1 c_Heap_blocks c_Heap_pieces c__law_runs c_Heap_top c_Heap_size) [3]) (dNil))) (gN 2)) (dSeq (dIfS (dOrT (dTst (dBin (dEq true) (dMeth "Heap" "blocks" c_Heap_blocks (dVar 0) dNil) (dVar 2))) (dOrT (dTst (dBin (dEq true) (dMeth "Heap" "pieces" c_Heap_pieces (dVar 0) dNil) (dApp cTuple (dCons (dApp c__law_runs (dCons (dVar 1) (dNil))) (dNil))))) (dTst (dBin (dEq true) (dMeth "Heap" "top" c_Heap_top (dVar 0) dNil) (dBin dIxA (dVar 1) (dC (.str "top"))))))) (dRet (dC (.bl false))) (dNext)) (dRet (dApp cAll1 (dCons (dComp (iAny (dVar 2)) (.tup [3, 4]) (dYes) (d__law_as_told_C2 c_Heap_blocks c_Heap_pieces c__law_runs c_Heap_top c_Heap_size) [3, 4]) (dNil)))))
def F__law_as_told (c_Heap_blocks : DF) (c_Heap_pieces : DF) (c__law_runs : DF) (c_Heap_top : DF) (c_Heap_size : DF) : DF := dDef 5 2 (d__law_as_told c_Heap_blocks c_Heap_pieces c__law_runs c_Heap_top c_Heap_size)
/-- _law_deed(_law_draws_here, _law_heap, _law_m, _law_allocator, _law_held, _law_pick, _law_many, _law_address) -/
def d__law_deed_B1 (c__law_next : DF) (c_Heap_take : DF) (c__law_take : DF) (c_Heap_give : DF) (c__law_give : DF) : DS := dSeq (dAsg (dBin dIxA (dLst (dCons (dApp c__law_next (dCons (dVar 0) (dCons (dC (.int 4)) (dNil)))) (dCons (dApp c__law_next (dCons (dVar 0) (dCons (dC (.int 12)) (dNil)))) (dCons (dApp c__law_next (dCons (dVar 0) (dCons (dC (.int 41)) (dNil)))) (dNil))))) (dApp c__law_next (dCons (dVar 0) (dCons (dC (.int 3)) (dNil))))) (gN 6)) (dRet (dBin (dEq false) (dMeth "Heap" "take" c_Heap_take (dVar 1) (dCons (dVar 6) (dNil))) (dApp c__law_take (dCons (dVar 2) (dCons (dVar 3) (dCons (dVar 6) (dNil)))))))
def d__law_deed_R1 (c__law_next : DF) (c_Heap_take : DF) (c__law_take : DF) (c_Heap_give : DF) (c__law_give : DF) : DS := dSeq (dAsg (dBin dIxA (dVar 4) (dApp c__law_next (dCons (dVar 0) (dCons (dApp cLen (dCons (dVar 4) (dNil))) (dNil))))) (gN 7)) (dSeq (dIfS (dTst (dBin (dEq false) (dVar 5) (dC (.int 9)))) (dAsg (dBin dAdd (dBin dAdd (dVar 7) (dC (.int 1))) (dApp c__law_next (dCons (dVar 0) (dCons (dC (.int 9)) (dNil))))) (gN 7)) (dNext)) (dRet (dBin (dEq false) (dMeth "Heap" "give" c_Heap_give (dVar 1) (dCons (dVar 7) (dNil))) (dApp c__law_give (dCons (dVar 2) (dCons (dVar 3) (dCons (dVar 7) (dNil))))))))
def d__law_deed (c__law_next : DF) (c_Heap_take : DF) (c__law_take : DF) (c_Heap_give : DF) (c__law_give : DF) : DS := dSeq (dAsg (dApp cSorted (dCons (dBin dIxA (dVar 2) (dC (.str "sizes"))) (dNil))) (gN 4)) (dSeq (dAsg (dApp c__law_next (dCons (dVar 0) (dCons (dC (.int 10)) (dNil)))) (gN 5)) (dSeq (dIfS (dOrT (dTst (dBin (dLtI) (dVar 5) (dC (.int 6)))) (dTst (dBin (dEq false) (dVar 4) (dLst (dNil))))) (d__law_deed_B1 c__law_next c_Heap_take c__law_take c_Heap_give c__law_give) (dNext)) (d__law_deed_R1 c__law_next c_Heap_take c__law_take c_Heap_give c__law_give)))
def F__law_deed (c__law_next : DF) (c_Heap_take : DF) (c__law_take : DF) (c_Heap_give : DF) (c__law_give : DF) : DF := dDef 8 4 (d__law_deed c__law_next c_Heap_take c__law_take c_Heap_give c__law_give)
/-- law(_law_script, _law_draws_here, _law_allocator, _law_heap, _law_other, _law_m, _law_turn, _law_address) -/
def d_law_L1 (c__law_reader : DF) (c__law_next : DF) (c_Heap___init__ : DF) (c__law_deed : DF) (c__law_as_told : DF) (c_Heap_give : DF) (c__law_give : DF) (c_Heap_blocks : DF) (c_Heap_top : DF) (c_Heap_pieces : DF) : DS := dIfS (dOrT (dNotT (dTru (dApp c__law_deed (dCons (dVar 1) (dCons (dVar 3) (dCons (dVar 5) (dCons (dVar 2) (dNil)))))))) (dNotT (dTru (dApp c__law_as_told (dCons (dVar 3) (dCons (dVar 5) (dNil))))))) (dRet (dC (.bl false))) (dNext)
def d_law_L2 (c__law_reader : DF) (c__law_next : DF) (c_Heap___init__ : DF) (c__law_deed : DF) (c__law_as_told : DF) (c_Heap_give : DF) (c__law_give : DF) (c_Heap_blocks : DF) (c_Heap_top : DF) (c_Heap_pieces : DF) : DS := dIfS (dOrT (dTst (dBin (dIs true) (dMeth "Heap" "give" c_Heap_give (dVar 3) (dCons (dVar 7) (dNil))) (dC (.bl true)))) (dNotT (dTru (dApp c__law_give (dCons (dVar 5) (dCons (dVar 2) (dCons (dVar 7) (dNil)))))))) (dRet (dC (.bl false))) (dNext)
def d_law (c__law_reader : DF) (c__law_next : DF) (c_Heap___init__ : DF) (c__law_deed : DF) (c__law_as_told : DF) (c_Heap_give : DF) (c__law_give : DF) (c_Heap_blocks : DF) (c_Heap_top : DF) (c_Heap_pieces : DF) : DS := dSeq (dAsg (dApp c__law_reader (dCons (dVar 0) (dNil))) (gN 1)) (dSeq (dAsg (dTup (dCons (dBin dIxA (dLst (dCons (dC (.str "first")) (dCons (dC (.str "best")) (dCons (dC (.str "next")) (dCons (dC (.str "bump")) (dNil)))))) (dApp c__law_next (dCons (dVar 1) (dCons (dC (.int 4)) (dNil))))) (dCons (dBin dShl (dC (.int 1)) (dApp c__law_next (dCons (dVar 1) (dCons (dC (.int 4)) (dNil))))) (dNil)))) (gN 2)) (dSeq (dAsg (dMake "Heap" c_Heap___init__ (dCons (dVar 2) (dNil))) (gN 3)) (dSeq (dAsg (dMake "Heap" c_Heap___init__ (dCons (dVar 2) (dNil))) (gN 4)) (dSeq (dAsg (dDisp (dPCons (dC (.str "owner")) (dDispE) (dPCons (dC (.str "sizes")) (dDispE) (dPCons (dC (.str "top")) (dC (.int 1)) (dPCons (dC (.str "last")) (dC (.int 1)) (dPNil)))))) (gN 5)) (dSeq (dFor (iRng1D (dCons (dBin dAdd (dC (.int 5)) (dApp c__law_next (dCons (dVar 1) (dCons (dC (.int 66)) (dNil))))) (dNil))) (gN 6) (d_law_L1 c__law_reader c__law_next c_Heap___init__ c__law_deed c__law_as_told c_Heap_give c__law_give c_Heap_blocks c_Heap_top c_Heap_pieces)) (dSeq (dFor (iAny (dApp cListA (dCons (dBin dIxA (dVar 5) (dC (.str "sizes"))) (dNil)))) (gN 7) (d_law_L2 c__law_reader c__law_next c_Heap___init__ c__law_deed c__law_as_told c_Heap_give c__law_give c_Heap_blocks c_Heap_top c_Heap_pieces)) (dSeq (dIfS (dOrT (dTst (dBin (dEq true) (dMeth "Heap" "blocks" c_Heap_blocks (dVar 3) dNil) (dTup (dNil)))) (dAndT (dTst (dBin (dEq true) (dBin dIxA (dVar 2) (dC (.int 0))) (dC (.str "bump")))) (dTst (dBin (dEq true) (dMeth "Heap" "top" c_Heap_top (dVar 3) dNil) (dC (.int 1)))))) (dRet (dC (.bl false))) (dNext)) (dRet (dAndV (dBin (dEq false) (dMeth "Heap" "top" c_Heap_top (dVar 4) dNil) (dC (.int 1))) (dAndV (dBin (dEq false) (dMeth "Heap" "pieces" c_Heap_pieces (dVar 4) dNil) (dTup (dNil))) (dBin (dIs false) (dMeth "Heap" "give" c_Heap_give (dVar 4) (dCons (dC (.int 1)) (dNil))) (dC (.bl false)))))))))))))
def F_law (c__law_reader : DF) (c__law_next : DF) (c_Heap___init__ : DF) (c__law_deed : DF) (c__law_as_told : DF) (c_Heap_give : DF) (c__law_give : DF) (c_Heap_blocks : DF) (c_Heap_top : DF) (c_Heap_pieces : DF) : DF := dDef 8 1 (d_law c__law_reader c__law_next c_Heap___init__ c__law_deed c__law_as_told c_Heap_give c__law_give c_Heap_blocks c_Heap_top c_Heap_pieces)
end K85

/-! The rows of free words: what they are, and what taking and giving do to them. -/
namespace K85
open DL
def IsRuns (F : Int → Bool) (hi : Int) : Int → List (Int × Int) → Prop
  | lo, [] => ∀ w, lo ≤ w → w < hi → F w = false
  | lo, p :: ps => lo ≤ p.1 ∧ 0 < p.2 ∧ p.1 + p.2 ≤ hi ∧ (∀ w, lo ≤ w → w < p.1 → F w = false) ∧ (∀ w, p.1 ≤ w → w < p.1 + p.2 → F w = true) ∧ (p.1 + p.2 < hi → F (p.1 + p.2) = false) ∧ IsRuns F hi (p.1 + p.2) ps
theorem IsRuns.uniq {F : Int → Bool} {hi : Int} : ∀ {lo : Int} {ps qs : List (Int × Int)}, IsRuns F hi lo ps → IsRuns F hi lo qs → ps = qs
  | lo, [], [], _, _ => rfl
  | lo, [], q :: qs, h, ⟨h1, h2, h3, h4, h5, h6, h7⟩ => by
    have a := h q.1 h1 (by omega)
    have b := h5 q.1 (by omega) (by omega)
    rw [a] at b; cases b
  | lo, p :: ps, [], ⟨h1, h2, h3, h4, h5, h6, h7⟩, h => by
    have a := h p.1 h1 (by omega)
    have b := h5 p.1 (by omega) (by omega)
    rw [a] at b; cases b
  | lo, p :: ps, q :: qs, ⟨h1, h2, h3, h4, h5, h6, h7⟩, ⟨g1, g2, g3, g4, g5, g6, g7⟩ => by
    have e1 : p.1 = q.1 := by
      rcases Int.lt_trichotomy p.1 q.1 with l | l | l
      · have a := g4 p.1 h1 l
        rw [h5 p.1 (by omega) (by omega)] at a; cases a
      · exact l
      · have a := h4 q.1 g1 l
        rw [g5 q.1 (by omega) (by omega)] at a; cases a
    have e2 : p.2 = q.2 := by
      rcases Int.lt_trichotomy p.2 q.2 with l | l | l
      · have a := h6 (by omega)
        rw [g5 _ (by omega) (by omega)] at a; cases a
      · exact l
      · have a := g6 (by omega)
        rw [h5 _ (by omega) (by omega)] at a; cases a
    have e : p = q := Prod.ext e1 e2
    subst e
    rw [IsRuns.uniq h7 g7]
theorem IsRuns.congr {F G : Int → Bool} {hi : Int} : ∀ {lo : Int} {ps : List (Int × Int)}, IsRuns F hi lo ps → (∀ w, lo ≤ w → w < hi → F w = G w) → IsRuns G hi lo ps
  | lo, [], h, e => fun w a b => by rw [← e w a b]; exact h w a b
  | lo, p :: ps, ⟨h1, h2, h3, h4, h5, h6, h7⟩, e =>
    ⟨h1, h2, h3, fun w a b => by rw [← e w a (by omega)]; exact h4 w a b, fun w a b => by rw [← e w (by omega) (by omega)]; exact h5 w a b, fun a => by rw [← e _ (by omega) a]; exact h6 a, h7.congr fun w a b => e w (by omega) b⟩
theorem IsRuns.lower {F : Int → Bool} {hi lo lo' : Int} (hl : lo ≤ lo') (e : ∀ w, lo ≤ w → w < lo' → F w = false) : ∀ {ps : List (Int × Int)}, IsRuns F hi lo' ps → IsRuns F hi lo ps
  | [], h => fun w a b => if c : w < lo' then e w a c else h w (by omega) b
  | p :: ps, ⟨h1, h2, h3, h4, h5, h6, h7⟩ => ⟨by omega, h2, h3, fun w a b => if c : w < lo' then e w a c else h4 w (by omega) b, h5, h6, h7⟩
theorem IsRuns.raise {F : Int → Bool} {hi lo lo' : Int} (hl : lo ≤ lo') (e : ∀ w, lo ≤ w → w < lo' → F w = false) : ∀ {ps : List (Int × Int)}, IsRuns F hi lo ps → IsRuns F hi lo' ps
  | [], h => fun w a b => h w (by omega) b
  | p :: ps, ⟨h1, h2, h3, h4, h5, h6, h7⟩ => by
    have : lo' ≤ p.1 := by
      refine Int.not_lt.mp fun l => ?_
      have a := e p.1 h1 l
      rw [h5 p.1 (by omega) (by omega)] at a; cases a
    exact ⟨this, h2, h3, fun w a b => h4 w (by omega) b, h5, h6, h7⟩
/-- further words that are not free -/
theorem IsRuns.more {F : Int → Bool} {hi hi' : Int} (hh : hi ≤ hi') (e : ∀ w, hi ≤ w → w < hi' → F w = false) : ∀ {lo : Int} {ps : List (Int × Int)}, IsRuns F hi lo ps → IsRuns F hi' lo ps
  | lo, [], h => fun w a b => if c : w < hi then h w a c else e w (by omega) b
  | lo, p :: ps, ⟨h1, h2, h3, h4, h5, h6, h7⟩ => ⟨h1, h2, by omega, h4, h5, fun a => if c : p.1 + p.2 < hi then h6 c else e _ (by omega) a, h7.more hh e⟩
theorem IsRuns.new {F : Int → Bool} {hi : Int} (ht : F hi = true) : ∀ {lo : Int} {ps : List (Int × Int)}, lo ≤ hi → IsRuns F hi lo ps → (∀ p ∈ ps.getLast?, p.1 + p.2 ≠ hi) → IsRuns F (hi + 1) lo (ps ++ [(hi, 1)])
  | lo, [], hl, h, _ => ⟨hl, by show (0 : Int) < 1; omega, Int.le_refl _, h, fun w a b => by
      have a : hi ≤ w := a
      have b : w < hi + 1 := b
      have : w = hi := by omega
      rw [this]; exact ht, fun a => absurd (show hi + 1 < hi + 1 from a) (by omega), fun w a b => absurd (show hi + 1 ≤ w from a) (by omega)⟩
  | lo, p :: ps, hl, ⟨h1, h2, h3, h4, h5, h6, h7⟩, hn => by
    have hne : p.1 + p.2 < hi := by
      cases ps with
      | nil =>
        have := hn p rfl
        omega
      | cons q qs =>
        obtain ⟨g1, g2, g3, _⟩ := h7
        omega
    refine ⟨h1, h2, by omega, h4, h5, fun _ => h6 hne, IsRuns.new ht (by omega) h7 fun q hq => hn q ?_⟩
    cases ps with
    | nil => cases hq
    | cons r rs => rw [List.getLast?_cons_cons]; exact hq
theorem IsRuns.grow {F : Int → Bool} {hi b l : Int} (ht : F hi = true) (hb : b + l = hi) : ∀ {lo : Int} {ps : List (Int × Int)}, IsRuns F hi lo (ps ++ [(b, l)]) → IsRuns F (hi + 1) lo (ps ++ [(b, l + 1)])
  | lo, [], ⟨h1, h2, h3, h4, h5, h6, h7⟩ => by
    refine ⟨h1, ?_, ?_, h4, fun w a c => ?_, fun a => ?_, fun w a c => ?_⟩
    · show 0 < l + 1; have : 0 < l := h2; omega
    · show b + (l + 1) ≤ hi + 1; omega
    · have c : w < b + (l + 1) := c
      by_cases e : w = hi
      · rw [e]; exact ht
      · exact h5 w a (by show w < b + l; omega)
    · have a : b + (l + 1) < hi + 1 := a
      omega
    · have a : b + (l + 1) ≤ w := a
      omega
  | lo, p :: ps, ⟨h1, h2, h3, h4, h5, h6, h7⟩ => by
    have hne : p.1 + p.2 < hi := by
      cases ps with
      | nil =>
        obtain ⟨g1, g2, g3, _⟩ := h7
        have g1 : p.1 + p.2 ≤ b := g1
        have g2 : 0 < l := g2
        omega
      | cons q qs =>
        obtain ⟨g1, g2, g3, _⟩ := h7
        omega
    exact ⟨h1, h2, by omega, h4, h5, fun _ => h6 hne, h7.grow ht hb⟩
theorem IsRuns.sorted {F : Int → Bool} {hi : Int} : ∀ {lo : Int} {ps : List (Int × Int)}, IsRuns F hi lo ps → (∀ p ∈ ps, lo ≤ p.1 ∧ 0 < p.2 ∧ p.1 + p.2 ≤ hi) ∧ ps.Pairwise (fun a b => a.1 < b.1)
  | lo, [], _ => ⟨fun _ h => (List.not_mem_nil h).elim, .nil⟩
  | lo, p :: ps, ⟨h1, h2, h3, h4, h5, h6, h7⟩ => by
    obtain ⟨g1, g2⟩ := h7.sorted
    refine ⟨fun q hq => ?_, List.pairwise_cons.mpr ⟨fun q hq => ?_, g2⟩⟩
    · rcases List.mem_cons.mp hq with e | hq
      · rw [e]; exact ⟨h1, h2, h3⟩
      · have := g1 q hq
        omega
    · have := g1 q hq
      omega
/-- the words of a piece are taken from its begin on -/
def restOf (b l s : Int) : List (Int × Int) := if l = s then [] else [(b + s, l - s)]
theorem IsRuns.taken {F G : Int → Bool} {hi b l s : Int} (hs : 0 < s) (hl : s ≤ l) (hg : ∀ w, G w = (F w && !(decide (b ≤ w) && decide (w < b + s)))) :
    ∀ {lo : Int} {pre post : List (Int × Int)}, IsRuns F hi lo (pre ++ (b, l) :: post) → IsRuns G hi lo (pre ++ restOf b l s ++ post)
  | lo, [], post, ⟨h1, h2, h3, h4, h5, h6, h7⟩ => by
    have h1 : lo ≤ b := h1
    have h3 : b + l ≤ hi := h3
    have out : ∀ w, w < b ∨ b + s ≤ w → G w = F w := fun w h => by
      rw [hg w]
      have : (decide (b ≤ w) && decide (w < b + s)) = false := by
        rcases h with h | h
        · rw [decide_eq_false (by omega), Bool.false_and]
        · rw [decide_eq_false (show ¬ w < b + s by omega), Bool.and_false]
      rw [this, Bool.not_false, Bool.and_true]
    have inn : ∀ w, b ≤ w → w < b + s → G w = false := fun w h h' => by
      rw [hg w, decide_eq_true h, decide_eq_true h']
      simp
    have hp : IsRuns G hi (b + l) post := IsRuns.congr h7 fun w a c => (out w (.inr (by have a : b + l ≤ w := a; omega))).symm
    rw [List.nil_append]
    unfold restOf
    by_cases e : l = s
    · rw [if_pos e]
      refine hp.lower (by omega) fun w a c => ?_
      by_cases d : w < b
      · rw [out w (.inl d)]; exact h4 w a d
      · exact inn w (by omega) (by omega)
    · rw [if_neg e]
      refine ⟨by show lo ≤ b + s; omega, by show 0 < l - s; omega, by show b + s + (l - s) ≤ hi; omega, fun w a c => ?_, fun w a c => ?_, fun a => ?_, ?_⟩
      · have c : w < b + s := c
        by_cases d : w < b
        · rw [out w (.inl d)]; exact h4 w a d
        · exact inn w (by omega) (by omega)
      · have a : b + s ≤ w := a
        have c : w < b + s + (l - s) := c
        rw [out w (.inr a)]
        exact h5 w (by show b ≤ w; omega) (by show w < b + l; omega)
      · have a : b + s + (l - s) < hi := a
        show G (b + s + (l - s)) = false
        rw [show b + s + (l - s) = b + l by omega, out _ (.inr (by omega))]
        exact h6 (by show b + l < hi; omega)
      · show IsRuns G hi (b + s + (l - s)) post
        rw [show b + s + (l - s) = b + l by omega]
        exact hp
  | lo, p :: pre, post, ⟨h1, h2, h3, h4, h5, h6, h7⟩ => by
    have hb : p.1 + p.2 < b := by
      have hmem := (IsRuns.sorted h7).1 (b, l) (by simp)
      have h8 : p.1 + p.2 ≤ b := hmem.1
      have h9 : b + l ≤ hi := hmem.2.2
      by_cases e : p.1 + p.2 = b
      · have := h6 (by omega)
        cases pre with
        | nil =>
          obtain ⟨_, _, _, _, g5, _⟩ := h7
          have g := g5 b (Int.le_refl _) (by show b < b + l; omega)
          rw [e, g] at this; cases this
        | cons q qs =>
          have h10 := (IsRuns.sorted h7).2
          have h11 := (List.pairwise_cons.mp h10).1 (b, l) (by simp)
          have h11 : q.1 < b := h11
          obtain ⟨g1, _⟩ := h7
          omega
      · omega
    have out : ∀ w, w < b → G w = F w := fun w h => by
      rw [hg w, decide_eq_false (show ¬ b ≤ w by omega), Bool.false_and, Bool.not_false, Bool.and_true]
    exact ⟨h1, h2, h3, fun w a c => by rw [out w (by omega)]; exact h4 w a c, fun w a c => by rw [out w (by omega)]; exact h5 w a c, fun a => by rw [out _ hb]; exact h6 a, IsRuns.taken hs hl hg h7⟩
/-- what comes of the pieces when words are given back: the new piece's begin and end, the others -/
def mgL : List (Int × Int) → Int → Int → Int × Int × List (Int × Int)
  | [], f, e => (f, e, [])
  | p :: ps, f, e => if p.1 + p.2 = f then mgL ps p.1 e else if p.1 = e then mgL ps f (p.1 + p.2) else ((mgL ps f e).1, (mgL ps f e).2.1, p :: (mgL ps f e).2.2)
theorem mg_none : ∀ {ps : List (Int × Int)} {f e : Int}, (∀ p ∈ ps, f < p.1 + p.2 ∧ e < p.1) → mgL ps f e = (f, e, ps)
  | [], f, e, _ => rfl
  | p :: ps, f, e, h => by
    have := h p List.mem_cons_self
    unfold mgL
    rw [if_neg (by omega), if_neg (by omega), mg_none fun q hq => h q (List.mem_cons_of_mem _ hq)]
/-- the pieces behind what is given back -/
theorem mg_right {F G : Int → Bool} {hi lo f : Int} {ps : List (Int × Int)} (h : IsRuns F hi lo ps) (hf : f < lo) (hl : lo ≤ hi) (hg : ∀ w, lo ≤ w → G w = F w) :
    ∃ e post, mgL ps f lo = (f, e, post) ∧ lo ≤ e ∧ e ≤ hi ∧ (∀ w, lo ≤ w → w < e → F w = true) ∧ (e < hi → G e = false) ∧ IsRuns G hi e post := by
  have hc := h.congr fun w a _ => (hg w a).symm
  cases ps with
  | nil => exact ⟨lo, [], rfl, Int.le_refl _, hl, fun w a b => by omega, fun a => hc lo (Int.le_refl _) a, hc⟩
  | cons p ps =>
    obtain ⟨h1, h2, h3, h4, h5, h6, h7⟩ := h
    have hs := h7.sorted.1
    by_cases e : p.1 = lo
    · refine ⟨p.1 + p.2, ps, ?_, by omega, h3, fun w a b => h5 w (by omega) b, fun a => by rw [hg _ (by omega)]; exact h6 a, hc.2.2.2.2.2.2⟩
      unfold mgL
      rw [if_neg (by omega), if_pos e]
      refine mg_none fun q hq => ?_
      have h8 := hs q hq
      refine ⟨by omega, ?_⟩
      rcases Int.lt_or_eq_of_le h8.1 with z | z
      · exact z
      · have h9 := h6 (by omega)
        cases ps with
        | nil => cases hq
        | cons r rs =>
          have hr := hs r List.mem_cons_self
          have h10 : r.1 = p.1 + p.2 := by
            rcases List.mem_cons.mp hq with e' | hq'
            · rw [← e']; exact z.symm
            · have := (List.pairwise_cons.mp h7.sorted.2).1 q hq'
              omega
          have h11 := h7.2.2.2.2.1 r.1 (Int.le_refl _) (by omega)
          rw [h10, h9] at h11; cases h11
    · refine ⟨lo, p :: ps, ?_, Int.le_refl _, hl, fun w a b => by omega, fun a => ?_, hc⟩
      · refine mg_none fun q hq => ?_
        rcases List.mem_cons.mp hq with e' | hq'
        · rw [e']; omega
        · have := hs q hq'
          omega
      · exact hc.2.2.2.1 lo (Int.le_refl _) (by omega)
theorem mg_runs {F G : Int → Bool} {hi a s : Int} (hs : 0 < s) (hh : a + s ≤ hi) (hf : ∀ w, a ≤ w → w < a + s → F w = false) (hg : ∀ w, G w = (F w || (decide (a ≤ w) && decide (w < a + s)))) :
    ∀ {lo : Int} {ps : List (Int × Int)}, lo ≤ a → IsRuns F hi lo ps → ∃ f e pre post, mgL ps a (a + s) = (f, e, pre ++ post) ∧ lo ≤ f ∧ f ≤ a ∧ a + s ≤ e ∧ e ≤ hi ∧ IsRuns G hi lo (pre ++ (f, e - f) :: post) := by
  have out : ∀ w, w < a ∨ a + s ≤ w → G w = F w := fun w h => by
    rw [hg w]
    have : (decide (a ≤ w) && decide (w < a + s)) = false := by
      rcases h with h | h
      · rw [decide_eq_false (by omega), Bool.false_and]
      · rw [decide_eq_false (show ¬ w < a + s by omega), Bool.and_false]
    rw [this, Bool.or_false]
  have inn : ∀ w, a ≤ w → w < a + s → G w = true := fun w h h' => by
    rw [hg w, decide_eq_true h, decide_eq_true h']
    simp
  -- behind: nothing to the left
  have right : ∀ {f : Int} {lo : Int} {ps : List (Int × Int)}, lo ≤ f → f ≤ a → (∀ w, f ≤ w → w < a → F w = true) → (∀ w, lo ≤ w → w < f → F w = false) → IsRuns F hi a ps →
      ∃ e post, mgL ps f (a + s) = (f, e, post) ∧ a + s ≤ e ∧ e ≤ hi ∧ IsRuns G hi lo ((f, e - f) :: post) := by
    intro f lo ps h1 h2 h3 h4 h
    obtain ⟨e, post, g1, g2, g3, g4, g5, g6⟩ := mg_right (f := f) (IsRuns.raise (lo' := a + s) (by omega) hf h) (by omega) hh fun w hw => out w (.inr hw)
    refine ⟨e, post, g1, g2, g3, h1, by show 0 < e - f; omega, by show f + (e - f) ≤ hi; omega, fun w p q => ?_, fun w p q => ?_, fun p => ?_, ?_⟩
    · have q : w < f := q
      rw [out w (.inl (by omega))]; exact h4 w p q
    · have p : f ≤ w := p
      have q : w < f + (e - f) := q
      by_cases c1 : w < a
      · rw [out w (.inl c1)]; exact h3 w p c1
      · by_cases c2 : w < a + s
        · exact inn w (by omega) c2
        · rw [out w (.inr (by omega))]; exact g4 w (by omega) (by omega)
    · have p : f + (e - f) < hi := p
      show G (f + (e - f)) = false
      rw [show f + (e - f) = e by omega]
      exact g5 (by omega)
    · show IsRuns G hi (f + (e - f)) post
      rw [show f + (e - f) = e by omega]
      exact g6
  intro lo ps
  induction ps generalizing lo with
  | nil =>
    intro hl h
    obtain ⟨e, post, g1, g2, g3, g4⟩ := right (f := a) (lo := lo) (ps := []) hl (Int.le_refl _) (fun w p q => by omega) (fun w p q => h w p (by omega)) (fun w p q => h w (by omega) q)
    exact ⟨a, e, [], post, g1, hl, Int.le_refl _, g2, g3, g4⟩
  | cons p ps ih =>
    intro hl h
    obtain ⟨h1, h2, h3, h4, h5, h6, h7⟩ := h
    have side : p.1 + p.2 ≤ a ∨ a + s ≤ p.1 := by
      by_cases c : p.1 + p.2 ≤ a
      · exact .inl c
      · refine .inr (Int.not_lt.mp fun l => ?_)
        by_cases c2 : a ≤ p.1
        · have := hf p.1 c2 l
          rw [h5 p.1 (by omega) (by omega)] at this; cases this
        · have := hf a (by omega) (by omega)
          rw [h5 a (by omega) (by omega)] at this; cases this
    rcases side with c | c
    · by_cases e : p.1 + p.2 = a
      · obtain ⟨e', post, g1, g2, g3, g4⟩ := right (f := p.1) (lo := lo) (ps := ps) h1 (by omega) (fun w q r => h5 w q (by omega)) h4 (e ▸ h7)
        refine ⟨p.1, e', [], post, ?_, h1, by omega, g2, g3, g4⟩
        unfold mgL
        rw [if_pos e]
        exact g1
      · obtain ⟨f, e', pre, post, g1, g2, g3, g4, g5, g6⟩ := ih (lo := p.1 + p.2) (by omega) h7
        refine ⟨f, e', p :: pre, post, ?_, by omega, g3, g4, g5, h1, h2, h3, fun w q r => ?_, fun w q r => ?_, fun q => ?_, g6⟩
        · unfold mgL
          rw [if_neg e, if_neg (by omega), g1]
          rfl
        · rw [out w (.inl (by omega))]; exact h4 w q r
        · rw [out w (.inl (by omega))]; exact h5 w q r
        · rw [out _ (.inl (by omega))]; exact h6 q
    · obtain ⟨e', post, g1, g2, g3, g4⟩ := right (f := a) (lo := lo) (ps := p :: ps) hl (Int.le_refl _) (fun w p q => by omega) (fun w q r => h4 w q (by omega)) ⟨by omega, h2, h3, fun w q r => h4 w (by omega) r, h5, h6, h7⟩
      exact ⟨a, e', [], post, g1, hl, Int.le_refl _, g2, g3, g4⟩
/-- the last piece up to the top -/
theorem IsRuns.cut {G : Int → Bool} {hi f : Int} : ∀ {lo : Int} {pre post : List (Int × Int)}, IsRuns G hi lo (pre ++ (f, hi - f) :: post) → post = [] ∧ IsRuns G f lo pre ∧ lo ≤ f ∧ (f = lo ∨ G (f - 1) = false)
  | lo, [], post, ⟨h1, h2, h3, h4, h5, h6, h7⟩ => by
    have h1 : lo ≤ f := h1
    refine ⟨?_, fun w a b => h4 w a b, h1, ?_⟩
    · cases post with
      | nil => rfl
      | cons q qs =>
        obtain ⟨g1, g2, g3, _⟩ := h7
        have g1 : f + (hi - f) ≤ q.1 := g1
        omega
    · by_cases e : f = lo
      · exact .inl e
      · exact .inr (h4 (f - 1) (by omega) (by show f - 1 < f; omega))
  | lo, p :: pre, post, ⟨h1, h2, h3, h4, h5, h6, h7⟩ => by
    obtain ⟨g1, g2, g3, g4⟩ := IsRuns.cut h7
    have hm := (IsRuns.sorted h7).1 (f, hi - f) (by simp)
    have hm2 : 0 < hi - f := hm.2.1
    refine ⟨g1, ⟨h1, h2, g3, h4, h5, fun a => h6 (by omega), g2⟩, by omega, ?_⟩
    rcases g4 with e | e
    · exfalso
      have h8 := h6 (by omega)
      cases pre with
      | nil =>
        have g := h7.2.2.2.2.1 f (Int.le_refl _) (by show f < f + (hi - f); omega)
        rw [← e, g] at h8; cases h8
      | cons q qs =>
        have := g2.1
        have := g2.2.1
        have := g2.2.2.1
        omega
    · exact .inr e
end K85

namespace K85
open PySem PySem.Spec PyProof.Rows L2 DL
local macro_rules | `(tactic| walk_at "ev") => `(tactic| simp only [*, dSeq, dAsg, dIfS, dRet, dRetN, dNext, dDrop, dVar, dC, dBin, dTst, dTru, dNotT, dAndT, dOrT, dAndV, dOrV, dNotV, dIf, dChain, dNil, dCons, dTup, dLst, dNew, dApp, dNeg, gN, R.bind, R.stm, R.tru, R.opt, R.fin, dPutA, sPutA, sPutK, dDisp, dPNil, dPCons, dFor, iRng1D,
  dIxA, dIx, dGetK, dicOf, DL.keyOf, seqOf, cLen, cAbs, cMin2, cMax2, cInt, cTuple, cIsi, tyNm, dLtI, dLeI, dGtI, dGeI, cmpI, opI2, dAdd, dSub, dMul, dDiv, dMod, dPow, dBMT, isT, mAppend, truD, List.getElem?_cons_zero, List.getElem?_cons_succ, List.set_cons_zero, List.set_cons_succ, if_true, if_false, Bool.false_eq_true, Option.isSome_some, Option.isSome_none, valD, putD, setD, mergeD,
  Sum.inr.injEq, ofStr_inj, String.reduceEq, sizeLine_eq, List.length_cons, List.length_nil, List.length_map, Nat.reduceAdd, Nat.reduceLT, Nat.reduceLeDiff, decide_true, decide_false, decide_eq_true_eq, Bool.and_eq_true, and_true, true_and, and_self, Int.reduceLT, Int.reduceLE, Int.reducePow, Int.reduceNeg, Bool.true_and, Bool.and_true, beq_self_eq_true, dInA, dIn, dq_int, dq_bl, dIs, flatD, inD, List.any_cons, List.any_nil, eqF, List.all_cons, List.all_nil, isTy, dComp, dSl, dNoPart, dPart, dCut, iZipD, gTupN, gNames, gTupX, gxCons, gxNil, gFld, setF, putFD, fldV, dFld, dFldS, dFldAug, dAddI, R.nox, dMeth, dMake, dGet1, dGet2, dPop1, cRow, cSorted, cAll1, cMin1, cTuple, sqlOf, iAny, iRng2D, dAug, dCut, dDispE, dNew, dShl, cListA, cList, keyD, dropD, Int.cast_ofNat_Int, Int.natCast_zero, Int.natCast_one, Bool.true_or, Bool.or_true, Bool.false_or, Bool.or_false, Bool.not_true, Bool.not_false, Bool.true_xor, Bool.false_xor, Bool.xor_true, Bool.xor_false, Bool.false_and, Bool.and_false, String.reduceBEq, Bool.not_not, reduceCtorEq, List.mem_cons, List.not_mem_nil, or_false, or_true, true_or, p2D, Bool.true_eq_false, Bool.false_eq_true])

/-! ### the heap's methods -/
def hOb (pol : Str) (u : Int) (d : Nat) (ps : List (Int × Int)) (top last : Int) : Ob := .ins "Heap" [("_policy", .str pol), ("_unit", .int u), ("_sizes", .ref d), ("_pieces", .lst (ps.map p2D)), ("_top", .int top), ("_last", .int last)]
def szD (S : List (Int × Int)) : List (Key × D) := S.map fun p => (.inl p.1, .int p.2)
def getP (ps : List (Int × Int)) (k : Nat) : Int × Int := ps.getD k (0, 0)
theorem at_p2D {ps : List (Int × Int)} {k : Nat} (h : k < ps.length) : atI (ps.map p2D) (k : Int) = some (p2D (getP ps k)) := by
  refine atI_nat ?_
  rw [List.getElem?_map, List.getElem?_eq_getElem h]
  simp [getP, h]
theorem pl_p2D (p : Int × Int) : plD (p2D p) = true := rfl
theorem dp_p2D (p : Int × Int) : dpD (p2D p) = 1 := rfl
/-- the pieces that are large enough -/
def fitI (ps : List (Int × Int)) (size : Int) : List Nat := (List.range ps.length).filter fun k => decide (size ≤ (getP ps k).2)
theorem fit_lt {ps : List (Int × Int)} {size : Int} {k : Nat} (h : k ∈ fitI ps size) : k < ps.length ∧ size ≤ (getP ps k).2 := by
  unfold fitI at h
  rw [List.mem_filter, List.mem_range] at h
  exact ⟨h.1, of_decide_eq_true h.2⟩
def natD (k : Nat) : D := .int (k : Int)
theorem room_eq {st : Sto} {n : Nat} {pol : Str} {u : Int} {d : Nat} {ps : List (Int × Int)} {top last : Int} {a b c : Option D} {k : Nat} {s e : Option D} (h : st[n]? = some (hOb pol u d ps top last)) (hk : k < ps.length) :
    d_Heap_chosen_C2 [some (.ref n), s, a, some (natD k), b, c] st = .ok (.int (getP ps k).2) st := by
  have h1 := at_p2D hk
  have e1 : atI [D.int (getP ps k).1, D.int (getP ps k).2] (1 : Int) = some (.int (getP ps k).2) := rfl
  unfold hOb at h
  unfold d_Heap_chosen_C2 natD
  walk_at "ev"
def leastI (ps : List (Int × Int)) (ks : List Nat) : Int := (minL (ks.map fun k => (getP ps k).2)).getD 0
/-- which piece is chosen -/
def chI (pol : Str) (last : Int) (ps : List (Int × Int)) (size : Int) : Int :=
  let f := fitI ps size
  if f = [] ∨ pol = ("bump" : Str) then -1
  else if pol = ("best" : Str) then ((f.filter fun k => decide ((getP ps k).2 = leastI ps f)).headD 0 : Nat)
  else if pol = ("next" : Str) then (if f.filter (fun k => decide (last ≤ (getP ps k).1)) = [] then f.headD 0 else (f.filter (fun k => decide (last ≤ (getP ps k).1))).headD 0 : Nat)
  else (f.headD 0 : Nat)
theorem rng0 (m : Nat) : rng 0 (m : Int) = (List.range m).map natD := by
  rw [rng_nat, show ((m : Int) - 0).toNat = m by omega]
  exact List.map_congr_left fun k _ => by show D.int (0 + (k : Int)) = .int (k : Int); rw [Int.zero_add]
theorem isE {α : Type} {l : List α} : l.isEmpty = decide (l = []) := by cases l <;> rfl
theorem dq_natnil {neg : Bool} {ks : List Nat} {st : Sto} : dEq neg (.lst (ks.map natD)) (.lst []) st = .ok (.bl (neg ^^ decide (ks = []))) st := by
  rw [dq_nilL (fun d hd => by obtain ⟨k, _, rfl⟩ := List.mem_map.mp hd; rfl) (fun d hd => by obtain ⟨k, _, rfl⟩ := List.mem_map.mp hd; exact Nat.zero_le _)]
  cases ks <;> rfl
theorem q1_eq {st : Sto} {n : Nat} {pol : Str} {u : Int} {d : Nat} {ps : List (Int × Int)} {top last size : Int} {a b c : Option D} {k : Nat} (h : st[n]? = some (hOb pol u d ps top last)) (hk : k < ps.length) :
    d_Heap_chosen_Q1 [some (.ref n), some (.int size), a, some (natD k), b, c] st = .ok (decide (size ≤ (getP ps k).2)) st := by
  have h1 := at_p2D hk
  have e1 : atI [D.int (getP ps k).1, D.int (getP ps k).2] (1 : Int) = some (.int (getP ps k).2) := rfl
  unfold hOb at h
  unfold d_Heap_chosen_Q1 natD
  walk_at "ev"
theorem q2_eq {st : Sto} {n : Nat} {pol : Str} {u : Int} {d : Nat} {ps : List (Int × Int)} {top last least : Int} {a s c : Option D} {k : Nat} (h : st[n]? = some (hOb pol u d ps top last)) (hk : k < ps.length) :
    d_Heap_chosen_Q2 [some (.ref n), s, a, some (natD k), some (.int least), c] st = .ok (decide ((getP ps k).2 = least)) st := by
  have h1 := at_p2D hk
  have e1 : atI [D.int (getP ps k).1, D.int (getP ps k).2] (1 : Int) = some (.int (getP ps k).2) := rfl
  unfold hOb at h
  unfold d_Heap_chosen_Q2 natD
  walk_at "ev"
theorem q3_eq {st : Sto} {n : Nat} {pol : Str} {u : Int} {d : Nat} {ps : List (Int × Int)} {top last : Int} {a s b c : Option D} {k : Nat} (h : st[n]? = some (hOb pol u d ps top last)) (hk : k < ps.length) :
    d_Heap_chosen_Q3 [some (.ref n), s, a, some (natD k), b, c] st = .ok (decide (last ≤ (getP ps k).1)) st := by
  have h1 := at_p2D hk
  have e1 : atI [D.int (getP ps k).1, D.int (getP ps k).2] (0 : Int) = some (.int (getP ps k).1) := rfl
  unfold hOb at h
  unfold d_Heap_chosen_Q3 natD
  walk_at "ev"
theorem at_nat0 {ks : List Nat} (h : ks ≠ []) : atI (ks.map natD) (0 : Int) = some (natD (ks.headD 0)) := by
  cases ks with
  | nil => exact (h rfl).elim
  | cons k ks => exact atI_nat (j := 0) rfl
theorem mapInt (ks : List Nat) (f : Nat → Int) : (ks.map fun k => D.int (f k)) = (ks.map f).map D.int := by rw [List.map_map]; rfl
theorem filt {ks : List Nat} {p : Nat → Bool} {k : Nat} (h : k ∈ ks.filter p) : k ∈ ks := (List.mem_filter.mp h).1
theorem chosen_eq {st : Sto} {n : Nat} {pol : Str} {u : Int} {d : Nat} {ps : List (Int × Int)} {top last size : Int} (h : st[n]? = some (hOb pol u d ps top last)) (hl : ps.length ≤ 100000) (hp : PyData.strOk pol = true) :
    F_Heap_chosen [.ref n, .int size] st = .ok (.int (chI pol last ps size)) st := by
  have hb : (-4611686018427387904 : Int) ≤ (ps.length : Int) ∧ (ps.length : Int) < 4611686018427387904 := by omega
  have hz : ps.length ≤ sizeLine := by rw [sizeLine_eq]; omega
  have c1 : compL (.one 3) d_Heap_chosen_Q1 d_Heap_chosen_C1 [some (.ref n), some (.int size), none, none, none, none] (rng 0 (ps.length : Int)) [] st = .ok ((fitI ps size).map natD) st := by
    rw [rng0]
    exact compL_map natD (fun k => [some (.ref n), some (.int size), none, some (natD k), none, none]) (fun k => decide (size ≤ (getP ps k).2)) natD (fun _ _ => rfl) (fun k hk => q1_eq h (List.mem_range.mp hk)) (fun k _ _ => rfl) (by rw [List.length_range]; exact hz)
  have hfit : ∀ k ∈ fitI ps size, k < ps.length := fun k hk => (fit_lt hk).1
  have hfl : (fitI ps size).length ≤ sizeLine := by
    refine Nat.le_trans (List.length_filter_le _ _) ?_
    rw [List.length_range]; exact hz
  have w1 : wipeD [some (.ref n), some (.int size), none, none, none, none] [3] = [some (D.ref n), some (.int size), none, none, none, none] := rfl
  have b1 : PyData.strOk (Str.ofString "bump") = true := by decide +kernel
  have b2 : PyData.strOk (Str.ofString "best") = true := by decide +kernel
  have b3 : PyData.strOk (Str.ofString "next") = true := by decide +kernel
  have d1 := fun st => dq_str (neg := false) (st := st) hp b1
  have d2 := fun st => dq_str (neg := false) (st := st) hp b2
  have d3 := fun st => dq_str (neg := false) (st := st) hp b3
  have z1 := @dq_natnil
  unfold F_Heap_chosen d_Heap_chosen
  refine (def_go rfl).trans ?_
  rw [show startD 6 [D.ref n, D.int size] = [some (D.ref n), some (.int size), none, none, none, none] from rfl]
  unfold chI
  simp only
  generalize hf : fitI ps size = f at *
  have h' := h
  unfold hOb at h
  by_cases e1 : f = []
  · rw [if_pos (Or.inl e1)]
    have g1 : decide (f = []) = true := decide_eq_true e1
    clear e1
    walk_at "ev"
  · have a0 := at_nat0 e1
    have g1 : decide (f = []) = false := decide_eq_false e1
    have n0 : natD (f.headD 0) = .int ((f.headD 0 : Nat) : Int) := rfl
    by_cases e2 : pol = ("bump" : Str)
    · rw [if_pos (Or.inr e2)]
      have g2 : decide (pol = ("bump" : Str)) = true := decide_eq_true e2
      clear e2 e1
      walk_at "ev"
    · rw [if_neg (by rintro (q | q) <;> contradiction)]
      have g2 : decide (pol = ("bump" : Str)) = false := decide_eq_false e2
      clear e2
      unfold d_Heap_chosen_R1
      by_cases e3 : pol = ("best" : Str)
      · rw [if_pos e3]
        unfold d_Heap_chosen_B2
        have g3 : decide (pol = ("best" : Str)) = true := decide_eq_true e3
        clear e3
        have c2 : compL (.one 3) dYes d_Heap_chosen_C2 [some (.ref n), some (.int size), some (.lst (f.map natD)), none, none, none] (f.map natD) [] st = .ok ((f.map fun k => (getP ps k).2).map D.int) st := by
          rw [← mapInt, compL_map natD (fun k => [some (.ref n), some (.int size), some (.lst (f.map natD)), some (natD k), none, none]) (fun _ => true) (fun k => .int (getP ps k).2) (fun _ _ => rfl) (fun _ _ => rfl) (fun k hk _ => room_eq (e := none) h' (hfit k hk)) hfl]
          rw [filter_yes]
        have i1 := intsOf_map (f.map fun k => (getP ps k).2)
        obtain ⟨least, hm⟩ : ∃ m, minL (f.map fun k => (getP ps k).2) = some m := by
          cases f with
          | nil => exact (e1 rfl).elim
          | cons k ks => exact ⟨_, rfl⟩
        have hle : leastI ps f = least := by unfold leastI; rw [hm]; rfl
        rw [hle]
        have c3 : compL (.one 3) d_Heap_chosen_Q2 d_Heap_chosen_C3 [some (.ref n), some (.int size), some (.lst (f.map natD)), none, some (.int least), none] (f.map natD) [] st = .ok ((f.filter fun k => decide ((getP ps k).2 = least)).map natD) st :=
          compL_map natD (fun k => [some (.ref n), some (.int size), some (.lst (f.map natD)), some (natD k), some (.int least), none]) (fun k => decide ((getP ps k).2 = least)) natD (fun _ _ => rfl) (fun k hk => q2_eq h' (hfit k hk)) (fun _ _ _ => rfl) hfl
        have hne : f.filter (fun k => decide ((getP ps k).2 = least)) ≠ [] := by
          have hmem : least ∈ f.map fun k => (getP ps k).2 := by
            cases f with
            | nil => exact (e1 rfl).elim
            | cons k ks =>
              cases hm
              rcases (foldl_min (ks.map fun k => (getP ps k).2) (getP ps k).2).1 with q | q
              · rw [q]; exact List.mem_cons_self
              · exact List.mem_cons_of_mem _ q
          obtain ⟨k, hk, hk2⟩ := List.mem_map.mp hmem
          exact fun z => by
            have : k ∈ f.filter (fun k => decide ((getP ps k).2 = least)) := List.mem_filter.mpr ⟨hk, decide_eq_true hk2⟩
            rw [z] at this; cases this
        have a1 := at_nat0 hne
        have n1 : natD ((f.filter (fun k => decide ((getP ps k).2 = least))).headD 0) = .int (((f.filter (fun k => decide ((getP ps k).2 = least))).headD 0 : Nat) : Int) := rfl
        generalize f.filter (fun k => decide ((getP ps k).2 = least)) = f2 at *
        have w2 : wipeD [some (.ref n), some (.int size), some (.lst (f.map natD)), none, none, none] [3] = [some (D.ref n), some (.int size), some (.lst (f.map natD)), none, none, none] := rfl
        have w3 : wipeD [some (.ref n), some (.int size), some (.lst (f.map natD)), none, some (.int least), none] [3] = [some (D.ref n), some (.int size), some (.lst (f.map natD)), none, some (.int least), none] := rfl
        have om : (some (f.map fun k => (getP ps k).2)).bind (fun ns => (minL ns).map D.int) = some (D.int least) := by
          show (minL (f.map fun k => (getP ps k).2)).map D.int = _
          rw [hm]; rfl
        clear e1 hne hfit hf hle h' hm
        walk_at "ev"
      · rw [if_neg e3]
        unfold d_Heap_chosen_B3
        have g3 : decide (pol = ("best" : Str)) = false := decide_eq_false e3
        clear e3
        by_cases e4 : pol = ("next" : Str)
        · rw [if_pos e4]
          unfold d_Heap_chosen_B1
          have g4 : decide (pol = ("next" : Str)) = true := decide_eq_true e4
          clear e4
          have c3 : compL (.one 3) d_Heap_chosen_Q3 d_Heap_chosen_C4 [some (.ref n), some (.int size), some (.lst (f.map natD)), none, none, none] (f.map natD) [] st = .ok ((f.filter fun k => decide (last ≤ (getP ps k).1)).map natD) st :=
            compL_map natD (fun k => [some (.ref n), some (.int size), some (.lst (f.map natD)), some (natD k), none, none]) (fun k => decide (last ≤ (getP ps k).1)) natD (fun _ _ => rfl) (fun k hk => q3_eq h' (hfit k hk)) (fun _ _ _ => rfl) hfl
          have w2 : wipeD [some (.ref n), some (.int size), some (.lst (f.map natD)), none, none, none] [3] = [some (D.ref n), some (.int size), some (.lst (f.map natD)), none, none, none] := rfl
          generalize f.filter (fun k => decide (last ≤ (getP ps k).1)) = f2 at *
          by_cases e5 : f2 = []
          · rw [if_pos e5]
            have g5 : decide (f2 = []) = true := decide_eq_true e5
            clear e5 e1 hfit hf h'
            walk_at "ev"
          · rw [if_neg e5]
            have a1 := at_nat0 e5
            have n1 : natD (f2.headD 0) = .int ((f2.headD 0 : Nat) : Int) := rfl
            have g5 : decide (f2 = []) = false := decide_eq_false e5
            clear e5 e1 hfit hf h'
            walk_at "ev"
        · rw [if_neg e4]
          have g4 : decide (pol = ("next" : Str)) = false := decide_eq_false e4
          clear e4 e1 hfit hf h'
          walk_at "ev"
end K85

namespace K85
open PySem PySem.Spec PyProof.Rows L2 DL
/-! ### which piece, by the runs themselves -/
theorem range_getP (ps : List (Int × Int)) : (List.range ps.length).map (getP ps) = ps := by
  refine List.ext_getElem (by simp) fun i h1 h2 => ?_
  simp [getP, h2]
theorem fits_eq (ps : List (Int × Int)) (size : Int) : ps.filter (fun r => decide (size ≤ r.2)) = (fitI ps size).map (getP ps) := by
  conv => lhs; rw [← range_getP ps]
  rw [List.filter_map]
  rfl
theorem fit_sorted (ps : List (Int × Int)) (size : Int) : (fitI ps size).Pairwise (· < ·) := List.Pairwise.filter _ List.pairwise_lt_range
/-- the law's choice -/
def chL (pol : Str) (last : Int) (ps : List (Int × Int)) (size top : Int) : Int :=
  let f := ps.filter fun r => decide (size ≤ r.2)
  if pol = ("bump" : Str) ∨ f = [] then top
  else if pol = ("best" : Str) then ((sortP (f.map fun r => (r.2, r.1))).headD (0, 0)).2
  else if pol = ("next" : Str) then ((f.filter (fun r => decide (last ≤ r.1)) ++ f).headD (0, 0)).1
  else (f.headD (0, 0)).1
theorem head_mem {α : Type} {l : List α} {d : α} (h : l ≠ []) : l.headD d ∈ l := by
  cases l with
  | nil => exact (h rfl).elim
  | cons a l => exact List.mem_cons_self
theorem chI_at {pol : Str} {last size : Int} {ps : List (Int × Int)} (h : chI pol last ps size ≠ -1) : ∃ k : Nat, chI pol last ps size = k ∧ k ∈ fitI ps size := by
  unfold chI at h ⊢
  simp only at h ⊢
  generalize hf : fitI ps size = f at *
  by_cases e1 : f = [] ∨ pol = ("bump" : Str)
  · rw [if_pos e1] at h; exact (h rfl).elim
  · rw [if_neg e1] at h ⊢
    have hne : f ≠ [] := fun z => e1 (.inl z)
    by_cases e2 : pol = ("best" : Str)
    · rw [if_pos e2]
      refine ⟨_, rfl, ?_⟩
      by_cases e3 : f.filter (fun k => decide ((getP ps k).2 = leastI ps f)) = []
      · exfalso
        cases f with
        | nil => exact hne rfl
        | cons k ks =>
          have hl : leastI ps (k :: ks) = (ks.map fun k => (getP ps k).2).foldl min (getP ps k).2 := rfl
          have hm := (foldl_min (ks.map fun k => (getP ps k).2) (getP ps k).2).1
          rw [← hl] at hm
          have hm : leastI ps (k :: ks) ∈ (k :: ks).map fun k => (getP ps k).2 := by
            rcases hm with q | q
            · rw [q]; exact List.mem_cons_self
            · exact List.mem_cons_of_mem _ q
          obtain ⟨j, hj, hj2⟩ := List.mem_map.mp hm
          have : j ∈ (k :: ks).filter (fun j => decide ((getP ps j).2 = leastI ps (k :: ks))) := List.mem_filter.mpr ⟨hj, decide_eq_true hj2⟩
          rw [e3] at this; cases this
      · exact filt (head_mem e3)
    · rw [if_neg e2]
      by_cases e3 : pol = ("next" : Str)
      · rw [if_pos e3]
        by_cases e4 : f.filter (fun k => decide (last ≤ (getP ps k).1)) = []
        · rw [if_pos e4]; exact ⟨_, rfl, head_mem hne⟩
        · rw [if_neg e4]; exact ⟨_, rfl, filt (head_mem e4)⟩
      · rw [if_neg e3]; exact ⟨_, rfl, head_mem hne⟩
theorem headD_map {α β : Type} {f : α → β} {l : List α} {a : α} {b : β} (h : l ≠ []) : (l.map f).headD b = f (l.headD a) := by
  cases l with
  | nil => exact (h rfl).elim
  | cons x l => rfl
/-- the least by room, then by begin -/
theorem best_eq {ps : List (Int × Int)} {f : List Nat} (hs : f.Pairwise fun a b => (getP ps a).1 < (getP ps b).1) (hne : f ≠ []) :
    ((sortP (f.map fun k => ((getP ps k).2, (getP ps k).1))).headD (0, 0)).2 = (getP ps ((f.filter fun k => decide ((getP ps k).2 = leastI ps f)).headD 0)).1 := by
  obtain ⟨least, hm⟩ : ∃ m, minL (f.map fun k => (getP ps k).2) = some m := by
    cases f with
    | nil => exact (hne rfl).elim
    | cons k ks => exact ⟨_, rfl⟩
  have hle : leastI ps f = least := by unfold leastI; rw [hm]; rfl
  rw [hle]
  have hmin : least ∈ (f.map fun k => (getP ps k).2) ∧ ∀ k ∈ f, least ≤ (getP ps k).2 := by
    cases f with
    | nil => exact (hne rfl).elim
    | cons k ks =>
      cases hm
      obtain ⟨q1, q2, q3⟩ := foldl_min (ks.map fun k => (getP ps k).2) (getP ps k).2
      refine ⟨?_, fun j hj => ?_⟩
      · rcases q1 with q | q
        · rw [q]; exact List.mem_cons_self
        · exact List.mem_cons_of_mem _ q
      · rcases List.mem_cons.mp hj with e | hj
        · rw [e]; exact q2
        · exact q3 _ (List.mem_map.mpr ⟨j, hj, rfl⟩)
  obtain ⟨j, hj, hj2⟩ := List.mem_map.mp hmin.1
  have hjf : j ∈ f.filter fun k => decide ((getP ps k).2 = least) := List.mem_filter.mpr ⟨hj, decide_eq_true hj2⟩
  have hs2 := hs.filter (fun k => decide ((getP ps k).2 = least))
  have hkm : ∀ k ∈ f.filter (fun k => decide ((getP ps k).2 = least)), (getP ps k).2 = least := fun k hk => of_decide_eq_true (List.mem_filter.mp hk).2
  have hsub : ∀ k ∈ f.filter (fun k => decide ((getP ps k).2 = least)), k ∈ f := fun k hk => filt hk
  have hall : ∀ k ∈ f, (getP ps k).2 = least → k ∈ f.filter (fun k => decide ((getP ps k).2 = least)) := fun k hk e => List.mem_filter.mpr ⟨hk, decide_eq_true e⟩
  generalize f.filter (fun k => decide ((getP ps k).2 = least)) = f2 at *
  cases f2 with
  | nil => cases hjf
  | cons k0 rest =>
    show ((sortP (f.map fun k => ((getP ps k).2, (getP ps k).1))).headD (0, 0)).2 = (getP ps k0).1
    have hp := sortP_perm (f.map fun k => ((getP ps k).2, (getP ps k).1))
    have ho := sortP_sorted (f.map fun k => ((getP ps k).2, (getP ps k).1))
    cases hq : sortP (f.map fun k => ((getP ps k).2, (getP ps k).1)) with
    | nil =>
      rw [hq] at hp
      have := hp.length_eq
      cases f with
      | nil => exact (hne rfl).elim
      | cons _ _ => simp at this
    | cons m ms =>
      rw [hq] at hp ho
      show m.2 = _
      have c1 : (least, (getP ps k0).1) ∈ m :: ms := hp.mem_iff.mpr (List.mem_map.mpr ⟨k0, hsub k0 List.mem_cons_self, by rw [hkm k0 List.mem_cons_self]⟩)
      have c2 : m = (least, (getP ps k0).1) ∨ lexLe m (least, (getP ps k0).1) = true := by
        rcases List.mem_cons.mp c1 with e | e
        · exact .inl e.symm
        · exact .inr ((List.pairwise_cons.mp ho).1 _ e)
      rcases c2 with e | e
      · rw [e]
      · obtain ⟨k, hk, hk2⟩ := List.mem_map.mp (hp.mem_iff.mp (List.mem_cons_self (a := m) (l := ms)))
        have e := lexLe_iff.mp e
        have e1 : (getP ps k).2 = m.1 := by rw [← hk2]
        have e2 : (getP ps k).1 = m.2 := by rw [← hk2]
        have l1 := hmin.2 k hk
        have e : m.1 < least ∨ (m.1 = least ∧ m.2 ≤ (getP ps k0).1) := e
        have e3 : m.1 = least := by omega
        have hk3 := hall k hk (by rw [e1, e3])
        rcases List.mem_cons.mp hk3 with e4 | e4
        · rw [← e2, e4]
        · have := (List.pairwise_cons.mp hs2).1 k e4
          omega
/-- both choose alike -/
theorem ch_eq {pol : Str} {last size top : Int} {ps : List (Int × Int)} (hs : ps.Pairwise fun a b => a.1 < b.1) :
    (chI pol last ps size = -1 → chL pol last ps size top = top) ∧ ∀ k : Nat, chI pol last ps size = k → chL pol last ps size top = (getP ps k).1 := by
  have hf : (fitI ps size).Pairwise fun a b => (getP ps a).1 < (getP ps b).1 := by
    have hb : ∀ k ∈ fitI ps size, k < ps.length := fun k hk => (fit_lt hk).1
    refine List.Pairwise.imp_of_mem (fun {a b} ha hb' hab => ?_) (fit_sorted ps size)
    have la := hb a ha
    have lb := hb b hb'
    have := List.pairwise_iff_getElem.mp hs a b la lb hab
    simpa [getP, la, lb] using this
  unfold chI chL
  simp only
  rw [fits_eq]
  have hneg : ∀ n : Nat, ((n : Int)) ≠ -1 := fun n => by omega
  by_cases e1 : fitI ps size = []
  · rw [if_pos (Or.inl e1), if_pos (Or.inr (by rw [e1]; rfl))]
    exact ⟨fun _ => rfl, fun k hk => (hneg k hk.symm).elim⟩
  · by_cases e2 : pol = ("bump" : Str)
    · rw [if_pos (Or.inr e2), if_pos (Or.inl e2)]
      exact ⟨fun _ => rfl, fun k hk => (hneg k hk.symm).elim⟩
    · have hA : ¬ (fitI ps size = [] ∨ pol = ("bump" : Str)) := by rintro (q | q) <;> contradiction
      have hB : ¬ (pol = ("bump" : Str) ∨ (fitI ps size).map (getP ps) = []) := by
        rintro (q | q)
        · exact e2 q
        · exact e1 (List.map_eq_nil_iff.mp q)
      rw [if_neg hA, if_neg hB]
      by_cases e3 : pol = ("best" : Str)
      · rw [if_pos e3, if_pos e3]
        refine ⟨fun h => (hneg _ h).elim, fun k hk => ?_⟩
        rw [List.map_map]
        have := best_eq hf e1
        rw [Int.ofNat_inj.mp hk] at this
        exact this
      · rw [if_neg e3, if_neg e3]
        by_cases e4 : pol = ("next" : Str)
        · rw [if_pos e4, if_pos e4]
          rw [List.filter_map]
          have hc : ((fun r : Int × Int => decide (last ≤ r.1)) ∘ getP ps) = fun k => decide (last ≤ (getP ps k).1) := rfl
          rw [hc]
          by_cases e5 : (fitI ps size).filter (fun k => decide (last ≤ (getP ps k).1)) = []
          · rw [if_pos e5, e5]
            refine ⟨fun h => (hneg _ h).elim, fun k hk => ?_⟩
            rw [← Int.ofNat_inj.mp hk]
            show (((fitI ps size).map (getP ps)).headD (0, 0)).1 = _
            rw [headD_map (a := 0) e1]
          · rw [if_neg e5]
            refine ⟨fun h => (hneg _ h).elim, fun k hk => ?_⟩
            rw [← Int.ofNat_inj.mp hk]
            generalize (fitI ps size).filter (fun k => decide (last ≤ (getP ps k).1)) = f2 at *
            cases f2 with
            | nil => exact (e5 rfl).elim
            | cons a r => rfl
        · rw [if_neg e4, if_neg e4]
          refine ⟨fun h => (hneg _ h).elim, fun k hk => ?_⟩
          rw [← Int.ofNat_inj.mp hk, headD_map (a := 0) e1]
theorem split_at {ps : List (Int × Int)} {k : Nat} (h : k < ps.length) : ps = ps.take k ++ getP ps k :: ps.drop (k + 1) := by
  have : getP ps k = ps[k] := by simp [getP, h]
  rw [this, ← List.drop_eq_getElem_cons h, List.take_append_drop]
theorem cut_take {α : Type} {xs : List α} {k : Nat} (h : k ≤ xs.length) : cutL xs none (some (k : Int)) = xs.take k := by
  unfold cutL
  rw [HT.sIx_none, HT.sIx_nat, Nat.min_eq_left h, Nat.sub_zero, List.drop_zero]
theorem cut_drop {α : Type} {xs : List α} {k : Nat} (h : k ≤ xs.length) : cutL xs (some (k : Int)) none = xs.drop k := by
  unfold cutL
  rw [HT.sIx_none, HT.sIx_nat, Nat.min_eq_left h, ← List.length_drop, List.take_length]
/-! ### the dict of sizes -/
theorem valD_sz {S : List (Int × Int)} {a : Int} (h : ∀ p ∈ S, p.1 ≠ a) : valD (szD S) (Sum.inl a : Key) = none := by
  induction S with
  | nil => rfl
  | cons p S ih =>
    have h1 := h p List.mem_cons_self
    have : valD (szD (p :: S)) (Sum.inl a : Key) = if (Sum.inl p.1 : Key) = Sum.inl a then some (.int p.2) else valD (szD S) (Sum.inl a) := rfl
    rw [this, if_neg (by intro e; exact h1 (Sum.inl.inj e)), ih fun q hq => h q (List.mem_cons_of_mem _ hq)]
theorem putD_sz {S : List (Int × Int)} {a s : Int} (h : ∀ p ∈ S, p.1 ≠ a) : putD (szD S) (Sum.inl a : Key) (.int s) = szD (S ++ [(a, s)]) := by
  unfold putD
  rw [valD_sz h]
  unfold szD
  rw [List.map_append]
  rfl
theorem valD_mid {S1 S2 : List (Int × Int)} {a s : Int} (h : ∀ p ∈ S1, p.1 ≠ a) : valD (szD (S1 ++ (a, s) :: S2)) (Sum.inl a : Key) = some (.int s) := by
  induction S1 with
  | nil =>
    show (if (Sum.inl a : Key) = Sum.inl a then some (.int s) else valD (szD S2) (Sum.inl a)) = _
    rw [if_pos rfl]
  | cons p S ih =>
    have h1 := h p List.mem_cons_self
    have : valD (szD (p :: S ++ (a, s) :: S2)) (Sum.inl a : Key) = if (Sum.inl p.1 : Key) = Sum.inl a then some (.int p.2) else valD (szD (S ++ (a, s) :: S2)) (Sum.inl a) := rfl
    rw [this, if_neg (by intro e; exact h1 (Sum.inl.inj e)), ih fun q hq => h q (List.mem_cons_of_mem _ hq)]
theorem dropD_sz {S : List (Int × Int)} {a : Int} (h : ∀ p ∈ S, p.1 ≠ a) : dropD (szD S) (Sum.inl a : Key) = szD S := by
  induction S with
  | nil => rfl
  | cons p S ih =>
    have h1 := h p List.mem_cons_self
    have : dropD (szD (p :: S)) (Sum.inl a : Key) = if (Sum.inl p.1 : Key) = Sum.inl a then dropD (szD S) (Sum.inl a) else (Sum.inl p.1, .int p.2) :: dropD (szD S) (Sum.inl a) := rfl
    rw [this, if_neg (by intro e; exact h1 (Sum.inl.inj e)), ih fun q hq => h q (List.mem_cons_of_mem _ hq)]
    rfl
theorem dropD_mid {S1 S2 : List (Int × Int)} {a s : Int} (h1 : ∀ p ∈ S1, p.1 ≠ a) (h2 : ∀ p ∈ S2, p.1 ≠ a) : dropD (szD (S1 ++ (a, s) :: S2)) (Sum.inl a : Key) = szD (S1 ++ S2) := by
  induction S1 with
  | nil =>
    show (if (Sum.inl a : Key) = Sum.inl a then dropD (szD S2) (Sum.inl a) else _) = _
    rw [if_pos rfl, dropD_sz h2]
    rfl
  | cons p S ih =>
    have h1' := h1 p List.mem_cons_self
    have : dropD (szD (p :: S ++ (a, s) :: S2)) (Sum.inl a : Key) = if (Sum.inl p.1 : Key) = Sum.inl a then dropD (szD (S ++ (a, s) :: S2)) (Sum.inl a) else (Sum.inl p.1, .int p.2) :: dropD (szD (S ++ (a, s) :: S2)) (Sum.inl a) := rfl
    rw [this, if_neg (by intro e; exact h1' (Sum.inl.inj e)), ih fun q hq => h1 q (List.mem_cons_of_mem _ hq)]
    rfl
theorem len_sz (S : List (Int × Int)) : (szD S).length = S.length := List.length_map _
end K85

namespace K85
open PySem PySem.Spec PyProof.Rows L2 DL
local macro_rules | `(tactic| walk_at "ev") => `(tactic| simp only [*, dSeq, dAsg, dIfS, dRet, dRetN, dNext, dDrop, dVar, dC, dBin, dTst, dTru, dNotT, dAndT, dOrT, dAndV, dOrV, dNotV, dIf, dChain, dNil, dCons, dTup, dLst, dNew, dApp, dNeg, gN, R.bind, R.stm, R.tru, R.opt, R.fin, dPutA, sPutA, sPutK, dDisp, dPNil, dPCons, dFor, iRng1D,
  dIxA, dIx, dGetK, dicOf, DL.keyOf, seqOf, cLen, cAbs, cMin2, cMax2, cInt, cTuple, cIsi, tyNm, dLtI, dLeI, dGtI, dGeI, cmpI, opI2, dAdd, dSub, dMul, dDiv, dMod, dPow, dBMT, isT, mAppend, truD, List.getElem?_cons_zero, List.getElem?_cons_succ, List.set_cons_zero, List.set_cons_succ, ↓reduceIte, if_true, if_false, Bool.false_eq_true, Option.isSome_some, Option.isSome_none, valD, mergeD,
  Sum.inr.injEq, ofStr_inj, String.reduceEq, sizeLine_eq, List.length_cons, List.length_nil, List.length_map, Nat.reduceAdd, Nat.reduceLT, Nat.reduceLeDiff, decide_true, decide_false, decide_eq_true_eq, Bool.and_eq_true, and_true, true_and, and_self, Int.reduceLT, Int.reduceLE, Int.reducePow, Int.reduceNeg, Bool.true_and, Bool.and_true, beq_self_eq_true, dInA, dIn, dq_int, dq_bl, dIs, flatD, inD, List.any_cons, List.any_nil, eqF, List.all_cons, List.all_nil, isTy, dComp, dSl, dNoPart, dPart, dCut, iZipD, gTupN, gNames, gTupX, gxCons, gxNil, gFld, setF, putFD, fldV, dFld, dFldS, dFldAug, dAddI, R.nox, dMeth, dMake, dGet1, dGet2, dPop1, cRow, cSorted, cAll1, cMin1, cTuple, sqlOf, iAny, iRng2D, dAug, dCut, dDispE, dNew, dShl, cListA, cList, keyD, dropD, Int.cast_ofNat_Int, Int.natCast_zero, Int.natCast_one, Bool.true_or, Bool.or_true, Bool.false_or, Bool.or_false, Bool.not_true, Bool.not_false, Bool.true_xor, Bool.false_xor, Bool.xor_true, Bool.xor_false, Bool.false_and, Bool.and_false, String.reduceBEq, Bool.not_not, reduceCtorEq, lstOf, List.length_append, List.isEmpty_nil, List.isEmpty_cons, List.mem_cons, List.not_mem_nil, or_false, or_true, true_or, p2D, Bool.true_eq_false, Bool.false_eq_true])


/-! ### take -/
def sizeU (u many : Int) : Int := ((if many > 1 then many else 1) + u - 1) / u * u
theorem take_R1 {A : Ob} {R : Sto} {pol : Str} {u top last s a : Int} {ps S : List (Int × Int)} {x1 x3 x5 x6 : Option D} (hS : S.length ≤ 100000) (hn : ∀ p ∈ S, p.1 ≠ a) :
    d_Heap_take_R1 F_Heap_chosen [some (.ref 1), x1, some (.int s), x3, some (.int a), x5, x6] (A :: hOb pol u 2 ps top last :: .dK (szD S) :: R) = .ok (.rt (.int a), [some (.ref 1), x1, some (.int s), x3, some (.int a), x5, x6]) (A :: hOb pol u 2 ps top (a + s) :: .dK (szD (S ++ [(a, s)])) :: R) := by
  have p1 := putD_sz (s := s) hn
  have z1 : (szD S).length < 16777216 := by rw [len_sz]; omega
  unfold hOb d_Heap_take_R1
  walk_at "ev"
theorem take_B1 {A : Ob} {R : Sto} {pol : Str} {u top last s : Int} {ps S : List (Int × Int)} {x1 x3 x4 x5 x6 : Option D} :
    d_Heap_take_B1 F_Heap_chosen [some (.ref 1), x1, some (.int s), x3, x4, x5, x6] (A :: hOb pol u 2 ps top last :: .dK (szD S) :: R) = .ok (.nx, [some (.ref 1), x1, some (.int s), x3, some (.int top), x5, x6]) (A :: hOb pol u 2 ps (top + s) last :: .dK (szD S) :: R) := by
  unfold hOb d_Heap_take_B1
  walk_at "ev"
theorem take_B2 {A : Ob} {R : Sto} {pol : Str} {u top last s b l : Int} {pre post S : List (Int × Int)} {x1 x4 x5 x6 : Option D} (hl : (pre ++ (b, l) :: post).length ≤ 100000) :
    ∃ x6', d_Heap_take_B2 F_Heap_chosen [some (.ref 1), x1, some (.int s), some (.int (pre.length : Nat)), x4, x5, x6] (A :: hOb pol u 2 (pre ++ (b, l) :: post) top last :: .dK (szD S) :: R) =
      .ok (.nx, [some (.ref 1), x1, some (.int s), some (.int (pre.length : Nat)), some (.int b), some (.int l), x6']) (A :: hOb pol u 2 (pre ++ restOf b l s ++ post) top last :: .dK (szD S) :: R) := by
  have h1 : atI ((pre ++ (b, l) :: post).map p2D) (pre.length : Int) = some (p2D (b, l)) := by
    refine atI_nat ?_
    rw [List.getElem?_map, List.getElem?_append_right (Nat.le_refl _), Nat.sub_self]
    rfl
  have k1 : cutL ((pre ++ (b, l) :: post).map p2D) none (some ((pre.length : Nat) : Int)) = pre.map p2D := by
    rw [cut_take (by simp), ← List.map_take, List.take_left']
    rfl
  have k2 : cutL ((pre ++ (b, l) :: post).map p2D) (some ((pre.length : Int) + 1)) none = post.map p2D := by
    rw [show ((pre.length : Int) + 1) = ((pre.length + 1 : Nat) : Int) by omega, cut_drop (by simp), ← List.map_drop]
    congr 1
    rw [show pre ++ (b, l) :: post = (pre ++ [(b, l)]) ++ post by simp, List.drop_left']
    simp
  have hp : pre.length + post.length ≤ 99999 := by simp at hl; omega
  generalize (pre ++ (b, l) :: post) = ps at *
  unfold hOb d_Heap_take_B2 restOf
  by_cases e : l = s
  · refine ⟨some (.lst []), ?_⟩
    rw [if_pos e]
    have g : decide (l = s) = true := decide_eq_true e
    have l1 : pre.length + 0 ≤ 16777216 := by omega
    have l2 : pre.length + 0 + post.length ≤ 16777216 := by omega
    rw [List.map_append, List.map_append]
    clear hp e
    walk_at "ev"
    rfl
  · refine ⟨some (.lst [p2D (b + s, l - s)]), ?_⟩
    rw [if_neg e]
    have g : decide (l = s) = false := decide_eq_false e
    rw [List.map_append, List.map_append]
    have l1 : pre.length + (0 + 1) ≤ 16777216 := by omega
    have l2 : pre.length + (0 + 1) + post.length ≤ 16777216 := by omega
    have l3 : pre.length + 1 ≤ 16777216 := by omega
    have l4 : pre.length + 1 + post.length ≤ 16777216 := by omega
    clear hp e
    walk_at "ev"
    rfl

theorem take_size {A : Ob} {R : Sto} {pol : Str} {u top last many : Int} {ps S : List (Int × Int)} {x2 x3 x4 x5 x6 : Option D} (hu : 1 ≤ u) (hu2 : u ≤ 8) (hm : 0 ≤ many) (hm2 : many ≤ 100) :
    (dBin dMul (dBin dDiv (dBin dSub (dBin dAdd (dApp cMax2 (dCons (dC (.int 1)) (dCons (dVar 1) (dNil)))) (dFld "_unit" ["Heap"] (dVar 0))) (dC (.int 1))) (dFld "_unit" ["Heap"] (dVar 0))) (dFld "_unit" ["Heap"] (dVar 0)))
      [some (.ref 1), some (.int many), x2, x3, x4, x5, x6] (A :: hOb pol u 2 ps top last :: .dK (szD S) :: R) = .ok (.int (sizeU u many)) (A :: hOb pol u 2 ps top last :: .dK (szD S) :: R) := by
  have g1 : u.natAbs.log2 < 9000 := by have := log2_small (a := u) (by omega); omega
  have b1 : (0 : Int) ≤ ((if many > 1 then many else 1) + u - 1) / u ∧ ((if many > 1 then many else 1) + u - 1) / u ≤ 200 := by
    have h1 : 0 ≤ (if many > 1 then many else 1) + u - 1 := by split <;> omega
    have h2 : (if many > 1 then many else 1) + u - 1 ≤ 200 := by split <;> omega
    exact ⟨Int.ediv_nonneg h1 (by omega), Int.le_trans (Int.ediv_le_self _ h1) h2⟩
  have m1 : (((if many > 1 then many else 1) + u - 1) / u).natAbs.log2 + u.natAbs.log2 < 1000000 := mul_lt (by omega) (by omega)
  have u0 : 0 < u := by omega
  clear b1
  unfold hOb sizeU
  walk_at "ev"
theorem meth_at {m : Str} {F : DF} {pol : Str} {u top last : Int} {d : Nat} {ps : List (Int × Int)} {τ : En} {st st' : Sto} {n i : Nat} {t : DA} {ds : List D} {v : D} (h0 : τ[i]? = some (some (.ref n))) (hn : st[n]? = some (hOb pol u d ps top last))
    (hm : valD [(("_policy" : Str), D.str pol), ("_unit", .int u), ("_sizes", .ref d), ("_pieces", .lst (ps.map p2D)), ("_top", .int top), ("_last", .int last)] m = none) (ht : t τ st = .ok ds st) (h : F (.ref n :: ds) st = .ok v st') :
    dMeth "Heap" m F (dVar i) t τ st = .ok v st' := by
  unfold hOb at hn
  unfold dMeth dVar
  simp only [h0, DL.R.bind, hn, hm, and_self, if_true, ht, h]
theorem take_meth {A : Ob} {R : Sto} {pol : Str} {u top last size : Int} {ps S : List (Int × Int)} {x1 x3 x4 x5 x6 : Option D} (hl : ps.length ≤ 100000) (hp : PyData.strOk pol = true) :
    dMeth "Heap" "chosen" F_Heap_chosen (dVar 0) (dCons (dVar 2) (dNil)) [some (.ref 1), x1, some (.int size), x3, x4, x5, x6] (A :: hOb pol u 2 ps top last :: .dK (szD S) :: R) = .ok (.int (chI pol last ps size)) (A :: hOb pol u 2 ps top last :: .dK (szD S) :: R) := by
  refine meth_at (pol := pol) (u := u) (d := 2) (ps := ps) (top := top) (last := last) (n := 1) rfl rfl ?_ (ds := [.int size]) rfl (chosen_eq rfl hl hp)
  simp only [valD, ofStr_inj, String.reduceEq, if_false]
theorem take_top {A : Ob} {R : Sto} {pol : Str} {u top last many : Int} {ps S : List (Int × Int)} (hu : 1 ≤ u) (hu2 : u ≤ 8) (hm : 0 ≤ many) (hm2 : many ≤ 100) (hl : ps.length ≤ 100000) (hp : PyData.strOk pol = true)
    (hc : chI pol last ps (sizeU u many) = -1) (hS : S.length ≤ 100000) (hn : ∀ p ∈ S, p.1 ≠ top) :
    F_Heap_take F_Heap_chosen [.ref 1, .int many] (A :: hOb pol u 2 ps top last :: .dK (szD S) :: R) = .ok (.int top) (A :: hOb pol u 2 ps (top + sizeU u many) (top + sizeU u many) :: .dK (szD (S ++ [(top, sizeU u many)])) :: R) := by
  unfold F_Heap_take d_Heap_take
  refine (def_go rfl).trans ?_
  rw [show startD 7 [D.ref 1, D.int many] = [some (D.ref 1), some (.int many), none, none, none, none, none] from rfl]
  rw [seq_nx (asg_nx (take_size hu hu2 hm hm2))]
  simp only [List.set_cons_succ, List.set_cons_zero]
  rw [seq_nx (asg_nx (take_meth hl hp)), hc]
  simp only [List.set_cons_succ, List.set_cons_zero]
  rw [seq_nx ((ifs_t (by rfl)).trans take_B1)]
  rw [take_R1 hS hn]
theorem take_at {A : Ob} {R : Sto} {pol : Str} {u top last many b l : Int} {pre post S : List (Int × Int)} (hu : 1 ≤ u) (hu2 : u ≤ 8) (hm : 0 ≤ many) (hm2 : many ≤ 100) (hl : (pre ++ (b, l) :: post).length ≤ 100000) (hp : PyData.strOk pol = true)
    (hc : chI pol last (pre ++ (b, l) :: post) (sizeU u many) = (pre.length : Nat)) (hS : S.length ≤ 100000) (hn : ∀ p ∈ S, p.1 ≠ b) :
    F_Heap_take F_Heap_chosen [.ref 1, .int many] (A :: hOb pol u 2 (pre ++ (b, l) :: post) top last :: .dK (szD S) :: R) =
      .ok (.int b) (A :: hOb pol u 2 (pre ++ restOf b l (sizeU u many) ++ post) top (b + sizeU u many) :: .dK (szD (S ++ [(b, sizeU u many)])) :: R) := by
  unfold F_Heap_take d_Heap_take
  refine (def_go rfl).trans ?_
  rw [show startD 7 [D.ref 1, D.int many] = [some (D.ref 1), some (.int many), none, none, none, none, none] from rfl]
  rw [seq_nx (asg_nx (take_size hu hu2 hm hm2))]
  simp only [List.set_cons_succ, List.set_cons_zero]
  rw [seq_nx (asg_nx (take_meth hl hp)), hc]
  simp only [List.set_cons_succ, List.set_cons_zero]
  obtain ⟨x6, h⟩ := take_B2 (A := A) (R := R) (pol := pol) (u := u) (top := top) (last := last) (s := sizeU u many) (S := S) (x1 := some (.int many)) (x4 := none) (x5 := none) (x6 := none) hl
  rw [seq_nx ((ifs_f (by
    show DL.R.ok (decide (((pre.length : Nat) : Int) < 0)) _ = _
    rw [decide_eq_false (by omega)])).trans h)]
  rw [take_R1 hS hn]
end K85

namespace K85
open PySem PySem.Spec PyProof.Rows L2 DL
local macro_rules | `(tactic| walk_at "ev") => `(tactic| simp only [*, dSeq, dAsg, dIfS, dRet, dRetN, dNext, dDrop, dVar, dC, dBin, dTst, dTru, dNotT, dAndT, dOrT, dAndV, dOrV, dNotV, dIf, dChain, dNil, dCons, dTup, dLst, dNew, dApp, dNeg, gN, R.bind, R.stm, R.tru, R.opt, R.fin, dPutA, sPutA, sPutK, dDisp, dPNil, dPCons, dFor, iRng1D,
  dIxA, dIx, dGetK, dicOf, DL.keyOf, seqOf, cLen, cAbs, cMin2, cMax2, cInt, cTuple, cIsi, tyNm, dLtI, dLeI, dGtI, dGeI, cmpI, opI2, dAdd, dSub, dMul, dDiv, dMod, dPow, dBMT, isT, mAppend, truD, List.getElem?_cons_zero, List.getElem?_cons_succ, List.set_cons_zero, List.set_cons_succ, ↓reduceIte, if_true, if_false, Bool.false_eq_true, Option.isSome_some, Option.isSome_none, valD, mergeD,
  Sum.inr.injEq, ofStr_inj, String.reduceEq, sizeLine_eq, List.length_cons, List.length_nil, List.length_map, Nat.reduceAdd, Nat.reduceLT, Nat.reduceLeDiff, decide_true, decide_false, decide_eq_true_eq, Bool.and_eq_true, and_true, true_and, and_self, Int.reduceLT, Int.reduceLE, Int.reducePow, Int.reduceNeg, Bool.true_and, Bool.and_true, beq_self_eq_true, dInA, dIn, dq_int, dq_bl, dIs, flatD, inD, List.any_cons, List.any_nil, eqF, List.all_cons, List.all_nil, isTy, dComp, dSl, dNoPart, dPart, dCut, iZipD, gTupN, gNames, gTupX, gxCons, gxNil, gFld, setF, putFD, fldV, dFld, dFldS, dFldAug, dAddI, R.nox, dMeth, dMake, dGet1, dGet2, dPop1, cRow, cSorted, cAll1, cMin1, cTuple, sqlOf, iAny, iRng2D, dAug, dCut, dDispE, dNew, dShl, cListA, cList, keyD, dropD, Int.cast_ofNat_Int, Int.natCast_zero, Int.natCast_one, Bool.true_or, Bool.or_true, Bool.false_or, Bool.or_false, Bool.not_true, Bool.not_false, Bool.true_xor, Bool.false_xor, Bool.xor_true, Bool.xor_false, Bool.false_and, Bool.and_false, String.reduceBEq, Bool.not_not, reduceCtorEq, lstOf, List.length_append, List.isEmpty_nil, List.isEmpty_cons, List.mem_cons, List.not_mem_nil, or_false, or_true, true_or, p2D, Bool.true_eq_false, Bool.false_eq_true])



/-! ### give -/
section
variable {st : Sto} {n : Nat} {acc : List (Int × Int)} {a0 a1 a2 : Option D} {f e b l : Int}
theorem give_L1a (h : b + l = f) : d_Heap_give_L1 [a0, a1, a2, some (.int f), some (.int e), some (.ref n), some (.int b), some (.int l)] st = .ok (.nx, [a0, a1, a2, some (.int b), some (.int e), some (.ref n), some (.int b), some (.int l)]) st := by
  have g : decide (b + l = f) = true := decide_eq_true h
  clear h
  unfold d_Heap_give_L1
  walk_at "ev"
theorem give_L1b (h : ¬ b + l = f) (h2 : b = e) : d_Heap_give_L1 [a0, a1, a2, some (.int f), some (.int e), some (.ref n), some (.int b), some (.int l)] st = .ok (.nx, [a0, a1, a2, some (.int f), some (.int (b + l)), some (.ref n), some (.int b), some (.int l)]) st := by
  have g : decide (b + l = f) = false := decide_eq_false h
  have g2 : decide (b = e) = true := decide_eq_true h2
  clear h h2
  unfold d_Heap_give_L1 d_Heap_give_B1
  walk_at "ev"
theorem give_L1c (h : ¬ b + l = f) (h2 : ¬ b = e) (hn : st[n]? = some (.lst (acc.map p2D))) (hl : acc.length < 16777216) : d_Heap_give_L1 [a0, a1, a2, some (.int f), some (.int e), some (.ref n), some (.int b), some (.int l)] st = .ok (.nx, [a0, a1, a2, some (.int f), some (.int e), some (.ref n), some (.int b), some (.int l)]) (st.set n (.lst ((acc ++ [(b, l)]).map p2D))) := by
  have g : decide (b + l = f) = false := decide_eq_false h
  have g2 : decide (b = e) = false := decide_eq_false h2
  clear h h2
  unfold d_Heap_give_L1 d_Heap_give_B1
  rw [List.map_append]
  walk_at "ev"
  rfl
theorem set_same {o : Ob} (h : st[n]? = some o) : st.set n o = st := by
  refine List.ext_getElem? fun i => ?_
  rw [List.getElem?_set]
  by_cases e : n = i
  · subst e
    rw [if_pos rfl, if_pos (List.getElem?_eq_some_iff.mp h).1, h]
  · rw [if_neg e]
theorem get_set {o o' : Ob} (h : st[n]? = some o) : (st.set n o')[n]? = some o' := List.getElem?_set_self (List.getElem?_eq_some_iff.mp h).1
end
theorem give_loop {n : Nat} {a0 a1 a2 : Option D} : ∀ {ps : List (Int × Int)} {st : Sto} {acc : List (Int × Int)} {f e : Int} {b l : Option D}, st[n]? = some (.lst (acc.map p2D)) → acc.length + ps.length ≤ 100000 →
    ∃ b' l', forL (gTupN [6, 7]) d_Heap_give_L1 (ps.map p2D) [a0, a1, a2, some (.int f), some (.int e), some (.ref n), b, l] st =
      .ok (.nx, [a0, a1, a2, some (.int (mgL ps f e).1), some (.int (mgL ps f e).2.1), some (.ref n), b', l']) (st.set n (.lst ((acc ++ (mgL ps f e).2.2).map p2D)))
  | [], st, acc, f, e, b, l, h, _ => ⟨b, l, by
    rw [show acc ++ (mgL [] f e).2.2 = acc from List.append_nil _, set_same h]
    rfl⟩
  | p :: ps, st, acc, f, e, b, l, h, hl => by
    rw [List.length_cons] at hl
    have step : forL (gTupN [6, 7]) d_Heap_give_L1 ((p :: ps).map p2D) [a0, a1, a2, some (.int f), some (.int e), some (.ref n), b, l] st =
      (d_Heap_give_L1 [a0, a1, a2, some (.int f), some (.int e), some (.ref n), some (.int p.1), some (.int p.2)] st).turn fun τ st => forL (gTupN [6, 7]) d_Heap_give_L1 (ps.map p2D) τ st := rfl
    rw [step]
    by_cases h1 : p.1 + p.2 = f
    · obtain ⟨b', l', q⟩ := give_loop (ps := ps) (f := p.1) (e := e) (b := some (.int p.1)) (l := some (.int p.2)) h (by omega)
      refine ⟨b', l', ?_⟩
      rw [give_L1a h1]
      have em : mgL (p :: ps) f e = mgL ps p.1 e := by rw [mgL, if_pos h1]
      rw [em]
      exact q
    · by_cases h2 : p.1 = e
      · obtain ⟨b', l', q⟩ := give_loop (ps := ps) (f := f) (e := p.1 + p.2) (b := some (.int p.1)) (l := some (.int p.2)) h (by omega)
        refine ⟨b', l', ?_⟩
        rw [give_L1b h1 h2]
        have em : mgL (p :: ps) f e = mgL ps f (p.1 + p.2) := by rw [mgL, if_neg h1, if_pos h2]
        rw [em]
        exact q
      · obtain ⟨b', l', q⟩ := give_loop (ps := ps) (f := f) (e := e) (acc := acc ++ [p]) (st := st.set n (.lst ((acc ++ [(p.1, p.2)]).map p2D))) (b := some (.int p.1)) (l := some (.int p.2)) (get_set h) (by simp; omega)
        refine ⟨b', l', ?_⟩
        rw [give_L1c h1 h2 h (by omega)]
        have em : mgL (p :: ps) f e = ((mgL ps f e).1, (mgL ps f e).2.1, p :: (mgL ps f e).2.2) := by rw [mgL, if_neg h1, if_neg h2]
        rw [em]
        refine Eq.trans q ?_
        rw [List.set_set, List.append_assoc]
        rfl
end K85

namespace K85
open PySem PySem.Spec PyProof.Rows L2 DL
local macro_rules | `(tactic| walk_at "ev") => `(tactic| simp only [*, dSeq, dAsg, dIfS, dRet, dRetN, dNext, dDrop, dVar, dC, dBin, dTst, dTru, dNotT, dAndT, dOrT, dAndV, dOrV, dNotV, dIf, dChain, dNil, dCons, dTup, dLst, dNew, dApp, dNeg, gN, R.bind, R.stm, R.tru, R.opt, R.fin, dPutA, sPutA, sPutK, dDisp, dPNil, dPCons, dFor, iRng1D,
  dIxA, dIx, dGetK, dicOf, DL.keyOf, seqOf, cLen, cAbs, cMin2, cMax2, cInt, cTuple, cIsi, tyNm, dLtI, dLeI, dGtI, dGeI, cmpI, opI2, dAdd, dSub, dMul, dDiv, dMod, dPow, dBMT, isT, mAppend, truD, List.getElem?_cons_zero, List.getElem?_cons_succ, List.set_cons_zero, List.set_cons_succ, ↓reduceIte, if_true, if_false, Bool.false_eq_true, Option.isSome_some, Option.isSome_none, valD, mergeD,
  Sum.inr.injEq, ofStr_inj, String.reduceEq, sizeLine_eq, List.length_cons, List.length_nil, List.length_map, Nat.reduceAdd, Nat.reduceLT, Nat.reduceLeDiff, decide_true, decide_false, decide_eq_true_eq, Bool.and_eq_true, and_true, true_and, and_self, Int.reduceLT, Int.reduceLE, Int.reducePow, Int.reduceNeg, Bool.true_and, Bool.and_true, beq_self_eq_true, dInA, dInK, dIn, dq_int, dq_bl, dIs, flatD, inD, List.any_cons, List.any_nil, eqF, List.all_cons, List.all_nil, isTy, dComp, dSl, dNoPart, dPart, dCut, iZipD, gTupN, gNames, gTupX, gxCons, gxNil, gFld, setF, putFD, fldV, dFld, dFldS, dFldAug, dAddI, R.nox, dMeth, dMake, dGet1, dGet2, dPop1, cRow, cSorted, cAll1, cMin1, cTuple, sqlOf, iAny, iRng2D, dAug, dCut, dDispE, dNew, dShl, cListA, cList, keyD, dropD, Int.cast_ofNat_Int, Int.natCast_zero, Int.natCast_one, Bool.true_or, Bool.or_true, Bool.false_or, Bool.or_false, Bool.not_true, Bool.not_false, Bool.true_xor, Bool.false_xor, Bool.xor_true, Bool.xor_false, Bool.false_and, Bool.and_false, String.reduceBEq, Bool.not_not, reduceCtorEq, lstOf, List.length_append, List.isEmpty_nil, List.isEmpty_cons, List.mem_cons, List.not_mem_nil, or_false, or_true, true_or, p2D, Bool.true_eq_false, Bool.false_eq_true])




/-! ### give, statement by statement -/
section
variable {A : Ob} {Z : Sto} {pol : Str} {u top last a s f e : Int} {ps S S1 S2 g : List (Int × Int)} {x2 x3 x4 x5 x6 x7 : Option D}
theorem give_in (h : ∀ p ∈ S, p.1 ≠ a) : dTst (dBin (dInA true) (dVar 1) (dFld "_sizes" ["Heap"] (dVar 0))) [some (.ref 1), some (.int a), x2, x3, x4, x5, x6, x7] (A :: hOb pol u 2 ps top last :: .dK (szD S) :: Z) = .ok true (A :: hOb pol u 2 ps top last :: .dK (szD S) :: Z) := by
  have h1 := valD_sz h
  unfold hOb
  clear h
  generalize szD S = kv at *
  walk_at "ev"
theorem give_in2 (h : ∀ p ∈ S1, p.1 ≠ a) : dTst (dBin (dInA true) (dVar 1) (dFld "_sizes" ["Heap"] (dVar 0))) [some (.ref 1), some (.int a), x2, x3, x4, x5, x6, x7] (A :: hOb pol u 2 ps top last :: .dK (szD (S1 ++ (a, s) :: S2)) :: Z) = .ok false (A :: hOb pol u 2 ps top last :: .dK (szD (S1 ++ (a, s) :: S2)) :: Z) := by
  have h1 := valD_mid (S2 := S2) (s := s) h
  unfold hOb
  clear h
  generalize szD (S1 ++ (a, s) :: S2) = kv at *
  walk_at "ev"
theorem give_pop (h : ∀ p ∈ S1, p.1 ≠ a) (h' : ∀ p ∈ S2, p.1 ≠ a) : dPop1 (dFld "_sizes" ["Heap"] (dVar 0)) (dVar 1) [some (.ref 1), some (.int a), x2, x3, x4, x5, x6, x7] (A :: hOb pol u 2 ps top last :: .dK (szD (S1 ++ (a, s) :: S2)) :: Z) = .ok (.int s) (A :: hOb pol u 2 ps top last :: .dK (szD (S1 ++ S2)) :: Z) := by
  have h1 := valD_mid (S2 := S2) (s := s) h
  have h2 := dropD_mid (s := s) h h'
  unfold hOb
  clear h h'
  generalize szD (S1 ++ (a, s) :: S2) = kv at *
  generalize szD (S1 ++ S2) = kv2 at *
  walk_at "ev"
theorem give_all (h : e = top) (h2 : pol ≠ ("bump" : Str)) (hp : PyData.strOk pol = true) {t r : DS} : dIfS (dAndT (dTst (dBin (dEq false) (dVar 4) (dFld "_top" ["Heap"] (dVar 0)))) (dTst (dBin (dEq true) (dFld "_policy" ["Heap"] (dVar 0)) (dC (.str "bump"))))) (dFldS "_top" ["Heap"] (dVar 0) (dVar 3)) r
    [some (.ref 1), x2, x3, some (.int f), some (.int e), x5, x6, x7] (A :: hOb pol u 2 ps top last :: Z) = .ok (.nx, [some (.ref 1), x2, x3, some (.int f), some (.int e), x5, x6, x7]) (A :: hOb pol u 2 ps f last :: Z) := by
  have b1 : PyData.strOk (Str.ofString "bump") = true := by decide +kernel
  have d1 := fun st => dq_str (neg := true) (st := st) hp b1
  have g2 : decide (pol = ("bump" : Str)) = false := decide_eq_false h2
  have g1 : decide (e = top) = true := decide_eq_true h
  clear h h2
  unfold hOb
  walk_at "ev"
theorem give_not (h : ¬ (e = top ∧ pol ≠ ("bump" : Str))) (hp : PyData.strOk pol = true) {t r : DS} : dIfS (dAndT (dTst (dBin (dEq false) (dVar 4) (dFld "_top" ["Heap"] (dVar 0)))) (dTst (dBin (dEq true) (dFld "_policy" ["Heap"] (dVar 0)) (dC (.str "bump"))))) t r
    [some (.ref 1), x2, x3, some (.int f), some (.int e), x5, x6, x7] (A :: hOb pol u 2 ps top last :: Z) = r [some (.ref 1), x2, x3, some (.int f), some (.int e), x5, x6, x7] (A :: hOb pol u 2 ps top last :: Z) := by
  have b1 : PyData.strOk (Str.ofString "bump") = true := by decide +kernel
  have d1 := fun st => dq_str (neg := true) (st := st) hp b1
  unfold hOb
  by_cases g1 : e = top
  · have g2 : decide (pol = ("bump" : Str)) = true := decide_eq_true (Classical.byContradiction fun q => h ⟨g1, q⟩)
    have g1 : decide (e = top) = true := decide_eq_true g1
    clear h
    walk_at "ev"
  · have g1 : decide (e = top) = false := decide_eq_false g1
    clear h
    walk_at "ev"
theorem give_app {n : Nat} {st : Sto} (hn : st[n]? = some (.lst (g.map p2D))) (hl : g.length < 16777216) : dDrop (dBMT "list" mAppend (dVar 5) (dCons (dTup (dCons (dVar 3) (dCons (dBin dSub (dVar 4) (dVar 3)) (dNil)))) (dNil)))
    [some (.ref 1), x2, x3, some (.int f), some (.int e), some (.ref n), x6, x7] st = .ok (.nx, [some (.ref 1), x2, x3, some (.int f), some (.int e), some (.ref n), x6, x7]) (st.set n (.lst ((g ++ [(f, e - f)]).map p2D))) := by
  rw [List.map_append]
  walk_at "ev"
  rfl
theorem give_R1 {n : Nat} {o : Ob} (hn : (A :: hOb pol u 2 ps top last :: Z)[n]? = some (.lst (g.map p2D))) : d_Heap_give_R1 [some (.ref 1), x2, x3, x4, x5, some (.ref n), x6, x7] (A :: hOb pol u 2 ps top last :: Z) = .ok (.rt (.bl true), [some (.ref 1), x2, x3, x4, x5, some (.ref n), x6, x7]) (A :: hOb pol u 2 (sortP g) top last :: Z) := by
  have i2 := pairsOf_map g
  have e : dApp cSorted (dCons (dVar 5) (dNil)) [some (.ref 1), x2, x3, x4, x5, some (.ref n), x6, x7] (A :: hOb pol u 2 ps top last :: Z) = .ok (.lst ((sortP g).map p2D)) (A :: hOb pol u 2 ps top last :: Z) := by
    generalize (A :: hOb pol u 2 ps top last :: Z) = st at *
    cases g with
    | nil =>
      have hn : st[n]? = some (.lst []) := hn
      have hs : (sortP []).map p2D = (sortI []).map D.int := by rw [show sortP [] = [] from (List.perm_nil.mp (sortP_perm [])), show sortI [] = [] from (List.perm_nil.mp (sortI_perm []))]; rfl
      rw [hs]
      have i3 : intsOf [] = some [] := rfl
      have i4 : ([] : List (Int × Int)).map p2D = [] := rfl
      walk_at "ev"
    | cons p g =>
      have i3 : intsOf ((p :: g).map p2D) = none := rfl
      walk_at "ev"
  unfold d_Heap_give_R1
  have e2 : dFldS "_pieces" ["Heap"] (dVar 0) (dApp cSorted (dCons (dVar 5) (dNil))) [some (.ref 1), x2, x3, x4, x5, some (.ref n), x6, x7] (A :: hOb pol u 2 ps top last :: Z) = .ok (.nx, [some (.ref 1), x2, x3, x4, x5, some (.ref n), x6, x7]) (A :: hOb pol u 2 (sortP g) top last :: Z) := by
    generalize dApp cSorted (dCons (dVar 5) (dNil)) = te at *
    clear hn
    unfold hOb at *
    walk_at "ev"
  rw [seq_nx e2]
  exact ret_rt rfl
end
end K85

namespace K85
open PySem PySem.Spec PyProof.Rows L2 DL
local macro_rules | `(tactic| walk_at "ev") => `(tactic| simp only [*, dSeq, dAsg, dIfS, dRet, dRetN, dNext, dDrop, dVar, dC, dBin, dTst, dTru, dNotT, dAndT, dOrT, dAndV, dOrV, dNotV, dIf, dChain, dNil, dCons, dTup, dLst, dNew, dApp, dNeg, gN, R.bind, R.stm, R.tru, R.opt, R.fin, dPutA, sPutA, sPutK, dDisp, dPNil, dPCons, dFor, iRng1D,
  dIxA, dIx, dGetK, dicOf, DL.keyOf, seqOf, cLen, cAbs, cMin2, cMax2, cInt, cTuple, cIsi, tyNm, dLtI, dLeI, dGtI, dGeI, cmpI, opI2, dAdd, dSub, dMul, dDiv, dMod, dPow, dBMT, isT, mAppend, truD, List.getElem?_cons_zero, List.getElem?_cons_succ, List.set_cons_zero, List.set_cons_succ, ↓reduceIte, if_true, if_false, Bool.false_eq_true, Option.isSome_some, Option.isSome_none, valD, mergeD,
  Sum.inr.injEq, ofStr_inj, String.reduceEq, sizeLine_eq, List.length_cons, List.length_nil, List.length_map, Nat.reduceAdd, Nat.reduceLT, Nat.reduceLeDiff, decide_true, decide_false, decide_eq_true_eq, Bool.and_eq_true, and_true, true_and, and_self, Int.reduceLT, Int.reduceLE, Int.reducePow, Int.reduceNeg, Bool.true_and, Bool.and_true, beq_self_eq_true, dInA, dInK, dIn, dq_int, dq_bl, dIs, flatD, inD, List.any_cons, List.any_nil, eqF, List.all_cons, List.all_nil, isTy, dComp, dSl, dNoPart, dPart, dCut, iZipD, gTupN, gNames, gTupX, gxCons, gxNil, gFld, setF, putFD, fldV, dFld, dFldS, dFldAug, dAddI, R.nox, dMeth, dMake, dGet1, dGet2, dPop1, cRow, cSorted, cAll1, cMin1, cTuple, sqlOf, iAny, iRng2D, dAug, dCut, dDispE, dNew, dShl, cListA, cList, keyD, dropD, Int.cast_ofNat_Int, Int.natCast_zero, Int.natCast_one, Bool.true_or, Bool.or_true, Bool.false_or, Bool.or_false, Bool.not_true, Bool.not_false, Bool.true_xor, Bool.false_xor, Bool.xor_true, Bool.xor_false, Bool.false_and, Bool.and_false, String.reduceBEq, Bool.not_not, reduceCtorEq, lstOf, List.length_append, List.isEmpty_nil, List.isEmpty_cons, List.mem_cons, List.not_mem_nil, or_false, or_true, true_or, p2D, Bool.true_eq_false, Bool.false_eq_true])





/-! ### give -/
def gvOf (pol : Str) (top : Int) (ps : List (Int × Int)) (a s : Int) : List (Int × Int) × Int :=
  if (mgL ps a (a + s)).2.1 = top ∧ pol ≠ ("bump" : Str) then (sortP (mgL ps a (a + s)).2.2, (mgL ps a (a + s)).1)
  else (sortP ((mgL ps a (a + s)).2.2 ++ [((mgL ps a (a + s)).1, (mgL ps a (a + s)).2.1 - (mgL ps a (a + s)).1)]), top)
theorem mg_len : ∀ (ps : List (Int × Int)) (f e : Int), (mgL ps f e).2.2.length ≤ ps.length
  | [], _, _ => Nat.le_refl _
  | p :: ps, f, e => by
    unfold mgL
    split
    · exact Nat.le_succ_of_le (mg_len ps _ _)
    · split
      · exact Nat.le_succ_of_le (mg_len ps _ _)
      · exact Nat.succ_le_succ (mg_len ps _ _)
theorem give_raw {A : Ob} {R : Sto} {pol : Str} {u top last a s : Int} {ps S1 S2 : List (Int × Int)} (h : ∀ p ∈ S1, p.1 ≠ a) (h' : ∀ p ∈ S2, p.1 ≠ a) (hp : PyData.strOk pol = true) (hl : ps.length ≤ 100000) :
    ∃ g : List (Int × Int), F_Heap_give [.ref 1, .int a] (A :: hOb pol u 2 ps top last :: .dK (szD (S1 ++ (a, s) :: S2)) :: R) =
      .ok (.bl true) (A :: hOb pol u 2 (gvOf pol top ps a s).1 (gvOf pol top ps a s).2 last :: .dK (szD (S1 ++ S2)) :: (R ++ [.lst (g.map p2D)])) := by
  unfold F_Heap_give d_Heap_give
  have start : startD 8 [D.ref 1, D.int a] = [some (.ref 1), some (.int a), none, none, none, none, none, none] := rfl
  have n0 : (A :: hOb pol u 2 ps top last :: .dK (szD (S1 ++ S2)) :: R).length = R.length + 3 := rfl
  have atn : ∀ (X Y : Ob) (o : Ob), (A :: X :: Y :: (R ++ [o]))[R.length + 3]? = some o := fun X Y o => by simp
  have setn : ∀ (X Y : Ob) (o o' : Ob), (A :: X :: Y :: (R ++ [o])).set (R.length + 3) o' = A :: X :: Y :: (R ++ [o']) := fun X Y o o' => by simp
  have hml := mg_len ps a (a + s)
  obtain ⟨b', l', lp⟩ := give_loop (n := R.length + 3) (a0 := some (.ref 1)) (a1 := some (.int a)) (a2 := some (.int s)) (ps := ps) (st := A :: hOb pol u 2 ps top last :: .dK (szD (S1 ++ S2)) :: (R ++ [.lst []])) (acc := []) (f := a) (e := a + s) (b := none) (l := none) (atn _ _ _) (by simp; omega)
  rw [setn, List.nil_append] at lp
  have run : ∀ g : List (Int × Int), (dSeq (dIfS (dTst (dBin (dInA true) (dVar 1) (dFld "_sizes" ["Heap"] (dVar 0)))) (dRet (dC (.bl false))) (dNext)) (d_Heap_give_R2)) [some (.ref 1), some (.int a), none, none, none, none, none, none] (A :: hOb pol u 2 ps top last :: .dK (szD (S1 ++ (a, s) :: S2)) :: R) =
      (dSeq (dIfS (dAndT (dTst (dBin (dEq false) (dVar 4) (dFld "_top" ["Heap"] (dVar 0)))) (dTst (dBin (dEq true) (dFld "_policy" ["Heap"] (dVar 0)) (dC (.str "bump"))))) (dFldS "_top" ["Heap"] (dVar 0) (dVar 3)) (dDrop (dBMT "list" mAppend (dVar 5) (dCons (dTup (dCons (dVar 3) (dCons (dBin dSub (dVar 4) (dVar 3)) (dNil)))) (dNil))))) (d_Heap_give_R1))
        [some (.ref 1), some (.int a), some (.int s), some (.int (mgL ps a (a + s)).1), some (.int (mgL ps a (a + s)).2.1), some (.ref (R.length + 3)), b', l'] (A :: hOb pol u 2 ps top last :: .dK (szD (S1 ++ S2)) :: (R ++ [.lst ((mgL ps a (a + s)).2.2.map p2D)])) := fun g => by
    rw [seq_nx ((ifs_f (give_in2 h)).trans rfl)]
    unfold d_Heap_give_R2
    rw [seq_nx (asg_nx (give_pop h h'))]
    simp only [List.set_cons_succ, List.set_cons_zero]
    rw [seq_nx (asg_nx (show dVar 1 _ _ = .ok (.int a) _ from rfl))]
    simp only [List.set_cons_succ, List.set_cons_zero]
    rw [seq_nx (asg_nx (show dBin dAdd (dVar 1) (dVar 2) _ _ = .ok (.int (a + s)) _ from rfl))]
    simp only [List.set_cons_succ, List.set_cons_zero]
    rw [seq_nx (asg_nx (show dNew dNil _ _ = .ok (.ref (R.length + 3)) (A :: hOb pol u 2 ps top last :: .dK (szD (S1 ++ S2)) :: (R ++ [.lst []])) from by
      unfold dNew dNil
      simp only [DL.R.bind, List.length_nil, Nat.zero_le, if_true]
      rfl))]
    simp only [List.set_cons_succ, List.set_cons_zero]
    have it : iAny (dFld "_pieces" ["Heap"] (dVar 0)) [some (.ref 1), some (.int a), some (.int s), some (.int a), some (.int (a + s)), some (.ref (R.length + 3)), none, none] (A :: hOb pol u 2 ps top last :: .dK (szD (S1 ++ S2)) :: (R ++ [.lst []])) = .ok (ps.map p2D) (A :: hOb pol u 2 ps top last :: .dK (szD (S1 ++ S2)) :: (R ++ [.lst []])) := by
      clear lp atn setn n0 start h h' hml
      unfold hOb
      walk_at "ev"
    rw [seq_nx (for_eq it lp)]
  unfold gvOf
  by_cases c : (mgL ps a (a + s)).2.1 = top ∧ pol ≠ ("bump" : Str)
  · refine ⟨(mgL ps a (a + s)).2.2, (def_go rfl).trans ?_⟩
    rw [start, run (mgL ps a (a + s)).2.2, seq_nx (give_all c.1 c.2 hp (t := dNext)), give_R1 (o := A) (atn _ _ _), if_pos c]
  · refine ⟨(mgL ps a (a + s)).2.2 ++ [((mgL ps a (a + s)).1, (mgL ps a (a + s)).2.1 - (mgL ps a (a + s)).1)], (def_go rfl).trans ?_⟩
    rw [start, run (mgL ps a (a + s)).2.2, seq_nx ((give_not c hp (t := dFldS "_top" ["Heap"] (dVar 0) (dVar 3))).trans (give_app (atn _ _ _) (by omega))), setn, give_R1 (o := A) (atn _ _ _), if_neg c]

theorem wfs_pr (n : Nat) : ∀ ps : List (Int × Int), wfs n (ps.map p2D) = true
  | [] => rfl
  | p :: ps => by rw [List.map_cons]; unfold wfs; rw [wfs_pr n ps]; rfl
theorem wf_sz (n : Nat) : ∀ S : List (Int × Int), (Ob.dK (szD S)).wf n = true
  | [] => rfl
  | p :: S => by
    have := wf_sz n S
    show (true && wff n (szD S)) = true
    rw [Bool.true_and]
    exact this
theorem wf_hOb {n : Nat} {pol : Str} {u top last : Int} {ps : List (Int × Int)} (h : 2 < n) : (hOb pol u 2 ps top last).wf n = true := by
  show (true && (true && (decide (2 < n) && (wfs n (ps.map p2D) && (true && (true && true)))))) = true
  rw [decide_eq_true h, wfs_pr]
  rfl
theorem give_eq {A : Ob} {R : Sto} {pol : Str} {u top last a s : Int} {ps S1 S2 : List (Int × Int)} (h : ∀ p ∈ S1, p.1 ≠ a) (h' : ∀ p ∈ S2, p.1 ≠ a) (hp : PyData.strOk pol = true) (hl : ps.length ≤ 100000) :
    trimF F_Heap_give [.ref 1, .int a] (A :: hOb pol u 2 ps top last :: .dK (szD (S1 ++ (a, s) :: S2)) :: R) =
      .ok (.bl true) (A :: hOb pol u 2 (gvOf pol top ps a s).1 (gvOf pol top ps a s).2 last :: .dK (szD (S1 ++ S2)) :: R) := by
  obtain ⟨g, hg⟩ := give_raw (A := A) (R := R) (u := u) (last := last) (top := top) (s := s) h h' hp hl
  refine trim_val (g := [.lst (g.map p2D)]) hg rfl ⟨Nat.le_refl _, fun i o ho => ?_⟩ rfl
  match i, ho with
  | 0, ho => exact .inl ho
  | 1, ho => cases ho; exact .inr (wf_hOb (by show 2 < R.length + 3; omega))
  | 2, ho => cases ho; exact .inr (wf_sz _ _)
  | i + 3, ho => exact .inl ho
theorem give_none {A : Ob} {R : Sto} {pol : Str} {u top last a : Int} {ps S : List (Int × Int)} (h : ∀ p ∈ S, p.1 ≠ a) :
    trimF F_Heap_give [.ref 1, .int a] (A :: hOb pol u 2 ps top last :: .dK (szD S) :: R) = .ok (.bl false) (A :: hOb pol u 2 ps top last :: .dK (szD S) :: R) := by
  refine trim_val (g := []) (st' := A :: hOb pol u 2 ps top last :: .dK (szD S) :: R) ?_ rfl (Kept.refl _) rfl
  rw [List.append_nil]
  unfold F_Heap_give d_Heap_give
  refine (def_go rfl).trans ?_
  rw [show startD 8 [D.ref 1, D.int a] = [some (.ref 1), some (.int a), none, none, none, none, none, none] from rfl]
  rw [seq_rt ((ifs_t (give_in h)).trans (ret_rt (d := .bl false) rfl))]
end K85

namespace K85
open PySem PySem.Spec PyProof.Rows L2 DL
local macro_rules | `(tactic| walk_at "ev") => `(tactic| simp only [*, dSeq, dAsg, dIfS, dRet, dRetN, dNext, dDrop, dVar, dC, dBin, dTst, dTru, dNotT, dAndT, dOrT, dAndV, dOrV, dNotV, dIf, dChain, dNil, dCons, dTup, dLst, dNew, dApp, dNeg, gN, R.bind, R.stm, R.tru, R.opt, R.fin, dPutA, sPutA, sPutK, dDisp, dPNil, dPCons, dFor, iRng1D,
  dIxA, dIx, dGetK, dicOf, DL.keyOf, seqOf, cLen, cAbs, cMin2, cMax2, cInt, cTuple, cIsi, tyNm, dLtI, dLeI, dGtI, dGeI, cmpI, opI2, dAdd, dSub, dMul, dDiv, dMod, dPow, dBMT, isT, mAppend, truD, List.getElem?_cons_zero, List.getElem?_cons_succ, List.set_cons_zero, List.set_cons_succ, ↓reduceIte, if_true, if_false, Bool.false_eq_true, Option.isSome_some, Option.isSome_none, valD, mergeD,
  Sum.inr.injEq, ofStr_inj, String.reduceEq, sizeLine_eq, List.length_cons, List.length_nil, List.length_map, Nat.reduceAdd, Nat.reduceLT, Nat.reduceLeDiff, decide_true, decide_false, decide_eq_true_eq, Bool.and_eq_true, and_true, true_and, and_self, Int.reduceLT, Int.reduceLE, Int.reducePow, Int.reduceNeg, Bool.true_and, Bool.and_true, beq_self_eq_true, dInA, dInK, dIn, dq_int, dq_bl, dIs, flatD, inD, List.any_cons, List.any_nil, eqF, List.all_cons, List.all_nil, isTy, dComp, dSl, dNoPart, dPart, dCut, iZipD, gTupN, gNames, gTupX, gxCons, gxNil, gFld, setF, putFD, fldV, dFld, dFldS, dFldAug, dAddI, R.nox, dMeth, dMake, dGet1, dGet2, dPop1, cRow, cSorted, cAll1, cMin1, cTuple, sqlOf, iAny, iRng2D, dAug, dCut, dDispE, dNew, dShl, cListA, cList, keyD, dropD, Int.cast_ofNat_Int, Int.natCast_zero, Int.natCast_one, Bool.true_or, Bool.or_true, Bool.false_or, Bool.or_false, Bool.not_true, Bool.not_false, Bool.true_xor, Bool.false_xor, Bool.xor_true, Bool.xor_false, Bool.false_and, Bool.and_false, String.reduceBEq, Bool.not_not, reduceCtorEq, lstOf, List.length_append, List.cons_append, List.nil_append, List.isEmpty_nil, List.isEmpty_cons, List.mem_cons, List.not_mem_nil, or_false, or_true, true_or, p2D, Bool.true_eq_false, Bool.false_eq_true])





/-! ### what the heap tells -/
section
variable {st : Sto} {n d : Nat} {pol : Str} {u top last : Int} {ps S : List (Int × Int)}
theorem pieces_eq (h : st[n]? = some (hOb pol u d ps top last)) : F_Heap_pieces [.ref n] st = .ok (.tup (ps.map p2D)) st := by
  unfold F_Heap_pieces d_Heap_pieces
  refine (def_go rfl).trans ?_
  rw [show startD 1 [D.ref n] = [some (D.ref n)] from rfl]
  unfold hOb at h
  walk_at "ev"
theorem top_eq (h : st[n]? = some (hOb pol u d ps top last)) : F_Heap_top [.ref n] st = .ok (.int top) st := by
  unfold F_Heap_top d_Heap_top
  refine (def_go rfl).trans ?_
  rw [show startD 1 [D.ref n] = [some (D.ref n)] from rfl]
  unfold hOb at h
  walk_at "ev"
def szAt (S : List (Int × Int)) (a : Int) : Int := match S with
  | [] => 0
  | p :: S => if p.1 = a then p.2 else szAt S a
theorem valD_at : ∀ {S : List (Int × Int)} {a : Int}, a ∈ S.map (·.1) → valD (szD S) (Sum.inl a : Key) = some (.int (szAt S a))
  | [], a, h => (List.not_mem_nil h).elim
  | p :: S, a, h => by
    have e : valD (szD (p :: S)) (Sum.inl a : Key) = if (Sum.inl p.1 : Key) = Sum.inl a then some (.int p.2) else valD (szD S) (Sum.inl a) := rfl
    rw [e]
    unfold szAt
    by_cases c : p.1 = a
    · rw [if_pos (by rw [c]), if_pos c]
    · rw [if_neg (by intro q; exact c (Sum.inl.inj q)), if_neg c]
      refine valD_at ?_
      rcases List.mem_cons.mp h with q | q
      · exact (c q.symm).elim
      · exact q
theorem size_eq {a : Int} (h : st[n]? = some (hOb pol u d ps top last)) (h2 : st[d]? = some (.dK (szD S))) (ha : a ∈ S.map (·.1)) : F_Heap_size [.ref n, .int a] st = .ok (.int (szAt S a)) st := by
  have v := valD_at ha
  clear ha
  unfold F_Heap_size d_Heap_size
  refine (def_go rfl).trans ?_
  rw [show startD 2 [D.ref n, D.int a] = [some (D.ref n), some (.int a)] from rfl]
  unfold hOb at h
  generalize szD S = kv at *
  have q : (some (D.int (szAt S a))).getD (.int 0) = .int (szAt S a) := rfl
  walk_at "ev"
/-- the blocks by their addresses -/
def blS (S : List (Int × Int)) : List (Int × Int) := (sortI (S.map (·.1))).map fun a => (a, szAt S a)
theorem keysI_sz : ∀ S : List (Int × Int), keysI (szD S) = some (S.map (·.1))
  | [] => rfl
  | p :: S => by
    show (keysI (szD S)).map (p.1 :: ·) = _
    rw [keysI_sz S]
    rfl
theorem blocks_C1 {a : Int} (h : st[n]? = some (hOb pol u d ps top last)) (h2 : st[d]? = some (.dK (szD S))) (ha : a ∈ S.map (·.1)) : d_Heap_blocks_C1 [some (.ref n), some (.int a)] st = .ok (p2D (a, szAt S a)) st := by
  have v := valD_at ha
  clear ha
  unfold hOb at h
  unfold d_Heap_blocks_C1
  generalize szD S = kv at *
  walk_at "ev"
theorem blocks_eq (h : st[n]? = some (hOb pol u d ps top last)) (h2 : st[d]? = some (.dK (szD S))) (hl : S.length ≤ 100000) : F_Heap_blocks [.ref n] st = .ok (.tup ((blS S).map p2D)) st := by
  have c : compL (.one 1) dYes d_Heap_blocks_C1 [some (.ref n), none] ((sortI (S.map (·.1))).map D.int) [] st = .ok ((blS S).map p2D) st := by
    rw [compL_map D.int (fun a => [some (.ref n), some (.int a)]) (fun _ => true) (fun a => p2D (a, szAt S a)) (fun _ _ => rfl) (fun _ _ => rfl) (fun a ha _ => blocks_C1 h h2 ((sortI_perm _).mem_iff.mp ha)) (by rw [(sortI_perm _).length_eq, List.length_map, sizeLine_eq]; omega)]
    rw [filter_yes]
    unfold blS
    rw [List.map_map]
    rfl
  have k := keysI_sz S
  have w : wipeD [some (D.ref n), none] [1] = [some (D.ref n), none] := rfl
  unfold F_Heap_blocks d_Heap_blocks
  refine (def_go rfl).trans ?_
  rw [show startD 2 [D.ref n] = [some (D.ref n), none] from rfl]
  unfold hOb at h
  generalize szD S = kv at *
  generalize (blS S).map p2D = out at *
  walk_at "ev"
theorem init1 {A : Ob} : F_Heap___init__ [.ref 1, .tup [.str pol, .int u]] [A, .ins "Heap" []] = .ok .non [A, hOb pol u 2 [] 1 1, .dK []] := by
  unfold F_Heap___init__ d_Heap___init__
  refine (def_go rfl).trans ?_
  rw [show startD 2 [D.ref 1, D.tup [.str pol, .int u]] = [some (.ref 1), some (.tup [.str pol, .int u])] from rfl]
  walk_at "ev"
  rfl
theorem init3 {A B C : Ob} : F_Heap___init__ [.ref 3, .tup [.str pol, .int u]] [A, B, C, .ins "Heap" []] = .ok .non [A, B, C, hOb pol u 4 [] 1 1, .dK []] := by
  unfold F_Heap___init__ d_Heap___init__
  refine (def_go rfl).trans ?_
  rw [show startD 2 [D.ref 3, D.tup [.str pol, .int u]] = [some (.ref 3), some (.tup [.str pol, .int u])] from rfl]
  walk_at "ev"
  rfl
end
end K85

namespace K85
open PySem PySem.Spec PyProof.Rows L2 DL
local macro_rules | `(tactic| walk_at "ev") => `(tactic| simp only [*, dSeq, dAsg, dIfS, dRet, dRetN, dNext, dDrop, dVar, dC, dBin, dTst, dTru, dNotT, dAndT, dOrT, dAndV, dOrV, dNotV, dIf, dChain, dNil, dCons, dTup, dLst, dNew, dApp, dNeg, gN, R.bind, R.stm, R.tru, R.opt, R.fin, dPutA, sPutA, sSetL, sPutK, dDisp, dPNil, dPCons, dFor, iRng1D,
  dIxA, dIx, dGetK, dicOf, DL.keyOf, seqOf, cLen, cAbs, cMin2, cMax2, cInt, cTuple, cIsi, tyNm, dLtI, dLeI, dGtI, dGeI, cmpI, opI2, dAdd, dSub, dMul, dDiv, dMod, dPow, dBMT, isT, mAppend, truD, List.getElem?_cons_zero, List.getElem?_cons_succ, List.set_cons_zero, List.set_cons_succ, ↓reduceIte, if_true, if_false, Bool.false_eq_true, Option.isSome_some, Option.isSome_none, valD, mergeD,
  Sum.inr.injEq, ofStr_inj, String.reduceEq, sizeLine_eq, List.length_cons, List.length_nil, List.length_map, Nat.reduceAdd, Nat.reduceLT, Nat.reduceLeDiff, decide_true, decide_false, decide_eq_true_eq, Bool.and_eq_true, and_true, true_and, and_self, Int.reduceLT, Int.reduceLE, Int.reducePow, Int.reduceNeg, Bool.true_and, Bool.and_true, beq_self_eq_true, dInA, dInK, dIn, dq_int, dq_bl, dIs, flatD, inD, List.any_cons, List.any_nil, eqF, List.all_cons, List.all_nil, isTy, dComp, dSl, dNoPart, dPart, dCut, iZipD, gTupN, gNames, gTupX, gxCons, gxNil, gFld, setF, putFD, fldV, dFld, dFldS, dFldAug, dAddI, R.nox, dMeth, dMake, dGet1, dGet2, dPop1, cRow, cSorted, cAll1, cMin1, cTuple, sqlOf, iAny, iRng2D, dAug, dCut, dDispE, dNew, dShl, cListA, cList, keyD, dropD, Int.cast_ofNat_Int, Int.natCast_zero, Int.natCast_one, Bool.true_or, Bool.or_true, Bool.false_or, Bool.or_false, Bool.not_true, Bool.not_false, Bool.true_xor, Bool.false_xor, Bool.xor_true, Bool.xor_false, Bool.false_and, Bool.and_false, String.reduceBEq, Bool.not_not, reduceCtorEq, lstOf, List.length_append, List.cons_append, List.nil_append, List.isEmpty_nil, List.isEmpty_cons, List.mem_cons, List.not_mem_nil, or_false, or_true, true_or, p2D, Bool.true_eq_false, Bool.false_eq_true])






/-! ### the law's runs -/
def mOb (o z : Nat) (top last : Int) : Ob := .dK [(.inr "owner", .ref o), (.inr "sizes", .ref z), (.inr "top", .int top), (.inr "last", .int last)]
theorem ixN_last {n : Nat} (h : 0 < n) : ixN n (-1) = some (n - 1) := by
  unfold ixN
  rw [if_neg (by omega), if_pos (by omega)]
  congr 1
  omega
theorem at_last {pre : List (Int × Int)} {p : Int × Int} : atI ((pre ++ [p]).map p2D) (-1) = some (p2D p) := by
  unfold atI
  rw [List.length_map, ixN_last (by simp)]
  simp
theorem set_last {pre : List (Int × Int)} {p q : Int × Int} : ((pre ++ [p]).map p2D).set ((pre ++ [p]).map p2D).length.pred (p2D q) = (pre ++ [q]).map p2D := by
  simp [List.map_append]
section
variable {st : Sto} {n m o z : Nat} {top last w : Int} {kv : List (Key × D)} {a0 a1 : Option D}
theorem runs_L1a (hm : st[m]? = some (mOb o z top last)) (ho : st[o]? = some (.dK kv)) (hw : (valD kv (.inl w)).isSome = true) :
    d__law_runs_L1 [some (.ref m), a1, some (.int w)] st = .ok (.nx, [some (.ref m), a1, some (.int w)]) st := by
  unfold mOb at hm
  unfold d__law_runs_L1
  walk_at "ev"
theorem nn {neg : Bool} {found : List (Int × Int)} (hn : st[n]? = some (.lst (found.map p2D))) : dEq neg (.ref n) (.lst []) st = .ok (.bl (neg ^^ (found.map p2D).isEmpty)) st :=
  dq_nilR hn (fun d hd => by obtain ⟨k, _, rfl⟩ := List.mem_map.mp hd; rfl) (fun d hd => by obtain ⟨k, _, rfl⟩ := List.mem_map.mp hd; show 1 ≤ 63; decide)
theorem emp {pre : List (Int × Int)} {p : Int × Int} : ((pre ++ [p]).map p2D).isEmpty = false := by cases pre <;> rfl
theorem runs_B1 {pre : List (Int × Int)} {b l : Int} (hn : st[n]? = some (.lst ((pre ++ [(b, l)]).map p2D))) :
    d__law_runs_B1 [a0, some (.ref n), some (.int w)] st = .ok (.nx, [a0, some (.ref n), some (.int w)]) (st.set n (.lst ((pre ++ [(b, l + 1)]).map p2D))) := by
  have h1 := @at_last pre (b, l)
  have h2 : ixN ((pre ++ [(b, l)]).map p2D).length (-1) = some (pre.length) := by
    rw [ixN_last (by simp)]
    simp
  have h3 : ((pre ++ [(b, l)]).map p2D).set pre.length (p2D (b, l + 1)) = (pre ++ [(b, l + 1)]).map p2D := by simp
  have e0 : atI [D.int b, D.int l] (0 : Int) = some (.int b) := rfl
  have e1 : atI [D.int b, D.int l] (1 : Int) = some (.int l) := rfl
  generalize (pre ++ [(b, l)]).map p2D = ds at *
  generalize (pre ++ [(b, l + 1)]).map p2D = ds2 at *
  unfold p2D at h1 h3
  unfold d__law_runs_B1
  dsimp only at h1 h3
  walk_at "ev"
theorem runs_B2_grow {pre : List (Int × Int)} {b l : Int} (hn : st[n]? = some (.lst ((pre ++ [(b, l)]).map p2D))) (hw : b + l = w) :
    d__law_runs_B2 [a0, some (.ref n), some (.int w)] st = .ok (.nx, [a0, some (.ref n), some (.int w)]) (st.set n (.lst ((pre ++ [(b, l + 1)]).map p2D))) := by
  have q := runs_B1 (a0 := a0) (w := w) hn
  have h1 := @at_last pre (b, l)
  have h2 := nn (neg := true) hn
  rw [emp] at h2
  have e0 : atI [D.int b, D.int l] (0 : Int) = some (.int b) := rfl
  have e1 : atI [D.int b, D.int l] (1 : Int) = some (.int l) := rfl
  have g : decide (b + l = w) = true := decide_eq_true hw
  clear hw
  generalize (pre ++ [(b, l)]).map p2D = ds at *
  unfold p2D at h1
  dsimp only at h1
  unfold d__law_runs_B2
  walk_at "ev"
theorem runs_B2_new {pre : List (Int × Int)} {b l : Int} (hn : st[n]? = some (.lst ((pre ++ [(b, l)]).map p2D))) (hw : ¬ b + l = w) (hl : (pre ++ [(b, l)]).length < 16777216) :
    d__law_runs_B2 [a0, some (.ref n), some (.int w)] st = .ok (.nx, [a0, some (.ref n), some (.int w)]) (st.set n (.lst ((pre ++ [(b, l)] ++ [(w, 1)]).map p2D))) := by
  have h1 := @at_last pre (b, l)
  have h2 := nn (neg := true) hn
  rw [emp] at h2
  have e0 : atI [D.int b, D.int l] (0 : Int) = some (.int b) := rfl
  have e1 : atI [D.int b, D.int l] (1 : Int) = some (.int l) := rfl
  have g : decide (b + l = w) = false := decide_eq_false hw
  have hl : ((pre ++ [(b, l)]).map p2D).length < 16777216 := by rw [List.length_map]; exact hl
  clear hw
  rw [List.map_append (l₂ := [(w, 1)])]
  generalize (pre ++ [(b, l)]).map p2D = ds at *
  unfold p2D at h1
  dsimp only at h1
  unfold d__law_runs_B2
  walk_at "ev"
  rfl
theorem runs_B2_nil (hn : st[n]? = some (.lst [])) :
    d__law_runs_B2 [a0, some (.ref n), some (.int w)] st = .ok (.nx, [a0, some (.ref n), some (.int w)]) (st.set n (.lst ([(w, 1)].map p2D))) := by
  have h2 := nn (neg := true) (found := []) hn
  have h3 : (([] : List (Int × Int)).map p2D).isEmpty = true := rfl
  rw [h3] at h2
  unfold d__law_runs_B2
  walk_at "ev"
  rfl
theorem runs_L1b (hm : st[m]? = some (mOb o z top last)) (ho : st[o]? = some (.dK kv)) (hw : (valD kv (.inl w)).isSome = false) :
    d__law_runs_L1 [some (.ref m), a1, some (.int w)] st = d__law_runs_B2 [some (.ref m), a1, some (.int w)] st := by
  unfold mOb at hm
  unfold d__law_runs_L1
  walk_at "ev"
end

def freeK (kv : List (Key × D)) (w : Int) : Bool := !(valD kv (Sum.inl w : Key)).isSome
theorem app_old {st : Sto} {x : Ob} {m : Nat} {o : Ob} (h : st[m]? = some o) : (st ++ [x])[m]? = some o := by
  rw [List.getElem?_append_left (List.getElem?_eq_some_iff.mp h).1]; exact h
theorem runs_eq {st : Sto} {m o z : Nat} {top last : Int} {kv : List (Key × D)} (hm : st[m]? = some (mOb o z top last)) (ho : st[o]? = some (.dK kv)) (h1 : 1 ≤ top) (h2 : top ≤ 100000) :
    ∃ ps, trimF F__law_runs [.ref m] st = .ok (.lst (ps.map p2D)) st ∧ IsRuns (freeK kv) top 1 ps := by
  obtain ⟨τ', st', e1, w, found, rfl, rfl, hr, hl⟩ := forN_inv (j := 2) (body := d__law_runs_L1) (ds := rng 1 top) (τ := [some (.ref m), some (.ref st.length), none]) (st := st ++ [.lst []])
    (fun i τ s => ∃ (w : Option D) (found : List (Int × Int)), τ = [some (.ref m), some (.ref st.length), w] ∧ s = st ++ [.lst (found.map p2D)] ∧ IsRuns (freeK kv) (1 + i) 1 found ∧ found.length ≤ i)
    ⟨none, [], rfl, rfl, fun w a b => by have b : w < 1 + ((0 : Nat) : Int) := b; omega, Nat.le_refl _⟩ (by
      rintro i d τ s hd ⟨w, found, rfl, rfl, hr, hl⟩
      have hi : i < (top - 1).toNat := by
        have := (List.getElem?_eq_some_iff.mp hd).1
        rw [rng_len] at this
        exact this
      have hd' : d = .int ((1 : Int) + (i : Int)) := by
        rw [rng_get hi] at hd
        exact (Option.some.inj hd).symm
      subst hd'
      have hm' := app_old (x := .lst (found.map p2D)) hm
      have ho' := app_old (x := .lst (found.map p2D)) ho
      have hn' : (st ++ [Ob.lst (found.map p2D)])[st.length]? = some (.lst (found.map p2D)) := by simp
      have sn : ∀ x, (st ++ [Ob.lst (found.map p2D)]).set st.length x = st ++ [x] := fun x => by simp
      show ∃ fl τ2 st2, d__law_runs_L1 [some (.ref m), some (.ref st.length), some (.int ((1 : Int) + (i : Int)))] _ = _ ∧ _
      cases hw : (valD kv (Sum.inl ((1 : Int) + (i : Int)) : Key)).isSome with
      | true =>
        refine ⟨.nx, _, _, runs_L1a hm' ho' hw, .inl rfl, _, found, rfl, rfl, hr.more (by omega) fun w a b => ?_, by omega⟩
        have : w = 1 + (i : Int) := by omega
        rw [this]
        unfold freeK
        rw [hw]; rfl
      | false =>
        have hf : freeK kv (1 + (i : Int)) = true := by unfold freeK; rw [hw]; rfl
        rw [runs_L1b hm' ho' hw]
        rcases List.eq_nil_or_concat found with e | ⟨pre, p, e⟩
        · subst e
          refine ⟨.nx, _, _, runs_B2_nil hn', .inl rfl, _, [(1 + (i : Int), 1)], rfl, sn _, ?_, by show 1 ≤ i + 1; omega⟩
          have := IsRuns.new (F := freeK kv) (hi := 1 + (i : Int)) hf (lo := 1) (ps := []) (by omega) hr (fun _ h => by cases h)
          rw [show (1 : Int) + ((i + 1 : Nat) : Int) = 1 + (i : Int) + 1 by omega]
          exact this
        · rw [List.concat_eq_append] at e
          subst e
          obtain ⟨b, l⟩ := p
          by_cases c : b + l = 1 + (i : Int)
          · refine ⟨.nx, _, _, runs_B2_grow hn' c, .inl rfl, _, pre ++ [(b, l + 1)], rfl, sn _, ?_, by simp at hl ⊢; omega⟩
            rw [show (1 : Int) + ((i + 1 : Nat) : Int) = 1 + (i : Int) + 1 by omega]
            exact IsRuns.grow hf c hr
          · refine ⟨.nx, _, _, runs_B2_new hn' c (by omega), .inl rfl, _, pre ++ [(b, l)] ++ [(1 + (i : Int), 1)], rfl, sn _, ?_, by simp at hl ⊢; omega⟩
            rw [show (1 : Int) + ((i + 1 : Nat) : Int) = 1 + (i : Int) + 1 by omega]
            refine IsRuns.new hf (by omega) hr fun q hq => ?_
            rw [List.getLast?_append] at hq
            simp at hq
            rw [← hq]
            exact c)
  rw [rng_len] at hr
  rw [show (1 : Int) + ((top - 1).toNat : Int) = top by omega] at hr
  refine ⟨found, trim_lst (k := st.length) (g := [.lst (found.map p2D)]) (st' := st) ?_ rfl (Kept.refl _) (Nat.le_refl _) (by simp) (wfs_pr _ _), hr⟩
  unfold F__law_runs d__law_runs
  refine (def_go rfl).trans ?_
  rw [show startD 3 [D.ref m] = [some (.ref m), none, none] from rfl]
  have n1 : dNew dNil [some (.ref m), none, none] st = .ok (.ref st.length) (st ++ [.lst []]) := by
    unfold dNew dNil
    simp only [R.bind, List.length_nil, Nat.zero_le, if_true]
  rw [seq_nx (asg_nx n1)]
  simp only [List.set_cons_succ, List.set_cons_zero]
  have it : iRng2D (dCons (dC (.int 1)) (dCons (dBin dIxA (dVar 0) (dC (.str "top"))) (dNil))) [some (.ref m), some (.ref st.length), none] (st ++ [.lst []]) = .ok (rng 1 top) (st ++ [.lst []]) := by
    have hm' := app_old (x := .lst []) hm
    have hb : ((-4611686018427387904 : Int) ≤ 1 ∧ (1 : Int) < 4611686018427387904) := by decide
    have hb2 : ((-4611686018427387904 : Int) ≤ top ∧ top < 4611686018427387904) := by omega
    unfold mOb at hm'
    clear e1 hr
    generalize (st ++ [Ob.lst []]) = s2 at *
    walk_at "ev"
  rw [seq_nx (for_eq it e1)]
  rw [ret_rt (show dVar 1 _ _ = .ok (.ref st.length) _ from rfl)]
end K85

namespace K85
open PySem PySem.Spec PyProof.Rows L2 DL
local macro_rules | `(tactic| walk_at "ev") => `(tactic| simp only [*, dSeq, dAsg, dIfS, dRet, dRetN, dNext, dDrop, dVar, dC, dBin, dTst, dTru, dNotT, dAndT, dOrT, dAndV, dOrV, dNotV, dIf, dChain, dNil, dCons, dTup, dLst, dNew, dApp, dNeg, gN, R.bind, R.stm, R.tru, R.opt, R.fin, dPutA, sPutA, sSetL, sPutK, dDisp, dPNil, dPCons, dFor, iRng1D,
  dIxA, dIx, dGetK, dicOf, DL.keyOf, seqOf, cLen, cAbs, cMin2, cMax2, cInt, cTuple, cIsi, tyNm, dLtI, dLeI, dGtI, dGeI, cmpI, opI2, dAdd, dSub, dMul, dDiv, dMod, dPow, dBMT, isT, mAppend, truD, List.getElem?_cons_zero, List.getElem?_cons_succ, List.set_cons_zero, List.set_cons_succ, ↓reduceIte, if_true, if_false, Bool.false_eq_true, Option.isSome_some, Option.isSome_none, valD, mergeD,
  Sum.inr.injEq, ofStr_inj, String.reduceEq, sizeLine_eq, List.length_cons, List.length_nil, List.length_map, Nat.reduceAdd, Nat.reduceLT, Nat.reduceLeDiff, decide_true, decide_false, decide_eq_true_eq, Bool.and_eq_true, and_true, true_and, and_self, Int.reduceLT, Int.reduceLE, Int.reducePow, Int.reduceNeg, Bool.true_and, Bool.and_true, beq_self_eq_true, dInA, dInK, dIn, dq_int, dq_bl, dIs, flatD, inD, List.any_cons, List.any_nil, eqF, List.all_cons, List.all_nil, isTy, dComp, dSl, dNoPart, dPart, dCut, iZipD, gTupN, gNames, gTupX, gxCons, gxNil, gFld, setF, putFD, fldV, dFld, dFldS, dFldAug, dAddI, R.nox, dMeth, dMake, dGet1, dGet2, dPop1, cRow, cSorted, cAll1, cMin1, cTuple, sqlOf, iAny, iRng2D, dAug, dCut, dDispE, dNew, dShl, cListA, cList, keyD, dropD, Int.cast_ofNat_Int, Int.natCast_zero, Int.natCast_one, Bool.true_or, Bool.or_true, Bool.false_or, Bool.or_false, Bool.not_true, Bool.not_false, Bool.true_xor, Bool.false_xor, Bool.xor_true, Bool.xor_false, Bool.false_and, Bool.and_false, String.reduceBEq, Bool.not_not, reduceCtorEq, lstOf, List.length_append, List.cons_append, List.nil_append, List.isEmpty_nil, List.isEmpty_cons, List.mem_cons, List.not_mem_nil, or_false, or_true, true_or, p2D, Bool.true_eq_false, Bool.false_eq_true])







/-! ### the law's choice -/
section
variable {st : Sto} {m o z : Nat} {top last size : Int} {ps : List (Int × Int)} {cR : DF}
theorem fits_law (hr : cR [.ref m] st = .ok (.lst (ps.map p2D)) st) (hl : ps.length ≤ 100000) : F__law_fits cR [.ref m, .int size] st = .ok (.lst ((ps.filter fun r => decide (size ≤ r.2)).map p2D)) st := by
  have c : compL (.one 2) (d__law_fits_Q1 cR) (d__law_fits_C1 cR) [some (.ref m), some (.int size), none] (ps.map p2D) [] st = .ok ((ps.filter fun r => decide (size ≤ r.2)).map p2D) st :=
    compL_map p2D (fun p => [some (.ref m), some (.int size), some (p2D p)]) (fun r => decide (size ≤ r.2)) p2D (fun _ _ => rfl) (fun p _ => by
      have e1 : atI [D.int p.1, D.int p.2] (1 : Int) = some (.int p.2) := rfl
      clear hr
      unfold d__law_fits_Q1
      walk_at "ev") (fun _ _ _ => rfl) (by rw [sizeLine_eq]; omega)
  have w : wipeD [some (D.ref m), some (.int size), none] [2] = [some (D.ref m), some (.int size), none] := rfl
  unfold F__law_fits d__law_fits
  refine (def_go rfl).trans ?_
  rw [show startD 3 [D.ref m, D.int size] = [some (.ref m), some (.int size), none] from rfl]
  generalize (ps.filter fun r => decide (size ≤ r.2)).map p2D = out at *
  generalize ps.map p2D = ds at *
  walk_at "ev"
theorem at_head {f : List (Int × Int)} (h : f ≠ []) : atI (f.map p2D) (0 : Int) = some (p2D (f.headD (0, 0))) := by
  cases f with
  | nil => exact (h rfl).elim
  | cons p f => exact atI_nat (j := 0) rfl
theorem ints_pairs {f : List (Int × Int)} (h : f ≠ []) : intsOf (f.map p2D) = none := by
  cases f with
  | nil => exact (h rfl).elim
  | cons p f => rfl
theorem sortP_ne {f : List (Int × Int)} (h : f ≠ []) : sortP f ≠ [] := fun z => h (by
  have := (sortP_perm f).length_eq
  rw [z] at this
  exact List.length_eq_zero_iff.mp this.symm)
theorem dq_pnil {neg : Bool} {f : List (Int × Int)} {st : Sto} : dEq neg (.lst (f.map p2D)) (.lst []) st = .ok (.bl (neg ^^ decide (f = []))) st := by
  rw [dq_nilL (fun d hd => by obtain ⟨k, _, rfl⟩ := List.mem_map.mp hd; rfl) (fun d hd => by obtain ⟨k, _, rfl⟩ := List.mem_map.mp hd; show 1 ≤ 63; decide)]
  cases f <;> rfl
theorem sorted_pairs {te : DE} {τ : En} {st' : Sto} {l : List (Int × Int)} (h : te τ st = .ok (.lst (l.map p2D)) st') (hne : l ≠ []) : dApp cSorted (dCons te dNil) τ st = .ok (.lst ((sortP l).map p2D)) st' := by
  have i1 := ints_pairs hne
  have i2 := pairsOf_map l
  clear hne
  generalize hs : l.map p2D = ds at *
  walk_at "ev"
theorem comp_eq {it : DI} {tg : Tgt} {tt : DT} {te : DE} {vs : List Nat} {τ τ' : En} {ds out : List D} {st st1 st2 : Sto} (hi : it τ st = .ok ds st1) (hw : wipeD τ vs = τ') (h : compL tg tt te τ' ds [] st1 = .ok out st2) : dComp it tg tt te vs τ st = .ok (.lst out) st2 := by
  unfold dComp
  rw [hi]
  show (compL tg tt te (wipeD τ vs) ds [] st1).bind _ = _
  rw [hw, h]
theorem chosen_B1 {cF : DF} {pol : Str} {f : List (Int × Int)} {x4 x5 x6 : Option D} (hf : f ≠ []) (hl : f.length ≤ 100000) :
    d__law_chosen_B1 cF [some (.ref m), some (.str pol), some (.int size), some (.lst (f.map p2D)), x4, x5, x6] st = .ok (.rt (.int ((sortP (f.map fun r => (r.2, r.1))).headD (0, 0)).2), [some (.ref m), some (.str pol), some (.int size), some (.lst (f.map p2D)), x4, x5, x6]) st := by
  have c : compL (.tup [4, 5]) dYes (d__law_chosen_C1 cF) [some (.ref m), some (.str pol), some (.int size), some (.lst (f.map p2D)), none, none, x6] (f.map p2D) [] st = .ok ((f.map fun r => (r.2, r.1)).map p2D) st := by
    rw [compL_map p2D (fun p => [some (.ref m), some (.str pol), some (.int size), some (.lst (f.map p2D)), some (.int p.1), some (.int p.2), x6]) (fun _ => true) (fun p => p2D (p.2, p.1)) (fun _ _ => rfl) (fun _ _ => rfl) (fun p _ _ => by
      unfold d__law_chosen_C1
      walk_at "ev") (by rw [sizeLine_eq]; omega)]
    rw [filter_yes, List.map_map]
    rfl
  have w : wipeD [some (.ref m), some (.str pol), some (.int size), some (.lst (f.map p2D)), x4, x5, x6] [4, 5] = [some (D.ref m), some (.str pol), some (.int size), some (.lst (f.map p2D)), none, none, x6] := rfl
  have hne : f.map (fun r => (r.2, r.1)) ≠ [] := fun z => hf (List.map_eq_nil_iff.mp z)
  have i3 := at_head (sortP_ne hne)
  have s := sorted_pairs (comp_eq (it := iAny (dVar 3)) (show iAny (dVar 3) [some (.ref m), some (.str pol), some (.int size), some (.lst (f.map p2D)), x4, x5, x6] st = .ok (f.map p2D) st from rfl) w c) hne
  generalize sortP (f.map fun r => (r.2, r.1)) = srt at *
  have e1 : atI [D.int (srt.headD (0, 0)).1, D.int (srt.headD (0, 0)).2] (1 : Int) = some (.int (srt.headD (0, 0)).2) := rfl
  unfold d__law_chosen_B1
  refine ret_rt ?_
  generalize srt.headD (0, 0) = hd at *
  generalize dApp cSorted _ = te at *
  generalize f.map p2D = fd at *
  generalize srt.map p2D = sd at *
  clear hf hl hne c w
  unfold p2D at i3
  walk_at "ev"
theorem chosen_end {cF : DF} {x0 x1 x2 x4 x5 x6 : Option D} {g : List (Int × Int)} (hg : g ≠ []) :
    dRet (dBin dIxA (dBin dIxA (dVar 3) (dC (.int 0))) (dC (.int 0))) [x0, x1, x2, some (.lst (g.map p2D)), x4, x5, x6] st = .ok (.rt (.int (g.headD (0, 0)).1), [x0, x1, x2, some (.lst (g.map p2D)), x4, x5, x6]) st := by
  have i3 := at_head hg
  have e1 : atI [D.int (g.headD (0, 0)).1, D.int (g.headD (0, 0)).2] (0 : Int) = some (.int (g.headD (0, 0)).1) := rfl
  refine ret_rt ?_
  generalize g.headD (0, 0) = hd at *
  generalize g.map p2D = gd at *
  clear hg
  unfold p2D at i3
  walk_at "ev"
theorem chosen_R1 {cF : DF} {pol : Str} {f : List (Int × Int)} {x4 x5 x6 : Option D} (hm : st[m]? = some (mOb o z top last)) (hf : f ≠ []) (hl : f.length ≤ 100000) (hp : PyData.strOk pol = true) :
    ∃ τ', d__law_chosen_R1 cF [some (.ref m), some (.str pol), some (.int size), some (.lst (f.map p2D)), x4, x5, x6] st =
      .ok (.rt (.int (if pol = ("next" : Str) then ((f.filter (fun r => decide (last ≤ r.1)) ++ f).headD (0, 0)).1 else (f.headD (0, 0)).1)), τ') st := by
  have b3 : PyData.strOk (Str.ofString "next") = true := by decide +kernel
  have d3 := fun st => dq_str (neg := false) (st := st) hp b3
  unfold d__law_chosen_R1
  by_cases e : pol = ("next" : Str)
  · rw [if_pos e]
    have c : compL (.one 6) (d__law_chosen_Q1 cF) (d__law_chosen_C2 cF) [some (.ref m), some (.str pol), some (.int size), some (.lst (f.map p2D)), x4, x5, none] (f.map p2D) [] st = .ok ((f.filter fun r => decide (last ≤ r.1)).map p2D) st :=
      compL_map p2D (fun p => [some (.ref m), some (.str pol), some (.int size), some (.lst (f.map p2D)), x4, x5, some (p2D p)]) (fun r => decide (last ≤ r.1)) p2D (fun _ _ => rfl) (fun p _ => by
        have e1 : atI [D.int p.1, D.int p.2] (0 : Int) = some (.int p.1) := rfl
        unfold mOb at hm
        clear hf hl e
        generalize f.map p2D = fd
        unfold d__law_chosen_Q1
        walk_at "ev") (fun _ _ _ => rfl) (by rw [sizeLine_eq]; omega)
    have cc := comp_eq (it := iAny (dVar 3)) (vs := [6]) (show iAny (dVar 3) [some (.ref m), some (.str pol), some (.int size), some (.lst (f.map p2D)), x4, x5, x6] st = .ok (f.map p2D) st from rfl) rfl c
    have hg : f.filter (fun r => decide (last ≤ r.1)) ++ f ≠ [] := fun q => hf (List.append_eq_nil_iff.mp q).2
    have hla : ((f.filter (fun r => decide (last ≤ r.1))).map p2D).length + (f.map p2D).length ≤ 16777216 := by
      rw [List.length_map, List.length_map]
      have := List.length_filter_le (fun r : Int × Int => decide (last ≤ r.1)) f
      omega
    have g1 : decide (pol = ("next" : Str)) = true := decide_eq_true e
    have st1 : dIfS (dTst (dBin (dEq false) (dVar 1) (dC (.str "next")))) (dAsg (dBin dAdd (dComp (iAny (dVar 3)) (.one 6) (d__law_chosen_Q1 cF) (d__law_chosen_C2 cF) [6]) (dVar 3)) (gN 3)) (dNext) [some (.ref m), some (.str pol), some (.int size), some (.lst (f.map p2D)), x4, x5, x6] st =
        .ok (.nx, [some (.ref m), some (.str pol), some (.int size), some (.lst ((f.filter (fun r => decide (last ≤ r.1)) ++ f).map p2D)), x4, x5, x6]) st := by
      rw [List.map_append]
      generalize (f.filter (fun r => decide (last ≤ r.1))).map p2D = a at *
      generalize dComp (iAny (dVar 3)) (.one 6) (d__law_chosen_Q1 cF) (d__law_chosen_C2 cF) [6] = te at *
      generalize f.map p2D = fd at *
      clear hg c hf hl hm e
      walk_at "ev"
    rw [seq_nx st1]
    exact ⟨_, chosen_end (cF := cF) hg⟩
  · rw [if_neg e]
    have g1 : decide (pol = ("next" : Str)) = false := decide_eq_false e
    have st1 : ∀ t, dIfS (dTst (dBin (dEq false) (dVar 1) (dC (.str "next")))) t (dNext) [some (.ref m), some (.str pol), some (.int size), some (.lst (f.map p2D)), x4, x5, x6] st =
        .ok (.nx, [some (.ref m), some (.str pol), some (.int size), some (.lst (f.map p2D)), x4, x5, x6]) st := fun t => by
      generalize f.map p2D = fd at *
      clear hf hl hm e
      walk_at "ev"
    rw [seq_nx (st1 _)]
    exact ⟨_, chosen_end (cF := cF) hf⟩
theorem chosen_R2 {cF : DF} {pol : Str} {f : List (Int × Int)} {x4 x5 x6 : Option D} (hm : st[m]? = some (mOb o z top last)) (hf : f ≠ []) (hl : f.length ≤ 100000) (hp : PyData.strOk pol = true) :
    ∃ τ', d__law_chosen_R2 cF [some (.ref m), some (.str pol), some (.int size), some (.lst (f.map p2D)), x4, x5, x6] st =
      .ok (.rt (.int (if pol = ("best" : Str) then ((sortP (f.map fun r => (r.2, r.1))).headD (0, 0)).2 else if pol = ("next" : Str) then ((f.filter (fun r => decide (last ≤ r.1)) ++ f).headD (0, 0)).1 else (f.headD (0, 0)).1)), τ') st := by
  have b3 : PyData.strOk (Str.ofString "best") = true := by decide +kernel
  have d3 := fun st => dq_str (neg := false) (st := st) hp b3
  unfold d__law_chosen_R2
  by_cases e : pol = ("best" : Str)
  · rw [if_pos e]
    have g1 : decide (pol = ("best" : Str)) = true := decide_eq_true e
    have st1 : dTst (dBin (dEq false) (dVar 1) (dC (.str "best"))) [some (.ref m), some (.str pol), some (.int size), some (.lst (f.map p2D)), x4, x5, x6] st = .ok true st := by
      generalize f.map p2D = fd at *
      clear hf hl hm e
      walk_at "ev"
    rw [seq_rt ((ifs_t st1).trans (chosen_B1 hf hl))]
    exact ⟨_, rfl⟩
  · rw [if_neg e]
    have g1 : decide (pol = ("best" : Str)) = false := decide_eq_false e
    have st1 : dTst (dBin (dEq false) (dVar 1) (dC (.str "best"))) [some (.ref m), some (.str pol), some (.int size), some (.lst (f.map p2D)), x4, x5, x6] st = .ok false st := by
      generalize f.map p2D = fd at *
      clear hf hl hm e
      walk_at "ev"
    rw [seq_nx ((ifs_f st1).trans rfl)]
    exact chosen_R1 hm hf hl hp
theorem chosen_law {cF : DF} {pol : Str} (hm : st[m]? = some (mOb o z top last)) (hr : cR [.ref m] st = .ok (.lst (ps.map p2D)) st) (hl : ps.length ≤ 100000) (hp : PyData.strOk pol = true) :
    F__law_chosen (F__law_fits cR) [.ref m, .str pol, .int size] st = .ok (.int (chL pol last ps size top)) st := by
  have q := fits_law (size := size) hr hl
  have fl : (ps.filter fun r => decide (size ≤ r.2)).length ≤ 100000 := Nat.le_trans (List.length_filter_le _ _) hl
  unfold F__law_chosen d__law_chosen chL
  refine (def_go rfl).trans ?_
  rw [show startD 7 [D.ref m, D.str pol, D.int size] = [some (.ref m), some (.str pol), some (.int size), none, none, none, none] from rfl]
  simp only
  generalize (ps.filter fun r => decide (size ≤ r.2)) = f at *
  have a1 : dApp (F__law_fits cR) (dCons (dVar 0) (dCons (dVar 2) (dNil))) [some (.ref m), some (.str pol), some (.int size), none, none, none, none] st = .ok (.lst (f.map p2D)) st := q
  rw [seq_nx (asg_nx a1)]
  simp only [List.set_cons_succ, List.set_cons_zero]
  have b3 : PyData.strOk (Str.ofString "bump") = true := by decide +kernel
  have d3 := fun st => dq_str (neg := false) (st := st) hp b3
  have d4 := @dq_pnil false f
  have tst : dOrT (dTst (dBin (dEq false) (dVar 1) (dC (.str "bump")))) (dTst (dBin (dEq false) (dVar 3) (dLst (dNil)))) [some (.ref m), some (.str pol), some (.int size), some (.lst (f.map p2D)), none, none, none] st = .ok (decide (pol = ("bump" : Str) ∨ f = [])) st := by
    clear q a1 hr fl hm
    generalize f.map p2D = fd at *
    by_cases e : pol = ("bump" : Str)
    · have g : decide (pol = ("bump" : Str)) = true := decide_eq_true e
      rw [decide_eq_true (Or.inl e)]
      clear e
      walk_at "ev"
    · have g : decide (pol = ("bump" : Str)) = false := decide_eq_false e
      have g2 : decide (pol = ("bump" : Str) ∨ f = []) = decide (f = []) := by simp [e]
      rw [g2]
      clear e g2
      walk_at "ev"
  by_cases c : pol = ("bump" : Str) ∨ f = []
  · rw [decide_eq_true c] at tst
    rw [if_pos c]
    have r1 : dRet (dBin dIxA (dVar 0) (dC (.str "top"))) [some (.ref m), some (.str pol), some (.int size), some (.lst (f.map p2D)), none, none, none] st = .ok (.rt (.int top), [some (.ref m), some (.str pol), some (.int size), some (.lst (f.map p2D)), none, none, none]) st := by
      refine ret_rt ?_
      clear q a1 hr fl tst d3 d4
      unfold mOb at hm
      generalize f.map p2D = fd at *
      walk_at "ev"
    rw [seq_rt ((ifs_t tst).trans r1)]
  · rw [decide_eq_false c] at tst
    rw [if_neg c]
    obtain ⟨τ', h⟩ := chosen_R2 (cF := F__law_fits cR) (size := size) (x4 := none) (x5 := none) (x6 := none) hm (fun e => c (.inr e)) fl hp
    rw [seq_nx ((ifs_f tst).trans rfl), h]
end
end K85

namespace K85
open PySem PySem.Spec PyProof.Rows L2 DL
local macro_rules | `(tactic| walk_at "ev") => `(tactic| simp only [*, dSeq, dAsg, dIfS, dRet, dRetN, dNext, dDrop, dVar, dC, dBin, dTst, dTru, dNotT, dAndT, dOrT, dAndV, dOrV, dNotV, dIf, dChain, dNil, dCons, dTup, dLst, dNew, dApp, dNeg, gN, R.bind, R.stm, R.tru, R.opt, R.fin, dPutA, sPutA, sSetL, sPutK, dDisp, dPNil, dPCons, dFor, iRng1D,
  dIxA, dIx, dGetK, dicOf, DL.keyOf, seqOf, cLen, cAbs, cMin2, cMax2, cInt, cTuple, cIsi, tyNm, dLtI, dLeI, dGtI, dGeI, cmpI, opI2, dAdd, dSub, dMul, dDiv, dMod, dPow, dBMT, isT, mAppend, truD, List.getElem?_cons_zero, List.getElem?_cons_succ, List.set_cons_zero, List.set_cons_succ, ↓reduceIte, if_true, if_false, Bool.false_eq_true, Option.isSome_some, Option.isSome_none, valD, mergeD,
  Sum.inr.injEq, ofStr_inj, String.reduceEq, sizeLine_eq, List.length_cons, List.length_nil, List.length_map, Nat.reduceAdd, Nat.reduceLT, Nat.reduceLeDiff, decide_true, decide_false, decide_eq_true_eq, Bool.and_eq_true, and_true, true_and, and_self, Int.reduceLT, Int.reduceLE, Int.reducePow, Int.reduceNeg, Bool.true_and, Bool.and_true, beq_self_eq_true, dInA, dInK, dIn, dq_int, dq_bl, dIs, flatD, inD, List.any_cons, List.any_nil, eqF, List.all_cons, List.all_nil, isTy, dComp, dSl, dNoPart, dPart, dCut, iZipD, gTupN, gNames, gTupX, gxCons, gxNil, gFld, setF, putFD, fldV, dFld, dFldS, dFldAug, dAddI, R.nox, dMeth, dMake, dGet1, dGet2, dPop1, cRow, cSorted, cAll1, cMin1, cTuple, sqlOf, iAny, iRng2D, dAug, dCut, dDispE, dNew, dShl, cListA, cList, keyD, dropD, Int.cast_ofNat_Int, Int.natCast_zero, Int.natCast_one, Bool.true_or, Bool.or_true, Bool.false_or, Bool.or_false, Bool.not_true, Bool.not_false, Bool.true_xor, Bool.false_xor, Bool.xor_true, Bool.xor_false, Bool.false_and, Bool.and_false, String.reduceBEq, Bool.not_not, reduceCtorEq, lstOf, List.length_append, List.cons_append, List.nil_append, List.isEmpty_nil, List.isEmpty_cons, List.mem_cons, List.not_mem_nil, or_false, or_true, true_or, p2D, Bool.true_eq_false, Bool.false_eq_true])








/-! ### a dict by what stands under its keys -/
section
variable {kv : List (Key × D)} {k k' : Key} {v : D}
theorem valD_setD (h : (valD kv k).isSome = true) : valD (setD kv k v) k' = if k = k' then some v else valD kv k' := by
  induction kv with
  | nil => cases h
  | cons p kv ih =>
    obtain ⟨q, x⟩ := p
    unfold valD at h
    unfold setD
    by_cases e : q = k
    · subst e
      rw [if_pos rfl]
      by_cases e2 : q = k'
      · subst e2
        rw [if_pos rfl]
        unfold valD
        rw [if_pos rfl]
      · rw [if_neg e2]
        have : valD ((q, v) :: setD kv q v) k' = valD (setD kv q v) k' := by rw [valD, if_neg e2]
        rw [this]
        have : valD ((q, x) :: kv) k' = valD kv k' := by rw [valD, if_neg e2]
        rw [this]
        by_cases c : (valD kv q).isSome = true
        · rw [ih c, if_neg e2]
        · clear ih h
          induction kv with
          | nil => rfl
          | cons p kv ih2 =>
            obtain ⟨r, y⟩ := p
            by_cases c2 : r = q
            · exfalso; apply c; unfold valD; rw [if_pos c2]; rfl
            · unfold setD
              rw [if_neg c2]
              have c3 : ¬ (valD kv q).isSome = true := fun z => c (by unfold valD; rw [if_neg c2]; exact z)
              by_cases c4 : r = k'
              · unfold valD; rw [if_pos c4, if_pos c4]
              · rw [valD, if_neg c4, valD, if_neg c4]
                refine ih2 ?_ ?_ c3
                · rw [valD, if_neg e2]
                · rw [valD, if_neg e2]
    · rw [if_neg e] at h ⊢
      by_cases e2 : q = k'
      · subst e2
        rw [valD, if_pos rfl, if_neg (fun z => e z.symm), valD, if_pos rfl]
      · rw [valD, if_neg e2, ih h, valD, if_neg e2]
theorem valD_append {l : List (Key × D)} : valD (l ++ [(k, v)]) k' = match valD l k' with | some x => some x | none => if k = k' then some v else none := by
  induction l with
  | nil => show valD [(k, v)] k' = _; unfold valD; by_cases e : k = k' <;> simp [e, valD]
  | cons p l ih =>
    obtain ⟨q, x⟩ := p
    rw [List.cons_append, valD, valD]
    by_cases e : q = k'
    · rw [if_pos e, if_pos e]
    · rw [if_neg e, if_neg e, ih]
theorem valD_putD : (valD (putD kv k v) k').isSome = (decide (k = k') || (valD kv k').isSome) := by
  unfold putD
  by_cases h : (valD kv k).isSome = true
  · rw [if_pos h, valD_setD h]
    by_cases e : k = k'
    · rw [if_pos e, decide_eq_true e]; rfl
    · rw [if_neg e, decide_eq_false e, Bool.false_or]
  · rw [if_neg h, valD_append]
    by_cases e : k = k'
    · subst e
      cases hv : valD kv k with
      | some x => simp
      | none => simp
    · rw [decide_eq_false e, Bool.false_or]
      cases hv : valD kv k' with
      | some x => rfl
      | none => simp [e]
theorem valD_dropD : (valD (dropD kv k) k').isSome = (!decide (k = k') && (valD kv k').isSome) := by
  induction kv with
  | nil => simp [dropD, valD]
  | cons p kv ih =>
    obtain ⟨q, x⟩ := p
    unfold dropD
    by_cases e : q = k
    · rw [if_pos e, ih]
      by_cases e2 : k = k'
      · rw [decide_eq_true e2]; rfl
      · rw [valD, if_neg (by rw [e]; exact e2)]
    · rw [if_neg e, valD]
      by_cases e2 : q = k'
      · rw [if_pos e2, valD, if_pos e2, decide_eq_false (fun z => e (e2.trans z.symm))]
        rfl
      · rw [if_neg e2, ih, valD, if_neg e2]
theorem len_setD : (setD kv k v).length = kv.length := by
  induction kv with
  | nil => rfl
  | cons p kv ih =>
    obtain ⟨q, x⟩ := p
    unfold setD
    split <;> simp [ih]
theorem len_putD : (putD kv k v).length ≤ kv.length + 1 := by
  unfold putD
  split
  · rw [len_setD]; omega
  · simp
theorem len_dropD : (dropD kv k).length ≤ kv.length := by
  induction kv with
  | nil => exact Nat.le_refl _
  | cons p kv ih =>
    obtain ⟨q, x⟩ := p
    unfold dropD
    split
    · exact Nat.le_succ_of_le ih
    · exact Nat.succ_le_succ ih
end
end K85

namespace K85
open PySem PySem.Spec PyProof.Rows L2 DL
local macro_rules | `(tactic| walk_at "ev") => `(tactic| simp only [*, dSeq, dAsg, dIfS, dRet, dRetN, dNext, dDrop, dVar, dC, dBin, dTst, dTru, dNotT, dAndT, dOrT, dAndV, dOrV, dNotV, dIf, dChain, dNil, dCons, dTup, dLst, dNew, dApp, dNeg, gN, R.bind, R.stm, R.tru, R.opt, R.fin, dPutA, sPutA, sSetL, sPutK, dDisp, dPNil, dPCons, dFor, iRng1D,
  dIxA, dIx, dGetK, dicOf, DL.keyOf, seqOf, cLen, cAbs, cMin2, cMax2, cInt, cTuple, cIsi, tyNm, dLtI, dLeI, dGtI, dGeI, cmpI, opI2, dAdd, dSub, dMul, dDiv, dMod, dPow, dBMT, isT, mAppend, truD, List.getElem?_cons_zero, List.getElem?_cons_succ, List.set_cons_zero, List.set_cons_succ, ↓reduceIte, if_true, if_false, Bool.false_eq_true, Option.isSome_some, Option.isSome_none, valD, mergeD,
  Sum.inr.injEq, ofStr_inj, String.reduceEq, sizeLine_eq, List.length_cons, List.length_nil, List.length_map, Nat.reduceAdd, Nat.reduceLT, Nat.reduceLeDiff, decide_true, decide_false, decide_eq_true_eq, Bool.and_eq_true, and_true, true_and, and_self, Int.reduceLT, Int.reduceLE, Int.reducePow, Int.reduceNeg, Bool.true_and, Bool.and_true, beq_self_eq_true, dInA, dInK, dIn, dq_int, dq_bl, dIs, flatD, inD, List.any_cons, List.any_nil, eqF, List.all_cons, List.all_nil, isTy, dComp, dSl, dNoPart, dPart, dCut, iZipD, gTupN, gNames, gTupX, gxCons, gxNil, gFld, setF, putFD, fldV, dFld, dFldS, dFldAug, dAddI, R.nox, dMeth, dMake, dGet1, dGet2, dPop1, cRow, cSorted, cAll1, cMin1, cTuple, sqlOf, iAny, iRng2D, dAug, dCut, dDispE, dNew, dShl, cListA, cList, keyD, dropD, Int.cast_ofNat_Int, Int.natCast_zero, Int.natCast_one, Bool.true_or, Bool.or_true, Bool.false_or, Bool.or_false, Bool.not_true, Bool.not_false, Bool.true_xor, Bool.false_xor, Bool.xor_true, Bool.xor_false, Bool.false_and, Bool.and_false, String.reduceBEq, Bool.not_not, reduceCtorEq, lstOf, List.length_append, List.cons_append, List.nil_append, List.isEmpty_nil, List.isEmpty_cons, List.mem_cons, List.not_mem_nil, or_false, or_true, true_or, p2D, Bool.true_eq_false, Bool.false_eq_true])









/-! ### the law's take -/
abbrev st8 (a0 a1 a2 a3 a4 : Ob) (kv : List (Key × D)) (S : List (Int × Int)) (top last : Int) : Sto := [a0, a1, a2, a3, a4, .dK kv, .dK (szD S), mOb 5 6 top last]
section
variable {a0 a1 a2 a3 a4 : Ob} {kv : List (Key × D)} {S : List (Int × Int)} {top last u many a s w : Int} {x1 x2 x3 x4 x5 x6 x7 : Option D} {c : DF} {st : Sto}
theorem take_W1 {sz : Int} : d__law_take_W1 c [x1, x2, some (.int many), x3, x4, some (.int sz), x6, x7] st = .ok (decide (sz < many)) st := by
  unfold d__law_take_W1
  walk_at "ev"
theorem take_L1 {sz : Int} : d__law_take_L1 c [x1, x2, x3, x4, some (.int u), some (.int sz), x6, x7] st = .ok (.nx, [x1, x2, x3, x4, some (.int u), some (.int (sz + u)), x6, x7]) st := by
  unfold d__law_take_L1
  walk_at "ev"
theorem sizeU_of {j : Nat} (hu : 1 ≤ u) (h1 : many ≤ u * ((j : Int) + 1)) (h2 : j = 0 ∨ u * (j : Int) < many) : sizeU u many = u * ((j : Int) + 1) := by
  unfold sizeU
  have hj : 0 ≤ u * (j : Int) := Int.mul_nonneg (by omega) (by omega)
  have e1 : u * ((j : Int) + 1) = u * j + u := by rw [Int.mul_add, Int.mul_one]
  have h3 : u * (j : Int) < (if many > 1 then many else 1) := by
    rcases h2 with h | h
    · subst h
      rw [show u * ((0 : Nat) : Int) = 0 by simp]
      split <;> omega
    · split <;> omega
  have h4 : (if many > 1 then many else 1) ≤ u * j + u := by
    split <;> omega
  generalize (if many > 1 then many else 1) = mm at *
  have q : (mm + u - 1) / u = (j : Int) + 1 := by
    have h5 : ((j : Int) + 1) * u ≤ mm + u - 1 := by rw [Int.mul_comm, e1]; omega
    have h6 : mm + u - 1 < ((j : Int) + 1 + 1) * u := by rw [Int.mul_comm, Int.mul_add, Int.mul_one, e1]; omega
    have l1 : (j : Int) + 1 ≤ (mm + u - 1) / u := (Int.le_ediv_iff_mul_le (by omega)).mpr h5
    have l2 : (mm + u - 1) / u < (j : Int) + 1 + 1 := (Int.ediv_lt_iff_lt_mul (by omega)).mpr h6
    omega
  rw [q, Int.mul_comm]
theorem take_while (hu : 1 ≤ u) (hm : 0 ≤ many) (hm2 : many ≤ 100) : dWhile (d__law_take_W1 c) (d__law_take_L1 c) [x1, x2, some (.int many), x4, some (.int u), some (.int u), x6, x7] st = .ok (.nx, [x1, x2, some (.int many), x4, some (.int u), some (.int (sizeU u many)), x6, x7]) st := by
  obtain ⟨τ', st', st1, h1, ⟨j, rfl, rfl, h3⟩, h4⟩ := while_inv (c := d__law_take_W1 c) (body := d__law_take_L1 c) (τ := [x1, x2, some (.int many), x4, some (.int u), some (.int u), x6, x7]) (st := st)
    (fun τ s => ∃ j : Nat, τ = [x1, x2, some (.int many), x4, some (.int u), some (.int (u * ((j : Int) + 1))), x6, x7] ∧ s = st ∧ (j = 0 ∨ u * (j : Int) < many))
    (fun τ _ => match τ with | [_, _, _, _, _, some (.int k), _, _] => (many - k).toNat | _ => 0) ⟨0, by simp, rfl, .inl rfl⟩ (by show (many - u).toNat < 1000000000; omega) (by
      rintro τ s ⟨j, rfl, rfl, h3⟩
      refine ⟨_, s, take_W1, fun hb => ?_, fun _ => ⟨j, rfl, rfl, h3⟩⟩
      have hb := of_decide_eq_true hb
      refine ⟨.nx, _, s, take_L1, .inl rfl, ⟨j + 1, ?_, rfl, .inr ?_⟩, ?_⟩
      · have : u * ((j : Int) + 1) + u = u * (((j + 1 : Nat) : Int) + 1) := by
          rw [show (((j + 1 : Nat) : Int) + 1) = ((j : Int) + 1) + 1 by omega, Int.mul_add u ((j : Int) + 1) 1, Int.mul_one]
        rw [this]
      · rw [show ((j + 1 : Nat) : Int) = (j : Int) + 1 by omega]; exact hb
      · show (many - (u * ((j : Int) + 1) + u)).toNat < (many - u * ((j : Int) + 1)).toNat
        omega)
  rw [take_W1] at h4
  have h4 := of_decide_eq_false (R.ok.inj h4).1
  rw [sizeU_of hu (by omega) h3]
  exact h1
theorem take_L2 (hl : kv.length < 16777216) : d__law_take_L2 c [some (.ref 7), x1, x2, x3, x4, x5, some (.int a), some (.int w)] (st8 a0 a1 a2 a3 a4 kv S top last) =
    .ok (.nx, [some (.ref 7), x1, x2, x3, x4, x5, some (.int a), some (.int w)]) (st8 a0 a1 a2 a3 a4 (putD kv (Sum.inl (a + w) : Key) (.int a)) S top last) := by
  unfold d__law_take_L2 st8 mOb
  walk_at "ev"
def has (kv : List (Key × D)) (w : Int) : Bool := (valD kv (Sum.inl w : Key)).isSome
theorem take_for (hl : kv.length ≤ 100000) {s : Nat} (hs : s ≤ 1000) : ∃ kv' x7', forL (gN 7) (d__law_take_L2 c) (rng 0 (s : Int)) [some (.ref 7), x1, x2, x3, x4, x5, some (.int a), x7] (st8 a0 a1 a2 a3 a4 kv S top last) =
    .ok (.nx, [some (.ref 7), x1, x2, x3, x4, x5, some (.int a), x7']) (st8 a0 a1 a2 a3 a4 kv' S top last) ∧ (∀ w, has kv' w = (has kv w || (decide (a ≤ w) && decide (w < a + s)))) ∧ kv'.length ≤ kv.length + s := by
  obtain ⟨τ', st', h1, kv', x7', rfl, rfl, h2, h3⟩ := forN_inv (j := 7) (body := d__law_take_L2 c) (ds := rng 0 (s : Int)) (τ := [some (.ref 7), x1, x2, x3, x4, x5, some (.int a), x7]) (st := st8 a0 a1 a2 a3 a4 kv S top last)
    (fun i τ s' => ∃ kv' x7', τ = [some (.ref 7), x1, x2, x3, x4, x5, some (.int a), x7'] ∧ s' = st8 a0 a1 a2 a3 a4 kv' S top last ∧ (∀ w, has kv' w = (has kv w || (decide (a ≤ w) && decide (w < a + (i : Int))))) ∧ kv'.length ≤ kv.length + i)
    ⟨kv, x7, rfl, rfl, fun w => by
      have : (decide (a ≤ w) && decide (w < a + ((0 : Nat) : Int))) = false := by
        by_cases c : a ≤ w
        · rw [decide_eq_false (show ¬ w < a + ((0 : Nat) : Int) by omega), Bool.and_false]
        · rw [decide_eq_false c, Bool.false_and]
      rw [this, Bool.or_false], Nat.le_refl _⟩ (by
      rintro i d τ s' hd ⟨kv', x7', rfl, rfl, h2, h3⟩
      have hi : i < s := by
        have := (List.getElem?_eq_some_iff.mp hd).1
        rw [rng_len] at this
        omega
      have hd' : d = .int ((0 : Int) + (i : Int)) := by
        rw [rng_get (by omega)] at hd
        exact (Option.some.inj hd).symm
      subst hd'
      rw [Int.zero_add]
      refine ⟨.nx, _, _, take_L2 (by omega), .inl rfl, _, _, rfl, rfl, fun w => ?_, Nat.le_trans len_putD (by omega)⟩
      unfold has
      rw [valD_putD]
      have := h2 w
      unfold has at this
      rw [this]
      by_cases e : a + (i : Int) = w
      · rw [decide_eq_true (by rw [e]), Bool.true_or, decide_eq_true (show a ≤ w by omega), decide_eq_true (show w < a + ((i + 1 : Nat) : Int) by omega)]
        simp
      · rw [decide_eq_false (fun z => e (Sum.inl.inj z)), Bool.false_or]
        have : decide (w < a + (i : Int)) = decide (w < a + ((i + 1 : Nat) : Int)) ∨ ¬ a ≤ w := by
          by_cases c : a ≤ w
          · left
            by_cases c2 : w < a + (i : Int)
            · rw [decide_eq_true c2, decide_eq_true (by omega)]
            · rw [decide_eq_false c2, decide_eq_false (by omega)]
          · exact .inr c
        rcases this with q | q
        · rw [q]
        · rw [decide_eq_false q, Bool.false_and, Bool.false_and])
  rw [rng_len] at h2 h3
  have hs' : (((s : Int) - 0).toNat) = s := by omega
  rw [hs'] at h2 h3
  exact ⟨kv', x7', h1, h2, h3⟩
theorem take_T1 (hl : S.length ≤ 100000) (hn : ∀ p ∈ S, p.1 ≠ a) : dPutA (dBin dIxA (dVar 0) (dC (.str "sizes"))) (dVar 6) (dVar 5) [some (.ref 7), x1, x2, x3, x4, some (.int s), some (.int a), x7] (st8 a0 a1 a2 a3 a4 kv S top last) =
    .ok (.nx, [some (.ref 7), x1, x2, x3, x4, some (.int s), some (.int a), x7]) (st8 a0 a1 a2 a3 a4 kv (S ++ [(a, s)]) top last) := by
  have p1 := putD_sz (s := s) hn
  have z1 : (szD S).length < 16777216 := by rw [len_sz]; omega
  unfold st8 mOb
  walk_at "ev"
theorem take_T2 : dPutA (dVar 0) (dC (.str "top")) (dApp cMax2 (dCons (dBin dIxA (dVar 0) (dC (.str "top"))) (dCons (dBin dAdd (dVar 6) (dVar 5)) (dNil)))) [some (.ref 7), x1, x2, x3, x4, some (.int s), some (.int a), x7] (st8 a0 a1 a2 a3 a4 kv S top last) =
    .ok (.nx, [some (.ref 7), x1, x2, x3, x4, some (.int s), some (.int a), x7]) (st8 a0 a1 a2 a3 a4 kv S (if a + s > top then a + s else top) last) := by
  have p1 : ∀ v, putD [((Sum.inr (Str.ofString "owner") : Key), D.ref 5), (.inr (Str.ofString "sizes"), .ref 6), (.inr (Str.ofString "top"), .int top), (.inr (Str.ofString "last"), .int last)] (Sum.inr (Str.ofString "top")) v =
    [(.inr (Str.ofString "owner"), .ref 5), (.inr (Str.ofString "sizes"), .ref 6), (.inr (Str.ofString "top"), v), (.inr (Str.ofString "last"), .int last)] := fun v => by
    simp only [putD, valD, setD, Sum.inr.injEq, ofStr_inj, String.reduceEq, if_true, if_false, Option.isSome_some]
  unfold st8 mOb
  walk_at "ev"
theorem take_T3 : dPutA (dVar 0) (dC (.str "last")) (dBin dAdd (dVar 6) (dVar 5)) [some (.ref 7), x1, x2, x3, x4, some (.int s), some (.int a), x7] (st8 a0 a1 a2 a3 a4 kv S top last) =
    .ok (.nx, [some (.ref 7), x1, x2, x3, x4, some (.int s), some (.int a), x7]) (st8 a0 a1 a2 a3 a4 kv S top (a + s)) := by
  have p1 : ∀ v, putD [((Sum.inr (Str.ofString "owner") : Key), D.ref 5), (.inr (Str.ofString "sizes"), .ref 6), (.inr (Str.ofString "top"), .int top), (.inr (Str.ofString "last"), .int last)] (Sum.inr (Str.ofString "last")) v =
    [(.inr (Str.ofString "owner"), .ref 5), (.inr (Str.ofString "sizes"), .ref 6), (.inr (Str.ofString "top"), .int top), (.inr (Str.ofString "last"), v)] := fun v => by
    simp only [putD, valD, setD, Sum.inr.injEq, ofStr_inj, String.reduceEq, if_true, if_false, Option.isSome_some]
  unfold st8 mOb
  walk_at "ev"
theorem rng_it {τ : En} {st : Sto} {i n : Nat} (h : τ[i]? = some (some (.int (n : Int)))) (hn : n ≤ 1000000) : iRng1D (dCons (dVar i) dNil) τ st = .ok (rng 0 (n : Int)) st := by
  have hb : (-4611686018427387904 : Int) ≤ (n : Int) ∧ (n : Int) < 4611686018427387904 := by omega
  clear hn
  walk_at "ev"
theorem app_eq {F : DF} {t : DA} {τ : En} {st st1 : Sto} {ds : List D} {r : DL.R D} (ht : t τ st = .ok ds st1) (h : F ds st1 = r) : dApp F t τ st = r := by unfold dApp; rw [ht]; exact h
theorem law_take_eq {pol : Str} {c : DF} (hu : 1 ≤ u) (hu2 : u ≤ 8) (hm : 0 ≤ many) (hm2 : many ≤ 100) (hk : kv.length ≤ 100000) (hS : S.length ≤ 100000)
    (cl : c [.ref 7, .str pol, .int (sizeU u many)] (st8 a0 a1 a2 a3 a4 kv S top last) = .ok (.int a) (st8 a0 a1 a2 a3 a4 kv S top last)) (hn : ∀ p ∈ S, p.1 ≠ a) :
    ∃ kv', F__law_take c [.ref 7, .tup [.str pol, .int u], .int many] (st8 a0 a1 a2 a3 a4 kv S top last) =
      .ok (.int a) (st8 a0 a1 a2 a3 a4 kv' (S ++ [(a, sizeU u many)]) (if a + sizeU u many > top then a + sizeU u many else top) (a + sizeU u many)) ∧
      (∀ w, has kv' w = (has kv w || (decide (a ≤ w) && decide (w < a + sizeU u many)))) ∧ kv'.length ≤ kv.length + 200 := by
  have hz : 0 ≤ sizeU u many ∧ sizeU u many ≤ 200 := by
    unfold sizeU
    have h1 : 0 ≤ (if many > 1 then many else 1) + u - 1 := by split <;> omega
    have h2 : (if many > 1 then many else 1) + u - 1 ≤ 200 := by split <;> omega
    have h3 := Int.ediv_nonneg h1 (show 0 ≤ u by omega)
    exact ⟨Int.mul_nonneg h3 (by omega), Int.le_trans (Int.ediv_mul_le _ (by omega)) h2⟩
  obtain ⟨n, hn2⟩ : ∃ n : Nat, sizeU u many = n := ⟨(sizeU u many).toNat, by omega⟩
  have wl := take_while (c := c) (x1 := some (.ref 7)) (x2 := some (.tup [.str pol, .int u])) (x4 := some (.str pol)) (x6 := none) (x7 := none) (st := st8 a0 a1 a2 a3 a4 kv S top last) hu hm hm2
  rw [hn2] at cl wl ⊢
  obtain ⟨kv', x7', f1, f2, f3⟩ := take_for (c := c) (a0 := a0) (a1 := a1) (a2 := a2) (a3 := a3) (a4 := a4) (S := S) (top := top) (last := last) (a := a) (x1 := some (.tup [.str pol, .int u])) (x2 := some (.int many)) (x3 := some (.str pol)) (x4 := some (.int u)) (x5 := some (.int n)) (x7 := none) hk (s := n) (by omega)
  refine ⟨kv', ?_, f2, by omega⟩
  unfold F__law_take d__law_take
  refine (def_go rfl).trans ?_
  rw [show startD 8 [D.ref 7, D.tup [.str pol, .int u], D.int many] = [some (.ref 7), some (.tup [.str pol, .int u]), some (.int many), none, none, none, none, none] from rfl]
  have s1 : dAsg (dVar 1) (gTupN [3, 4]) [some (.ref 7), some (.tup [.str pol, .int u]), some (.int many), none, none, none, none, none] (st8 a0 a1 a2 a3 a4 kv S top last) = .ok (.nx, [some (.ref 7), some (.tup [.str pol, .int u]), some (.int many), some (.str pol), some (.int u), none, none, none]) (st8 a0 a1 a2 a3 a4 kv S top last) := rfl
  rw [seq_nx s1, seq_nx (asg_nx (show dVar 4 _ _ = .ok (.int u) _ from rfl))]
  simp only [List.set_cons_succ, List.set_cons_zero]
  rw [seq_nx wl]
  have ap : dApp c (dCons (dVar 0) (dCons (dVar 3) (dCons (dVar 5) (dNil)))) [some (.ref 7), some (.tup [.str pol, .int u]), some (.int many), some (.str pol), some (.int u), some (.int n), none, none] (st8 a0 a1 a2 a3 a4 kv S top last) = .ok (.int a) (st8 a0 a1 a2 a3 a4 kv S top last) := app_eq (ds := [.ref 7, .str pol, .int n]) rfl cl
  rw [seq_nx (asg_nx ap)]
  simp only [List.set_cons_succ, List.set_cons_zero]
  have it : iRng1D (dCons (dVar 5) dNil) [some (.ref 7), some (.tup [.str pol, .int u]), some (.int many), some (.str pol), some (.int u), some (.int n), some (.int a), none] (st8 a0 a1 a2 a3 a4 kv S top last) = .ok (rng 0 (n : Int)) (st8 a0 a1 a2 a3 a4 kv S top last) := by
    exact rng_it rfl (by omega)
  rw [seq_nx (for_eq it f1), seq_nx (take_T1 hS hn), seq_nx take_T2, seq_nx take_T3]
  rw [ret_rt (show dVar 6 _ _ = .ok (.int a) _ from rfl)]
end
end K85

namespace K85
open PySem PySem.Spec PyProof.Rows L2 DL
local macro_rules | `(tactic| walk_at "ev") => `(tactic| simp only [*, dSeq, dAsg, dIfS, dRet, dRetN, dNext, dDrop, dVar, dC, dBin, dTst, dTru, dNotT, dAndT, dOrT, dAndV, dOrV, dNotV, dIf, dChain, dNil, dCons, dTup, dLst, dNew, dApp, dNeg, gN, R.bind, R.stm, R.tru, R.opt, R.fin, dPutA, sPutA, sSetL, sPutK, dDisp, dPNil, dPCons, dFor, iRng1D,
  dIxA, dIx, dGetK, dicOf, DL.keyOf, seqOf, cLen, cAbs, cMin2, cMax2, cInt, cTuple, cIsi, tyNm, dLtI, dLeI, dGtI, dGeI, cmpI, opI2, dAdd, dSub, dMul, dDiv, dMod, dPow, dBMT, isT, mAppend, truD, List.getElem?_cons_zero, List.getElem?_cons_succ, List.set_cons_zero, List.set_cons_succ, ↓reduceIte, if_true, if_false, Bool.false_eq_true, Option.isSome_some, Option.isSome_none, valD, mergeD,
  Sum.inr.injEq, ofStr_inj, String.reduceEq, sizeLine_eq, List.length_cons, List.length_nil, List.length_map, Nat.reduceAdd, Nat.reduceLT, Nat.reduceLeDiff, decide_true, decide_false, decide_eq_true_eq, Bool.and_eq_true, and_true, true_and, and_self, Int.reduceLT, Int.reduceLE, Int.reducePow, Int.reduceNeg, Bool.true_and, Bool.and_true, beq_self_eq_true, dInA, dInK, dIn, dq_int, dq_bl, dIs, flatD, inD, List.any_cons, List.any_nil, eqF, List.all_cons, List.all_nil, isTy, dComp, dSl, dNoPart, dPart, dCut, iZipD, gTupN, gNames, gTupX, gxCons, gxNil, gFld, setF, putFD, fldV, dFld, dFldS, dFldAug, dAddI, R.nox, dMeth, dMake, dGet1, dGet2, dPop1, cRow, cSorted, cAll1, cMin1, cTuple, sqlOf, iAny, iRng2D, dAug, dCut, dDispE, dNew, dShl, cListA, cList, keyD, dropD, Int.cast_ofNat_Int, Int.natCast_zero, Int.natCast_one, Bool.true_or, Bool.or_true, Bool.false_or, Bool.or_false, Bool.not_true, Bool.not_false, Bool.true_xor, Bool.false_xor, Bool.xor_true, Bool.xor_false, Bool.false_and, Bool.and_false, String.reduceBEq, Bool.not_not, reduceCtorEq, lstOf, List.length_append, List.cons_append, List.nil_append, List.isEmpty_nil, List.isEmpty_cons, List.mem_cons, List.not_mem_nil, or_false, or_true, true_or, p2D, Bool.true_eq_false, Bool.false_eq_true])










/-! ### the law's give -/
section
variable {a0 a1 a2 a3 a4 : Ob} {kv : List (Key × D)} {S S1 S2 : List (Int × Int)} {top last u a s w : Int} {x1 x2 x3 x4 : Option D}
theorem lgive_L1 (h : has kv (a + w) = true) : d__law_give_L1 [some (.ref 7), x1, some (.int a), some (.int w)] (st8 a0 a1 a2 a3 a4 kv S top last) =
    .ok (.nx, [some (.ref 7), x1, some (.int a), some (.int w)]) (st8 a0 a1 a2 a3 a4 (dropD kv (Sum.inl (a + w) : Key)) S top last) := by
  obtain ⟨v, hv⟩ := Option.isSome_iff_exists.mp h
  clear h
  unfold d__law_give_L1 st8 mOb
  walk_at "ev"
theorem lgive_for (hl : kv.length ≤ 100000) {s : Nat} (hs : s ≤ 1000) (hh : ∀ w, a ≤ w → w < a + (s : Int) → has kv w = true) : ∃ kv' x4', forL (gN 3) d__law_give_L1 (rng 0 (s : Int)) [some (.ref 7), x1, some (.int a), x4] (st8 a0 a1 a2 a3 a4 kv S top last) =
    .ok (.nx, [some (.ref 7), x1, some (.int a), x4']) (st8 a0 a1 a2 a3 a4 kv' S top last) ∧ (∀ w, has kv' w = (has kv w && !(decide (a ≤ w) && decide (w < a + s)))) ∧ kv'.length ≤ kv.length := by
  obtain ⟨τ', st', h1, kv', x7', rfl, rfl, h2, h3⟩ := forN_inv (j := 3) (body := d__law_give_L1) (ds := rng 0 (s : Int)) (τ := [some (.ref 7), x1, some (.int a), x4]) (st := st8 a0 a1 a2 a3 a4 kv S top last)
    (fun i τ s' => ∃ kv' x7', τ = [some (.ref 7), x1, some (.int a), x7'] ∧ s' = st8 a0 a1 a2 a3 a4 kv' S top last ∧ (∀ w, has kv' w = (has kv w && !(decide (a ≤ w) && decide (w < a + (i : Int))))) ∧ kv'.length ≤ kv.length)
    ⟨kv, x4, rfl, rfl, fun w => by
      have : (decide (a ≤ w) && decide (w < a + ((0 : Nat) : Int))) = false := by
        by_cases c : a ≤ w
        · rw [decide_eq_false (show ¬ w < a + ((0 : Nat) : Int) by omega), Bool.and_false]
        · rw [decide_eq_false c, Bool.false_and]
      rw [this]; simp, Nat.le_refl _⟩ (by
      rintro i d τ s' hd ⟨kv', x7', rfl, rfl, h2, h3⟩
      have hi : i < s := by
        have := (List.getElem?_eq_some_iff.mp hd).1
        rw [rng_len] at this
        omega
      have hd' : d = .int ((0 : Int) + (i : Int)) := by
        rw [rng_get (by omega)] at hd
        exact (Option.some.inj hd).symm
      subst hd'
      rw [Int.zero_add]
      have hk : has kv' (a + (i : Int)) = true := by
        rw [h2, hh _ (by omega) (by omega), decide_eq_false (show ¬ a + (i : Int) < a + (i : Int) by omega)]
        simp
      refine ⟨.nx, _, _, lgive_L1 hk, .inl rfl, _, _, rfl, rfl, fun w => ?_, Nat.le_trans len_dropD h3⟩
      have q : has (dropD kv' (Sum.inl (a + (i : Int)) : Key)) w = (!decide ((Sum.inl (a + (i : Int)) : Key) = Sum.inl w) && has kv' w) := valD_dropD
      rw [q, h2]
      by_cases e : a + (i : Int) = w
      · rw [decide_eq_true (by rw [e]), decide_eq_true (show a ≤ w by omega), decide_eq_true (show w < a + ((i + 1 : Nat) : Int) by omega)]
        simp
      · rw [decide_eq_false (fun z => e (Sum.inl.inj z))]
        have : decide (w < a + (i : Int)) = decide (w < a + ((i + 1 : Nat) : Int)) ∨ ¬ a ≤ w := by
          by_cases c : a ≤ w
          · left
            by_cases c2 : w < a + (i : Int)
            · rw [decide_eq_true c2, decide_eq_true (by omega)]
            · rw [decide_eq_false c2, decide_eq_false (by omega)]
          · exact .inr c
        rcases this with q | q
        · rw [q]; simp
        · rw [decide_eq_false q]; simp)
  rw [rng_len] at h2
  have hs' : (((s : Int) - 0).toNat) = s := by omega
  rw [hs'] at h2
  exact ⟨kv', x7', h1, h2, h3⟩
theorem lgive_pop (h : ∀ p ∈ S1, p.1 ≠ a) (h' : ∀ p ∈ S2, p.1 ≠ a) : dDrop (dPop1 (dBin dIxA (dVar 0) (dC (.str "sizes"))) (dVar 2)) [some (.ref 7), x1, some (.int a), x4] (st8 a0 a1 a2 a3 a4 kv (S1 ++ (a, s) :: S2) top last) =
    .ok (.nx, [some (.ref 7), x1, some (.int a), x4]) (st8 a0 a1 a2 a3 a4 kv (S1 ++ S2) top last) := by
  have h1 := valD_mid (S2 := S2) (s := s) h
  have h2 := dropD_mid (s := s) h h'
  unfold st8 mOb
  clear h h'
  generalize szD (S1 ++ (a, s) :: S2) = q1 at *
  generalize szD (S1 ++ S2) = q2 at *
  walk_at "ev"
theorem lgive_W1 : d__law_give_W1 [some (.ref 7), x1, x2, x4] (st8 a0 a1 a2 a3 a4 kv S top last) = .ok (decide (1 < top) && !has kv (top - 1)) (st8 a0 a1 a2 a3 a4 kv S top last) := by
  unfold d__law_give_W1 st8 mOb has
  by_cases c : 1 < top
  · have g : decide (1 < top) = true := decide_eq_true c
    clear c
    walk_at "ev"
  · have g : decide (1 < top) = false := decide_eq_false c
    clear c
    walk_at "ev"
theorem put_top (v : D) : putD [((Sum.inr (Str.ofString "owner") : Key), D.ref 5), (.inr (Str.ofString "sizes"), .ref 6), (.inr (Str.ofString "top"), .int top), (.inr (Str.ofString "last"), .int last)] (Sum.inr (Str.ofString "top")) v =
    [(.inr (Str.ofString "owner"), .ref 5), (.inr (Str.ofString "sizes"), .ref 6), (.inr (Str.ofString "top"), v), (.inr (Str.ofString "last"), .int last)] := by
  simp only [putD, valD, setD, Sum.inr.injEq, ofStr_inj, String.reduceEq, if_true, if_false, Option.isSome_some]
theorem lgive_L2 : d__law_give_L2 [some (.ref 7), x1, x2, x4] (st8 a0 a1 a2 a3 a4 kv S top last) = .ok (.nx, [some (.ref 7), x1, x2, x4]) (st8 a0 a1 a2 a3 a4 kv S (top - 1) last) := by
  have p1 := put_top (top := top) (last := last)
  unfold d__law_give_L2 st8 mOb
  walk_at "ev"
/-- the top goes down to the last word that is held -/
theorem lgive_while {f : Int} (hf : 1 ≤ f) (ht : f ≤ top) (hb : top ≤ 1000000) (h1 : ∀ w, f ≤ w → w < top → has kv w = false) (h2 : f = 1 ∨ has kv (f - 1) = true) :
    dWhile d__law_give_W1 d__law_give_L2 [some (.ref 7), x1, x2, x4] (st8 a0 a1 a2 a3 a4 kv S top last) = .ok (.nx, [some (.ref 7), x1, x2, x4]) (st8 a0 a1 a2 a3 a4 kv S f last) := by
  have run : ∀ (n : Nat) (t : Int), t = f + n → t ≤ top → ∀ m, n < m → whileN d__law_give_W1 d__law_give_L2 m [some (.ref 7), x1, x2, x4] (st8 a0 a1 a2 a3 a4 kv S t last) = .ok (.nx, [some (.ref 7), x1, x2, x4]) (st8 a0 a1 a2 a3 a4 kv S f last) := by
    intro n
    induction n with
    | zero =>
      intro t e _ m hm
      obtain ⟨m, rfl⟩ : ∃ k, m = k + 1 := ⟨m - 1, by omega⟩
      have e : t = f := by omega
      subst e
      have hw : (decide (1 < t) && !has kv (t - 1)) = false := by
        rcases h2 with q | q
        · rw [decide_eq_false (by omega), Bool.false_and]
        · rw [q]; simp
      unfold whileN
      rw [lgive_W1, hw]
      rfl
    | succ n ih =>
      intro t e hl m hm
      obtain ⟨m, rfl⟩ : ∃ k, m = k + 1 := ⟨m - 1, by omega⟩
      have hw : (decide (1 < t) && !has kv (t - 1)) = true := by
        rw [decide_eq_true (by omega), h1 (t - 1) (by omega) (by omega)]
        rfl
      unfold whileN
      rw [lgive_W1, hw]
      show (if true = true then (d__law_give_L2 [some (.ref 7), x1, x2, x4] (st8 a0 a1 a2 a3 a4 kv S t last)).turn (fun τ st => whileN d__law_give_W1 d__law_give_L2 m τ st) else _) = _
      rw [if_pos rfl, lgive_L2]
      exact ih (t - 1) (by omega) (by omega) m (by omega)
  unfold dWhile
  exact run (top - f).toNat top (by omega) (Int.le_refl _) fuel (by show (top - f).toNat < 1000000000; omega)
theorem lgive_in (h : ∀ p ∈ S, p.1 ≠ a) : dTst (dBin (dInA true) (dVar 2) (dBin dIxA (dVar 0) (dC (.str "sizes")))) [some (.ref 7), x1, some (.int a), x4] (st8 a0 a1 a2 a3 a4 kv S top last) = .ok true (st8 a0 a1 a2 a3 a4 kv S top last) := by
  have h1 := valD_sz h
  unfold st8 mOb
  clear h
  generalize szD S = q1 at *
  walk_at "ev"
theorem lgive_in2 (h : ∀ p ∈ S1, p.1 ≠ a) : dTst (dBin (dInA true) (dVar 2) (dBin dIxA (dVar 0) (dC (.str "sizes")))) [some (.ref 7), x1, some (.int a), x4] (st8 a0 a1 a2 a3 a4 kv (S1 ++ (a, s) :: S2) top last) = .ok false (st8 a0 a1 a2 a3 a4 kv (S1 ++ (a, s) :: S2) top last) := by
  have h1 := valD_mid (S2 := S2) (s := s) h
  unfold st8 mOb
  clear h
  generalize szD (S1 ++ (a, s) :: S2) = q1 at *
  walk_at "ev"
theorem lgive_it {n : Nat} (h : ∀ p ∈ S1, p.1 ≠ a) (hn : n ≤ 1000000) : iRng1D (dCons (dBin dIxA (dBin dIxA (dVar 0) (dC (.str "sizes"))) (dVar 2)) (dNil)) [some (.ref 7), x1, some (.int a), x4] (st8 a0 a1 a2 a3 a4 kv (S1 ++ (a, (n : Int)) :: S2) top last) = .ok (rng 0 (n : Int)) (st8 a0 a1 a2 a3 a4 kv (S1 ++ (a, (n : Int)) :: S2) top last) := by
  have h1 := valD_mid (S2 := S2) (s := (n : Int)) h
  have hb : (-4611686018427387904 : Int) ≤ (n : Int) ∧ (n : Int) < 4611686018427387904 := by omega
  unfold st8 mOb
  clear h hn
  generalize szD (S1 ++ (a, (n : Int)) :: S2) = q1 at *
  walk_at "ev"
theorem lgive_none {y : D} (h : ∀ p ∈ S, p.1 ≠ a) : F__law_give [.ref 7, y, .int a] (st8 a0 a1 a2 a3 a4 kv S top last) = .ok (.bl false) (st8 a0 a1 a2 a3 a4 kv S top last) := by
  unfold F__law_give d__law_give
  refine (def_go rfl).trans ?_
  rw [show startD 4 [D.ref 7, y, D.int a] = [some (.ref 7), some y, some (.int a), none] from rfl]
  rw [seq_rt ((ifs_t (lgive_in h)).trans (ret_rt (d := .bl false) rfl))]
def inB (a s w : Int) : Bool := decide (a ≤ w) && decide (w < a + s)
theorem lgive_pol {pol : Str} {st : Sto} (hp : PyData.strOk pol = true) : dTst (dBin (dEq true) (dBin dIxA (dVar 1) (dC (.int 0))) (dC (.str "bump"))) [some (.ref 7), some (.tup [.str pol, .int u]), some (.int a), x4] st = .ok (decide (pol ≠ ("bump" : Str))) st := by
  have b3 : PyData.strOk (Str.ofString "bump") = true := by decide +kernel
  have d3 := fun st => dq_str (neg := true) (st := st) hp b3
  have e1 : atI [D.str pol, D.int u] (0 : Int) = some (.str pol) := rfl
  have e2 : decide (pol ≠ ("bump" : Str)) = (true ^^ decide (pol = ("bump" : Str))) := by rw [decide_not, Bool.true_xor]
  rw [e2]
  generalize decide (pol = ("bump" : Str)) = b at *
  clear hp
  walk_at "ev"
theorem lgive_eq {pol : Str} {f : Int} (hp : PyData.strOk pol = true) (h : ∀ p ∈ S1, p.1 ≠ a) (h' : ∀ p ∈ S2, p.1 ≠ a) (hs : 0 ≤ s) (hs2 : s ≤ 1000) (hl : kv.length ≤ 100000) (hh : ∀ w, a ≤ w → w < a + s → has kv w = true) (hb : top ≤ 1000000)
    (hf : pol ≠ ("bump" : Str) → 1 ≤ f ∧ f ≤ top ∧ (∀ w, f ≤ w → w < top → (has kv w && !inB a s w) = false) ∧ (f = 1 ∨ (has kv (f - 1) && !inB a s (f - 1)) = true)) :
    ∃ kv', F__law_give [.ref 7, .tup [.str pol, .int u], .int a] (st8 a0 a1 a2 a3 a4 kv (S1 ++ (a, s) :: S2) top last) = .ok (.bl true) (st8 a0 a1 a2 a3 a4 kv' (S1 ++ S2) (if pol = ("bump" : Str) then top else f) last) ∧
      (∀ w, has kv' w = (has kv w && !inB a s w)) ∧ kv'.length ≤ kv.length := by
  obtain ⟨n, rfl⟩ : ∃ n : Nat, s = n := ⟨s.toNat, by omega⟩
  obtain ⟨kv', x4', f1, f2, f3⟩ := lgive_for (a0 := a0) (a1 := a1) (a2 := a2) (a3 := a3) (a4 := a4) (S := S1 ++ (a, (n : Int)) :: S2) (top := top) (last := last) (x1 := some (.tup [.str pol, .int u])) (x4 := none) hl (s := n) (by omega) hh
  refine ⟨kv', ?_, f2, f3⟩
  unfold F__law_give d__law_give
  refine (def_go rfl).trans ?_
  rw [show startD 4 [D.ref 7, D.tup [.str pol, .int u], D.int a] = [some (.ref 7), some (.tup [.str pol, .int u]), some (.int a), none] from rfl]
  rw [seq_nx ((ifs_f (lgive_in2 h)).trans rfl)]
  unfold d__law_give_R1
  rw [seq_nx (for_eq (lgive_it h (by omega)) f1), seq_nx (lgive_pop h h')]
  by_cases e : pol = ("bump" : Str)
  · rw [if_pos e]
    have q := lgive_pol (u := u) (a := a) (x4 := x4') (st := st8 a0 a1 a2 a3 a4 kv' (S1 ++ S2) top last) hp
    rw [decide_eq_false (fun z => z e)] at q
    rw [seq_nx ((ifs_f q).trans rfl), ret_rt (d := .bl true) rfl]
  · rw [if_neg e]
    have q := lgive_pol (u := u) (a := a) (x4 := x4') (st := st8 a0 a1 a2 a3 a4 kv' (S1 ++ S2) top last) hp
    rw [decide_eq_true e] at q
    obtain ⟨g1, g2, g3, g4⟩ := hf e
    unfold d__law_give_B1
    rw [seq_nx ((ifs_t q).trans (lgive_while g1 g2 hb (fun w p r => by rw [f2]; exact g3 w p r) (g4.imp id fun z => by rw [f2]; exact z))), ret_rt (d := .bl true) rfl]
end
end K85

namespace K85
open PySem PySem.Spec PyProof.Rows L2 DL
local macro_rules | `(tactic| walk_at "ev") => `(tactic| simp only [*, dSeq, dAsg, dIfS, dRet, dRetN, dNext, dDrop, dVar, dC, dBin, dTst, dTru, dNotT, dAndT, dOrT, dAndV, dOrV, dNotV, dIf, dChain, dNil, dCons, dTup, dLst, dNew, dApp, dNeg, gN, R.bind, R.stm, R.tru, R.opt, R.fin, dPutA, sPutA, sSetL, sPutK, dDisp, dPNil, dPCons, dFor, iRng1D,
  dIxA, dIx, dGetK, dicOf, DL.keyOf, seqOf, cLen, cAbs, cMin2, cMax2, cInt, cTuple, cIsi, tyNm, dLtI, dLeI, dGtI, dGeI, cmpI, opI2, dAdd, dSub, dMul, dDiv, dMod, dPow, dBMT, isT, mAppend, truD, List.getElem?_cons_zero, List.getElem?_cons_succ, List.set_cons_zero, List.set_cons_succ, ↓reduceIte, if_true, if_false, Bool.false_eq_true, Option.isSome_some, Option.isSome_none, valD, mergeD,
  Sum.inr.injEq, ofStr_inj, String.reduceEq, sizeLine_eq, List.length_cons, List.length_nil, List.length_map, Nat.reduceAdd, Nat.reduceLT, Nat.reduceLeDiff, decide_true, decide_false, decide_eq_true_eq, Bool.and_eq_true, and_true, true_and, and_self, Int.reduceLT, Int.reduceLE, Int.reducePow, Int.reduceNeg, Bool.true_and, Bool.and_true, beq_self_eq_true, dInA, dInK, dIn, dq_int, dq_bl, dIs, flatD, inD, List.any_cons, List.any_nil, eqF, List.all_cons, List.all_nil, isTy, dComp, dSl, dNoPart, dPart, dCut, iZipD, gTupN, gNames, gTupX, gxCons, gxNil, gFld, setF, putFD, fldV, dFld, dFldS, dFldAug, dAddI, R.nox, dMeth, dMake, dGet1, dGet2, dPop1, cRow, cSorted, cAll1, cMin1, cTuple, sqlOf, iAny, iRng2D, dAug, dCut, dDispE, dNew, dShl, cListA, cList, keyD, dropD, Int.cast_ofNat_Int, Int.natCast_zero, Int.natCast_one, Bool.true_or, Bool.or_true, Bool.false_or, Bool.or_false, Bool.not_true, Bool.not_false, Bool.true_xor, Bool.false_xor, Bool.xor_true, Bool.xor_false, Bool.false_and, Bool.and_false, String.reduceBEq, Bool.not_not, reduceCtorEq, lstOf, List.length_append, List.cons_append, List.nil_append, List.isEmpty_nil, List.isEmpty_cons, List.mem_cons, List.not_mem_nil, or_false, or_true, true_or, p2D, Bool.true_eq_false, Bool.false_eq_true])











/-! ### what holds between the deeds -/
theorem IsRuns.len {F : Int → Bool} {hi : Int} : ∀ {lo : Int} {ps : List (Int × Int)}, lo ≤ hi → IsRuns F hi lo ps → (ps.length : Int) ≤ hi - lo
  | lo, [], h, _ => by simp; omega
  | lo, p :: ps, h, ⟨h1, h2, h3, h4, h5, h6, h7⟩ => by
    have := IsRuns.len h3 h7
    rw [List.length_cons]
    omega
def occ (S : List (Int × Int)) (w : Int) : Bool := S.any fun p => inB p.1 p.2 w
structure Iv (pol : Str) (S : List (Int × Int)) (kv : List (Key × D)) (top last : Int) (ps : List (Int × Int)) (n : Nat) : Prop where
  sok : ∀ p ∈ S, 1 ≤ p.1 ∧ 0 < p.2 ∧ p.2 ≤ 200 ∧ p.1 + p.2 ≤ top
  dis : S.Pairwise fun p q => p.1 + p.2 ≤ q.1 ∨ q.1 + q.2 ≤ p.1
  own : ∀ w, has kv w = occ S w
  runs : IsRuns (fun w => !has kv w) top 1 ps
  top1 : 1 ≤ top
  top2 : top ≤ 1 + 200 * n
  low : pol ≠ ("bump" : Str) → top = 1 ∨ has kv (top - 1) = true
  lS : S.length ≤ n
  lK : kv.length ≤ 200 * n
theorem inB_iff {a s w : Int} : inB a s w = true ↔ a ≤ w ∧ w < a + s := by
  unfold inB
  rw [Bool.and_eq_true_iff, decide_eq_true_eq, decide_eq_true_eq]
theorem occ_of {S : List (Int × Int)} {p : Int × Int} {w : Int} (h : p ∈ S) (h1 : p.1 ≤ w) (h2 : w < p.1 + p.2) : occ S w = true :=
  List.any_eq_true.mpr ⟨p, h, inB_iff.mpr ⟨h1, h2⟩⟩
theorem Iv.take {pol : Str} {S : List (Int × Int)} {kv kv' : List (Key × D)} {top top' last last' a s : Int} {ps ps' : List (Int × Int)} {n : Nat} (I : Iv pol S kv top last ps n) (hs : 0 < s) (hs2 : s ≤ 200) (ha : 1 ≤ a) (hat : a + s ≤ top') (ht : top ≤ top') (ht2 : top' ≤ top + 200)
    (hfree : ∀ w, a ≤ w → w < a + s → has kv w = false) (hk : ∀ w, has kv' w = (has kv w || inB a s w)) (hl : kv'.length ≤ kv.length + 200) (hr : IsRuns (fun w => !has kv' w) top' 1 ps') (hlow : pol ≠ ("bump" : Str) → top' = 1 ∨ has kv' (top' - 1) = true) :
    Iv pol (S ++ [(a, s)]) kv' top' last' ps' (n + 1) where
  sok := fun p hp => by
    rcases List.mem_append.mp hp with h | h
    · have := I.sok p h
      omega
    · rw [List.mem_singleton.mp h]
      exact ⟨ha, hs, hs2, hat⟩
  dis := List.pairwise_append.mpr ⟨I.dis, List.pairwise_singleton _ _, fun p hp q hq => by
    rw [List.mem_singleton.mp hq]
    show p.1 + p.2 ≤ a ∨ a + s ≤ p.1
    by_cases c1 : p.1 + p.2 ≤ a
    · exact .inl c1
    · by_cases c2 : a + s ≤ p.1
      · exact .inr c2
      · exfalso
        have h0 := I.sok p hp
        have h1 := hfree (max p.1 a) (by omega) (by omega)
        rw [I.own, occ_of hp (by omega) (by omega)] at h1
        cases h1⟩
  own := fun w => by
    rw [hk, I.own]
    unfold occ
    rw [List.any_append]
    simp
  runs := hr
  top1 := by have := I.top1; omega
  top2 := by have := I.top2; omega
  low := hlow
  lS := by rw [List.length_append]; have := I.lS; simp; omega
  lK := by have := I.lK; omega
theorem sortP_self {F : Int → Bool} {hi lo : Int} {ps qs : List (Int × Int)} (h : IsRuns F hi lo ps) (hp : qs.Perm ps) : sortP qs = ps := by
  have := sortP_of (ns := qs) (ms := ps) hp.symm (h.sorted.2.imp fun {a b} h => lexLe_iff.mpr (.inl h))
  exact this.symm
theorem Iv.give {pol : Str} {S1 S2 : List (Int × Int)} {kv kv' : List (Key × D)} {top last a s : Int} {ps : List (Int × Int)} {n : Nat} (I : Iv pol (S1 ++ (a, s) :: S2) kv top last ps n)
    (hk : ∀ w, has kv' w = (has kv w && !inB a s w)) (hl : kv'.length ≤ kv.length) :
    Iv pol (S1 ++ S2) kv' (gvOf pol top ps a s).2 last (gvOf pol top ps a s).1 n ∧ (pol = ("bump" : Str) → (gvOf pol top ps a s).2 = top) ∧
    (pol ≠ ("bump" : Str) → 1 ≤ (gvOf pol top ps a s).2 ∧ (gvOf pol top ps a s).2 ≤ top ∧ (∀ w, (gvOf pol top ps a s).2 ≤ w → w < top → has kv' w = false) ∧ ((gvOf pol top ps a s).2 = 1 ∨ has kv' ((gvOf pol top ps a s).2 - 1) = true)) := by
  have hmem : (a, s) ∈ S1 ++ (a, s) :: S2 := by simp
  obtain ⟨k1, k2, k3, k4⟩ := I.sok _ hmem
  have k1 : 1 ≤ a := k1
  have k2 : 0 < s := k2
  have k4 : a + s ≤ top := k4
  have blk : ∀ w, a ≤ w → w < a + s → has kv w = true := fun w h1 h2 => by rw [I.own]; exact occ_of hmem h1 h2
  have sub : ∀ p ∈ S1 ++ S2, p ∈ S1 ++ (a, s) :: S2 := fun p hp => by
    rcases List.mem_append.mp hp with h | h
    · exact List.mem_append_left _ h
    · exact List.mem_append_right _ (List.mem_cons_of_mem _ h)
  have dis : ∀ p ∈ S1 ++ S2, p.1 + p.2 ≤ a ∨ a + s ≤ p.1 := fun p hp => by
    have d := List.pairwise_append.mp I.dis
    rcases List.mem_append.mp hp with h | h
    · have := d.2.2 p h (a, s) List.mem_cons_self
      exact this
    · have := (List.pairwise_cons.mp d.2.1).1 p h
      exact this.symm
  have own : ∀ w, has kv' w = occ (S1 ++ S2) w := fun w => by
    rw [hk, I.own, Bool.eq_iff_iff]
    constructor
    · intro h
      rw [Bool.and_eq_true_iff] at h
      obtain ⟨p, hp, hw⟩ := List.any_eq_true.mp h.1
      refine List.any_eq_true.mpr ⟨p, ?_, hw⟩
      rcases List.mem_append.mp hp with q | q
      · exact List.mem_append_left _ q
      · rcases List.mem_cons.mp q with e | q
        · rw [e] at hw
          have h2 := h.2
          have hw : inB a s w = true := hw
          rw [hw] at h2
          cases h2
        · exact List.mem_append_right _ q
    · intro h
      obtain ⟨p, hp, hw⟩ := List.any_eq_true.mp h
      have h1 := inB_iff.mp hw
      have h2 := dis p hp
      rw [Bool.and_eq_true_iff]
      refine ⟨occ_of (sub p hp) h1.1 h1.2, ?_⟩
      rw [Bool.not_eq_true', Bool.eq_false_iff]
      intro z
      have := inB_iff.mp z
      omega
  obtain ⟨f, e, pre, post, m1, m2, m3, m4, m5, m6⟩ := mg_runs (F := fun w => !has kv w) (G := fun w => !has kv' w) (hi := top) (a := a) (s := s) k2 k4 (fun w h1 h2 => by show (!has kv w) = false; rw [blk w h1 h2]; rfl) (fun w => by
    show (!has kv' w) = ((!has kv w) || (decide (a ≤ w) && decide (w < a + s)))
    rw [hk]
    show _ = ((!has kv w) || inB a s w)
    cases has kv w <;> cases inB a s w <;> rfl) (lo := 1) (ps := ps) k1 I.runs
  have dis' : (S1 ++ S2).Pairwise fun p q => p.1 + p.2 ≤ q.1 ∨ q.1 + q.2 ≤ p.1 := by
    have d := List.pairwise_append.mp I.dis
    exact List.pairwise_append.mpr ⟨d.1, (List.pairwise_cons.mp d.2.1).2, fun p hp q hq => d.2.2 p hp q (List.mem_cons_of_mem _ hq)⟩
  have lS : (S1 ++ S2).length ≤ n := by
    have := I.lS
    simp at this ⊢
    omega
  unfold gvOf
  rw [m1]
  by_cases c : e = top ∧ pol ≠ ("bump" : Str)
  · rw [if_pos c]
    obtain ⟨c1, c2⟩ := c
    subst c1
    obtain ⟨q1, q2, q3, q4⟩ := IsRuns.cut m6
    subst q1
    have fr : ∀ w, f ≤ w → w < e → has kv' w = false := fun w h1 h2 => by
      have free : ∀ {lo : Int} {pre : List (Int × Int)}, IsRuns (fun w => !has kv' w) e lo (pre ++ [(f, e - f)]) → (!has kv' w) = true := by
        intro lo pre
        induction pre generalizing lo with
        | nil => intro h; exact h.2.2.2.2.1 w h1 (by show w < f + (e - f); omega)
        | cons p pre ih => intro h; exact ih h.2.2.2.2.2.2
      have := free m6
      rw [Bool.not_eq_true'] at this
      exact this
    have lw : f = 1 ∨ has kv' (f - 1) = true := q4.imp id fun z => by
      have z : (!has kv' (f - 1)) = false := z
      rw [Bool.not_eq_false'] at z
      exact z
    refine ⟨⟨fun p hp => ?_, dis', own, ?_, q3, by have := I.top2; show f ≤ _; omega, fun _ => lw, lS, Nat.le_trans hl I.lK⟩, fun z => (c2 z).elim, fun _ => ⟨q3, by show f ≤ e; omega, fr, lw⟩⟩
    · obtain ⟨p1, p2, p3, p4⟩ := I.sok p (sub p hp)
      refine ⟨p1, p2, p3, ?_⟩
      show p.1 + p.2 ≤ f
      refine Int.not_lt.mp fun l => ?_
      have h1 := fr (p.1 + p.2 - 1) (by omega) (by omega)
      rw [own, occ_of hp (by omega) (by omega)] at h1
      cases h1
    · show IsRuns _ f 1 (sortP (pre ++ []))
      rw [List.append_nil, sortP_self q2 (.refl _)]
      exact q2
  · rw [if_neg c]
    have ps' : sortP (pre ++ post ++ [(f, e - f)]) = pre ++ (f, e - f) :: post := sortP_self m6 (by
      rw [List.append_assoc]
      exact List.Perm.append_left _ (List.perm_append_singleton _ _))
    have lw : pol ≠ ("bump" : Str) → top = 1 ∨ has kv' (top - 1) = true := fun z => by
      rcases I.low z with q | q
      · exact .inl q
      · refine .inr ?_
        rw [hk, q, Bool.true_and, Bool.not_eq_true', Bool.eq_false_iff]
        intro y
        have := inB_iff.mp y
        exact c ⟨by omega, z⟩
    refine ⟨⟨fun p hp => I.sok p (sub p hp), dis', own, ?_, I.top1, I.top2, lw, lS, Nat.le_trans hl I.lK⟩, fun _ => rfl, fun z => ⟨I.top1, Int.le_refl _, fun w h1 h2 => by have h1 : top ≤ w := h1; omega, lw z⟩⟩
    show IsRuns _ top 1 (sortP (pre ++ post ++ [(f, e - f)]))
    rw [ps']
    exact m6
end K85

namespace K85
open PySem PySem.Spec PyProof.Rows L2 DL
local macro_rules | `(tactic| walk_at "ev") => `(tactic| simp only [*, dSeq, dAsg, dIfS, dRet, dRetN, dNext, dDrop, dVar, dC, dBin, dTst, dTru, dNotT, dAndT, dOrT, dAndV, dOrV, dNotV, dIf, dChain, dNil, dCons, dTup, dLst, dNew, dApp, dNeg, gN, R.bind, R.stm, R.tru, R.opt, R.fin, dPutA, sPutA, sSetL, sPutK, dDisp, dPNil, dPCons, dFor, iRng1D,
  dIxA, dIx, dGetK, dicOf, DL.keyOf, seqOf, cLen, cAbs, cMin2, cMax2, cInt, cTuple, cIsi, tyNm, dLtI, dLeI, dGtI, dGeI, cmpI, opI2, dAdd, dSub, dMul, dDiv, dMod, dPow, dBMT, isT, mAppend, truD, List.getElem?_cons_zero, List.getElem?_cons_succ, List.set_cons_zero, List.set_cons_succ, ↓reduceIte, if_true, if_false, Bool.false_eq_true, Option.isSome_some, Option.isSome_none, valD, mergeD,
  Sum.inr.injEq, ofStr_inj, String.reduceEq, sizeLine_eq, List.length_cons, List.length_nil, List.length_map, Nat.reduceAdd, Nat.reduceLT, Nat.reduceLeDiff, decide_true, decide_false, decide_eq_true_eq, Bool.and_eq_true, and_true, true_and, and_self, Int.reduceLT, Int.reduceLE, Int.reducePow, Int.reduceNeg, Bool.true_and, Bool.and_true, beq_self_eq_true, dInA, dInK, dIn, dq_int, dq_bl, dIs, flatD, inD, List.any_cons, List.any_nil, eqF, List.all_cons, List.all_nil, isTy, dComp, dSl, dNoPart, dPart, dCut, iZipD, gTupN, gNames, gTupX, gxCons, gxNil, gFld, setF, putFD, fldV, dFld, dFldS, dFldAug, dAddI, R.nox, dMeth, dMake, dGet1, dGet2, dPop1, cRow, cSorted, cAll1, cMin1, cTuple, sqlOf, iAny, iRng2D, dAug, dCut, dDispE, dNew, dShl, cListA, cList, keyD, dropD, Int.cast_ofNat_Int, Int.natCast_zero, Int.natCast_one, Bool.true_or, Bool.or_true, Bool.false_or, Bool.or_false, Bool.not_true, Bool.not_false, Bool.true_xor, Bool.false_xor, Bool.xor_true, Bool.xor_false, Bool.false_and, Bool.and_false, String.reduceBEq, Bool.not_not, reduceCtorEq, lstOf, List.length_append, List.cons_append, List.nil_append, List.isEmpty_nil, List.isEmpty_cons, List.mem_cons, List.not_mem_nil, or_false, or_true, true_or, p2D, Bool.true_eq_false, Bool.false_eq_true])












/-! ### both take alike, both give alike -/
abbrev stW (rd o3 o4 : Ob) (pol : Str) (u : Int) (ps S : List (Int × Int)) (kv : List (Key × D)) (top last : Int) : Sto := st8 rd (hOb pol u 2 ps top last) (.dK (szD S)) o3 o4 kv S top last
theorem IsRuns.mid {F : Int → Bool} {hi b l : Int} : ∀ {lo : Int} {pre post : List (Int × Int)}, IsRuns F hi lo (pre ++ (b, l) :: post) → lo ≤ b ∧ b + l ≤ hi ∧ ∀ w, b ≤ w → w < b + l → F w = true
  | lo, [], post, h => ⟨h.1, h.2.2.1, h.2.2.2.2.1⟩
  | lo, p :: pre, post, ⟨h1, h2, h3, h4, h5, h6, h7⟩ => by
    obtain ⟨g1, g2, g3⟩ := IsRuns.mid h7
    exact ⟨by omega, g2, g3⟩
theorem Iv.plen {pol : Str} {S : List (Int × Int)} {kv : List (Key × D)} {top last : Int} {ps : List (Int × Int)} {n : Nat} (I : Iv pol S kv top last ps n) (hn : n ≤ 100) : ps.length ≤ 100000 := by
  have := IsRuns.len I.top1 I.runs
  have := I.top2
  omega
theorem Iv.runsK {pol : Str} {S : List (Int × Int)} {kv : List (Key × D)} {top last : Int} {ps : List (Int × Int)} {n : Nat} (I : Iv pol S kv top last ps n) (hn : n ≤ 100) {a0 a1 a2 a3 a4 : Ob} :
    trimF F__law_runs [.ref 7] (st8 a0 a1 a2 a3 a4 kv S top last) = .ok (.lst (ps.map p2D)) (st8 a0 a1 a2 a3 a4 kv S top last) := by
  obtain ⟨qs, h1, h2⟩ := runs_eq (st := st8 a0 a1 a2 a3 a4 kv S top last) (m := 7) (o := 5) (z := 6) (top := top) (last := last) (kv := kv) rfl rfl I.top1 (by have := I.top2; omega)
  have : qs = ps := IsRuns.uniq h2 I.runs
  rw [← this]
  exact h1
theorem size_pos {u many : Int} (hu : 1 ≤ u) (hu2 : u ≤ 8) (hm : 0 ≤ many) (hm2 : many ≤ 100) : 0 < sizeU u many ∧ sizeU u many ≤ 200 := by
  unfold sizeU
  have h1 : 1 ≤ (if many > 1 then many else 1) := by split <;> omega
  have h2 : (if many > 1 then many else 1) ≤ 100 := by split <;> omega
  generalize (if many > 1 then many else 1) = mm at *
  have h3 : 1 ≤ (mm + u - 1) / u := (Int.le_ediv_iff_mul_le (by omega)).mpr (by omega)
  have h4 := Int.ediv_mul_le (mm + u - 1) (show u ≠ 0 by omega)
  have h5 : 1 * u ≤ (mm + u - 1) / u * u := Int.mul_le_mul_of_nonneg_right h3 (by omega)
  omega
theorem both_take {rd o3 o4 : Ob} {pol : Str} {u many : Int} {ps S : List (Int × Int)} {kv : List (Key × D)} {top last : Int} {n : Nat} (I : Iv pol S kv top last ps n) (hn : n ≤ 100) (hu : 1 ≤ u) (hu2 : u ≤ 8) (hm : 0 ≤ many) (hm2 : many ≤ 100) (hp : PyData.strOk pol = true) :
    ∃ a ps' kv' top' last' S' mid, F_Heap_take F_Heap_chosen [.ref 1, .int many] (stW rd o3 o4 pol u ps S kv top last) = .ok (.int a) mid ∧
      F__law_take (F__law_chosen (F__law_fits (trimF F__law_runs))) [.ref 7, .tup [.str pol, .int u], .int many] mid = .ok (.int a) (stW rd o3 o4 pol u ps' S' kv' top' last') ∧ Iv pol S' kv' top' last' ps' (n + 1) := by
  obtain ⟨z1, z2⟩ := size_pos hu hu2 hm hm2
  have hpl := I.plen hn
  have hS := I.lS
  have hK := I.lK
  have ht2 := I.top2
  have sorted := I.runs.sorted
  obtain ⟨c1, c2⟩ := ch_eq (pol := pol) (last := last) (size := sizeU u many) (top := top) sorted.2
  generalize hsz : sizeU u many = s at *
  by_cases hc : chI pol last ps s = -1
  · have hfree : ∀ w, top ≤ w → has kv w = false := fun w hw => by
      rw [I.own, Bool.eq_false_iff]
      intro z
      obtain ⟨p, hp, hw2⟩ := List.any_eq_true.mp z
      have := I.sok p hp
      have := inB_iff.mp hw2
      omega
    have hne : ∀ p ∈ S, p.1 ≠ top := fun p hp e => by
      have := I.sok p hp
      omega
    have t1 := take_top (A := rd) (R := [o3, o4, .dK kv, .dK (szD S), mOb 5 6 top last]) (u := u) (top := top) (last := last) hu hu2 hm hm2 hpl hp (by rw [hsz]; exact hc) (by omega) hne
    have chosen := chosen_law (cF := F__law_next) (st := st8 rd (hOb pol u 2 ps (top + s) (top + s)) (.dK (szD (S ++ [(top, s)]))) o3 o4 kv S top last) (m := 7) (o := 5) (z := 6) (top := top) (last := last) (size := s) (pol := pol) rfl (I.runsK hn) hpl hp
    rw [c1 hc] at chosen
    rw [← hsz] at chosen
    obtain ⟨kv', l1, l2, l3⟩ := law_take_eq (c := F__law_chosen (F__law_fits (trimF F__law_runs))) (a := top) hu hu2 hm hm2 (by omega) (by omega) chosen hne
    rw [hsz] at l1 l2 t1
    rw [if_pos (by omega)] at l1
    refine ⟨top, ps, kv', top + s, top + s, S ++ [(top, s)], _, t1, l1, I.take z1 z2 I.top1 (Int.le_refl _) (by omega) (by omega) (fun w h _ => hfree w h) l2 l3 ?_ fun _ => .inr ?_⟩
    · refine IsRuns.more (by omega) (fun w h1 h2 => ?_) (IsRuns.congr I.runs fun w h1 h2 => ?_)
      · show (!has kv' w) = false
        rw [l2, show (decide (top ≤ w) && decide (w < top + s)) = true from inB_iff.mpr ⟨h1, h2⟩]
        simp
      · show (!has kv w) = (!has kv' w)
        rw [l2, decide_eq_false (show ¬ top ≤ w by omega)]
        simp
    · rw [l2, show (decide (top ≤ top + s - 1) && decide (top + s - 1 < top + s)) = true from inB_iff.mpr ⟨by omega, by omega⟩]
      simp
  · obtain ⟨k, hk, hkf⟩ := chI_at hc
    obtain ⟨kl, ks⟩ := fit_lt hkf
    have hch := c2 k hk
    have hsplit := split_at kl
    obtain ⟨b, l, hbl⟩ : ∃ b l, getP ps k = (b, l) := ⟨_, _, rfl⟩
    rw [hbl] at hsplit hch ks
    have ks : s ≤ l := ks
    have hch : chL pol last ps s top = b := hch
    have hlen : (ps.take k).length = k := by rw [List.length_take]; omega
    have runs := I.runs
    rw [hsplit] at runs
    obtain ⟨r1, r2, r3⟩ := IsRuns.mid runs
    have hfree : ∀ w, b ≤ w → w < b + s → has kv w = false := fun w h1 h2 => by
      have := r3 w h1 (by omega)
      rw [Bool.not_eq_true'] at this
      exact this
    have hne : ∀ p ∈ S, p.1 ≠ b := fun p hp e => by
      obtain ⟨p1, p2, p3, p4⟩ := I.sok p hp
      have h := hfree b (Int.le_refl _) (by omega)
      rw [I.own, occ_of hp (by omega) (by omega)] at h
      cases h
    have t1 := take_at (A := rd) (R := [o3, o4, .dK kv, .dK (szD S), mOb 5 6 top last]) (u := u) (top := top) (last := last) (b := b) (l := l) (pre := ps.take k) (post := ps.drop (k + 1)) hu hu2 hm hm2 (by rw [← hsplit]; exact hpl) hp (by rw [← hsplit, hsz, hlen]; exact hk) (by omega) hne
    rw [← hsplit, hsz] at t1
    have chosen := chosen_law (cF := F__law_next) (st := st8 rd (hOb pol u 2 (ps.take k ++ restOf b l s ++ ps.drop (k + 1)) top (b + s)) (.dK (szD (S ++ [(b, s)]))) o3 o4 kv S top last) (m := 7) (o := 5) (z := 6) (top := top) (last := last) (size := s) (pol := pol) rfl (I.runsK hn) hpl hp
    rw [hch, ← hsz] at chosen
    obtain ⟨kv', l1, l2, l3⟩ := law_take_eq (c := F__law_chosen (F__law_fits (trimF F__law_runs))) (a := b) hu hu2 hm hm2 (by omega) (by omega) chosen hne
    rw [hsz] at l1 l2
    rw [if_neg (show ¬ b + s > top by omega)] at l1
    refine ⟨b, ps.take k ++ restOf b l s ++ ps.drop (k + 1), kv', top, b + s, S ++ [(b, s)], _, t1, l1, I.take z1 z2 r1 (by omega) (Int.le_refl _) (by omega) hfree l2 l3 (IsRuns.taken z1 ks (fun w => ?_) runs) fun z => ?_⟩
    · show (!has kv' w) = ((!has kv w) && !(decide (b ≤ w) && decide (w < b + s)))
      rw [l2, Bool.not_or]
    · rcases I.low z with q | q
      · exact .inl q
      · refine .inr ?_
        rw [l2, q, Bool.true_or]
theorem split_key {S : List (Int × Int)} (hd : S.Pairwise fun p q => p.1 + p.2 ≤ q.1 ∨ q.1 + q.2 ≤ p.1) (hp : ∀ p ∈ S, 0 < p.2) {a : Int} (h : ¬ ∀ p ∈ S, p.1 ≠ a) :
    ∃ S1 S2 s, S = S1 ++ (a, s) :: S2 ∧ (∀ p ∈ S1, p.1 ≠ a) ∧ (∀ p ∈ S2, p.1 ≠ a) := by
  induction S with
  | nil => exact (h fun _ z => (List.not_mem_nil z).elim).elim
  | cons p S ih =>
    obtain ⟨d1, d2⟩ := List.pairwise_cons.mp hd
    by_cases e : p.1 = a
    · refine ⟨[], S, p.2, by rw [← e]; rfl, fun _ z => (List.not_mem_nil z).elim, fun q hq z => ?_⟩
      have := d1 q hq
      have := hp p List.mem_cons_self
      have := hp q (List.mem_cons_of_mem _ hq)
      omega
    · obtain ⟨S1, S2, s, q1, q2, q3⟩ := ih d2 (fun q hq => hp q (List.mem_cons_of_mem _ hq)) fun z => h fun q hq => by
        rcases List.mem_cons.mp hq with e' | hq
        · rw [e']; exact e
        · exact z q hq
      refine ⟨p :: S1, S2, s, by rw [q1]; rfl, fun q hq => ?_, q3⟩
      rcases List.mem_cons.mp hq with e' | hq
      · rw [e']; exact e
      · exact q2 q hq
theorem both_give_no {rd o3 o4 : Ob} {pol : Str} {u a : Int} {ps S : List (Int × Int)} {kv : List (Key × D)} {top last : Int} {y : D} (h : ∀ p ∈ S, p.1 ≠ a) :
    trimF F_Heap_give [.ref 1, .int a] (stW rd o3 o4 pol u ps S kv top last) = .ok (.bl false) (stW rd o3 o4 pol u ps S kv top last) ∧
    F__law_give [.ref 7, y, .int a] (stW rd o3 o4 pol u ps S kv top last) = .ok (.bl false) (stW rd o3 o4 pol u ps S kv top last) :=
  ⟨give_none h, lgive_none h⟩
theorem both_give_yes {rd o3 o4 : Ob} {pol : Str} {u a s : Int} {ps S1 S2 : List (Int × Int)} {kv : List (Key × D)} {top last : Int} {n : Nat} (I : Iv pol (S1 ++ (a, s) :: S2) kv top last ps n) (hn : n ≤ 100) (hp : PyData.strOk pol = true) (h : ∀ p ∈ S1, p.1 ≠ a) (h' : ∀ p ∈ S2, p.1 ≠ a) :
    ∃ ps' kv' top' mid, trimF F_Heap_give [.ref 1, .int a] (stW rd o3 o4 pol u ps (S1 ++ (a, s) :: S2) kv top last) = .ok (.bl true) mid ∧
      F__law_give [.ref 7, .tup [.str pol, .int u], .int a] mid = .ok (.bl true) (stW rd o3 o4 pol u ps' (S1 ++ S2) kv' top' last) ∧ Iv pol (S1 ++ S2) kv' top' last ps' n := by
  have t1 := give_eq (A := rd) (R := [o3, o4, .dK kv, .dK (szD (S1 ++ (a, s) :: S2)), mOb 5 6 top last]) (pol := pol) (u := u) (top := top) (last := last) (s := s) h h' hp (I.plen hn)
  obtain ⟨k1, k2, k3, k4⟩ := I.sok (a, s) (by simp)
  have k2 : 0 < s := k2
  have k3 : s ≤ 200 := k3
  have hb : top ≤ 1000000 := by have := I.top2; omega
  have hl : kv.length ≤ 100000 := by have := I.lK; omega
  have hh : ∀ w, a ≤ w → w < a + s → has kv w = true := fun w q1 q2 => by rw [I.own]; exact occ_of (p := (a, s)) (by simp) q1 q2
  -- the owner dict behind the law's give does not hang on the top
  obtain ⟨kv', f1, f2, f3⟩ : ∃ kv', F__law_give [.ref 7, .tup [.str pol, .int u], .int a] (st8 rd (hOb pol u 2 (gvOf pol top ps a s).1 (gvOf pol top ps a s).2 last) (.dK (szD (S1 ++ S2))) o3 o4 kv (S1 ++ (a, s) :: S2) top last) =
      .ok (.bl true) (st8 rd (hOb pol u 2 (gvOf pol top ps a s).1 (gvOf pol top ps a s).2 last) (.dK (szD (S1 ++ S2))) o3 o4 kv' (S1 ++ S2) (if pol = ("bump" : Str) then top else (gvOf pol top ps a s).2) last) ∧
      (∀ w, has kv' w = (has kv w && !inB a s w)) ∧ kv'.length ≤ kv.length := by
    refine lgive_eq hp h h' (by omega) (by omega) hl hh hb fun z => ?_
    -- an owner dict of the right keys, to read the invariant
    obtain ⟨kw, _, g1, g2, g3⟩ := lgive_for (a0 := rd) (a1 := rd) (a2 := rd) (a3 := rd) (a4 := rd) (S := S1) (top := top) (last := last) (a := a) (x1 := none) (x4 := none) hl (s := s.toNat) (by omega) (fun w q1 q2 => hh w q1 (by omega))
    have g2' : ∀ w, has kw w = (has kv w && !inB a s w) := fun w => by
      rw [g2, show ((s.toNat : Nat) : Int) = s by omega]
      rfl
    obtain ⟨_, _, J⟩ := I.give g2' g3
    obtain ⟨j1, j2, j3, j4⟩ := J z
    exact ⟨j1, j2, fun w q1 q2 => by rw [← g2']; exact j3 w q1 q2, j4.imp id fun q => by rw [← g2']; exact q⟩
  obtain ⟨J, jb, _⟩ := I.give f2 f3
  refine ⟨(gvOf pol top ps a s).1, kv', (gvOf pol top ps a s).2, _, t1, ?_, J⟩
  refine f1.trans ?_
  by_cases e : pol = ("bump" : Str)
  · rw [if_pos e, jb e]
  · rw [if_neg e]
end K85

namespace K85
open PySem PySem.Spec PyProof.Rows L2 DL
local macro_rules | `(tactic| walk_at "look") => `(tactic| first | assumption | (with_reducible exact get_new) | ((with_reducible apply get_set); walk_at "look") | ((with_reducible refine get_ne ?hne ?hq); (case hne => first | assumption | omega | decide); (case hq => walk_at "look")) | ((with_reducible apply get_old); walk_at "look") | exact rfl)
local macro_rules | `(tactic| walk_at "len") => `(tactic| (first | assumption | ((simp only [List.length_cons, List.length_nil, List.length_map, List.length_append]); omega) | omega))
local macro_rules | `(tactic| walk_at "kv") => `(tactic| ((simp only [mergeD, List.foldl_cons, List.foldl_nil, List.nil_append, List.cons_append, valD, putD, setD, Sum.inr.injEq, Sum.inl.injEq, reduceCtorEq, ofStr_inj, String.reduceEq, if_true, if_false, ↓reduceIte, Option.isSome_some, Option.isSome_none, Bool.false_eq_true]); first | done | exact rfl))
local macro_rules | `(tactic| walk_at "norm") => `(tactic| (with_reducible repeat' first | exact put_0 | refine' put_s ?_ | refine' setTo_set ?_ ?_ | exact setTo_refl))
local macro_rules | `(tactic| walk_at "w1") => `(tactic| first
  | (with_reducible first
    | refine wp_seq ?_ | refine wp_asg ?_ | refine wp_bin ?_ | refine wp_c ?_ | refine wp_ret ?_ | refine wp_ifs ?_ | refine wp_tst ?_ | refine wp_drop ?_ | refine truK_bl ?_
    | refine wp_app ?_ | refine wp_cons ?_ | refine wp_nil ?_ | refine wp_nott ?_ | refine wp_andt ?_ | refine wp_ort ?_ | refine wp_andv ?_ | refine wp_orv ?_ | refine wp_notv ?_ | refine wp_truv ?_
    | refine wp_if ?_ | refine wp_chain ?_ | refine wp_next ?_ | refine wp_retN ?_ | refine wp_break ?_ | refine wp_cont ?_ | refine seqK_rt ?_ | refine seqK_bk ?_ | refine seqK_ct ?_ | refine seqK_ex ?_
    | refine finK_rt ?_ | refine rtK_mk ?_ | refine finK_nx ?_ | refine finK_ex ?_ | refine turnK_rt ?_ | refine turnK_ex ?_ | refine wp_ok ?_ | refine wp_exc ?_ | refine if_t ?_ | refine if_f ?_ | refine if_nt ?_ | refine if_nf ?_ | refine wp_fld ?_ | refine wp_flds ?_ | refine wp_puta ?_
    | refine intK_int ?_ | refine wq_rng1 ?_ | refine wq_rng2 ?_ | refine wq_iany ?_ | refine rowK_l ?_ | refine rowK_t ?_ | refine rowK_f ?_ | refine rowK_s ?_ | refine wp_bmt ?_ | refine wp_meth ?_ | refine wp_make ?_ | refine wp_sl ?_ | refine wp_nopart ?_ | refine wp_for ?_ | refine wp_dispE ?_)
  | ((with_reducible refine' wp_var ?h ?q); (case h => exact rfl))
  | ((with_reducible refine' wp_aug ?h ?q); (case h => exact rfl))
  | ((with_reducible refine' seqK_nx ?h ?q); (case h => walk_at "norm"))
  | ((with_reducible refine' turnK_nx ?h ?q); (case h => walk_at "norm"))
  | ((with_reducible refine' turnK_ct ?h ?q); (case h => walk_at "norm"))
  | ((with_reducible refine' turnK_bk ?h ?q); (case h => walk_at "norm"))
  | (with_reducible first
    | refine wq_add ?_ | refine wq_addi ?_ | refine wq_sub ?_ | refine wq_lt ?_ | refine wq_le ?_ | refine wq_gt ?_ | refine wq_ge ?_ | refine wq_eqi ?_ | refine wq_nei ?_
    | refine wq_int ?_ | refine wq_intb ?_ | refine wq_abs ?_ | refine wq_lent ?_ | refine wq_lenl ?_ | refine wq_lenf ?_ | refine wq_tupl ?_ | refine wq_tupt ?_ | refine wq_listt ?_)
  | ((with_reducible refine wq_mod ?h ?q); (case h => first | assumption | omega))
  | ((with_reducible refine wq_div ?h ?h2 ?q); (case h => first | assumption | omega); (case h2 => omega))
  | ((with_reducible refine wq_mulS ?h ?h2 ?q); (case h => omega); (case h2 => omega))
  | ((with_reducible refine wq_eqs ?h ?h2 ?q); (case h => first | assumption | exact rfl | decide); (case h2 => first | assumption | exact rfl | decide))
  | ((with_reducible refine wq_nes ?h ?h2 ?q); (case h => first | assumption | exact rfl | decide); (case h2 => first | assumption | exact rfl | decide))
  | ((with_reducible refine' wq_ixt ?h ?q); (case h => first | exact rfl | assumption))
  | ((with_reducible refine' wq_ixl ?h ?q); (case h => first | exact rfl | assumption))
  | ((with_reducible refine' wq_ixf ?h ?q); (case h => first | exact rfl | assumption))
  | ((with_reducible refine' wq_ixk ?hn ?hk ?h ?q); (case hn => walk_at "look"); (case hk => exact rfl); (case h => first | assumption | walk_at "kv"))
  | ((with_reducible refine' wq_ixr ?hn ?h ?q); (case hn => walk_at "look"); (case h => first | assumption | exact rfl))
  | ((with_reducible refine' wq_lenr ?hn ?q); (case hn => walk_at "look"))
  | ((with_reducible refine wp_neg ?_))
  | ((with_reducible refine wp_part ?_))
  | ((with_reducible refine wp_tup ?_)) | ((with_reducible refine wp_lst ?_)) | ((with_reducible refine wp_new ?_))
  | ((with_reducible refine' wp_fldv ?h ?hc ?hf ?q); (case h => walk_at "look"); (case hc => simp only [List.mem_cons, true_or, or_true]); (case hf => first | assumption | walk_at "kv"))
  | ((with_reducible refine' wq_ink ?hn ?hk ?q); (case hn => walk_at "look"); (case hk => exact rfl))
  | ((with_reducible refine' wq_nink ?hn ?hk ?q); (case hn => walk_at "look"); (case hk => exact rfl))
  | ((with_reducible refine wp_disp ?_)) | ((with_reducible refine wp_pcons ?_)) | ((with_reducible refine wp_pnil ?_))
  | ((with_reducible refine' dispK_mk ?h ?hm ?q); (case h => walk_at "len"); (case hm => walk_at "kv"))
  | (with_reducible refine keyK_s ?_) | (with_reducible refine keyK_i ?_)
  | ((with_reducible refine' methK_mk ?h ?hf ?q); (case h => walk_at "look"); (case hf => first | assumption | walk_at "kv"))
  | ((with_reducible refine lenK_mk ?h ?q); (case h => walk_at "len"))
  | ((with_reducible refine isK_mk ?h ?q); (case h => first | exact rfl | assumption | (refine wq_tyr (ty := "") ?_; walk_at "look")))
  | ((with_reducible refine rng1K_mk ?h ?q); (case h => first | assumption | omega | (simp only [List.length_map]; omega)))
  | ((with_reducible refine rng2K_mk ?h1 ?h ?q); (case h1 => first | assumption | omega); (case h => first | assumption | omega | (simp only [List.length_map]; omega)))
  | ((with_reducible refine' wq_putk ?hn ?hk ?hl ?hp ?q); (case hn => walk_at "look"); (case hk => exact rfl); (case hl => walk_at "len"); (case hp => walk_at "kv"))
  | ((with_reducible refine' wq_append ?hn ?hl ?q); (case hn => walk_at "look"); (case hl => walk_at "len"))
  | ((with_reducible refine' wq_tupr ?hn ?q); (case hn => walk_at "look")))
local macro_rules | `(tactic| walk_at "w") => `(tactic| repeat' walk_at "w1")
local macro_rules | `(tactic| walk_at "def") => `(tactic| ((refine' wp_def ?hl ?ht ?q); (case hl => exact rfl); (case ht => ((simp only [startD, List.map_cons, List.map_nil, List.length_cons, List.length_nil, Nat.reduceAdd, Nat.reduceSub, List.replicate, List.cons_append, List.nil_append, List.append_nil]); first | done | exact rfl))))
/-! ### the law's look at the heap -/
section
variable {rd o3 o4 : Ob} {pol : Str} {u : Int} {ps S : List (Int × Int)} {kv : List (Key × D)} {top last : Int} {n : Nat}
theorem told_C1 {F1 F2 F3 F4 F5 : DF} {x0 x2 x4 : Option D} {a : Int} (ha : a ∈ S.map (·.1)) :
    d__law_as_told_C1 F1 F2 F3 F4 F5 [x0, some (.ref 7), x2, some (.int a), x4] (stW rd o3 o4 pol u ps S kv top last) = .ok (p2D (a, szAt S a)) (stW rd o3 o4 pol u ps S kv top last) := by
  have v := valD_at ha
  refine wp_eq ?_
  unfold d__law_as_told_C1
  walk_at "w"
  exact ⟨rfl, rfl⟩
theorem told_C2 {F1 F2 F3 F4 : DF} {x1 x2 : Option D} {a : Int} (ha : a ∈ S.map (·.1)) :
    d__law_as_told_C2 F1 F2 F3 F4 F_Heap_size [some (.ref 1), x1, x2, some (.int a), some (.int (szAt S a))] (stW rd o3 o4 pol u ps S kv top last) = .ok (.bl true) (stW rd o3 o4 pol u ps S kv top last) := by
  have v := size_eq (st := stW rd o3 o4 pol u ps S kv top last) (n := 1) (d := 2) rfl rfl ha
  refine wp_eq ?_
  unfold d__law_as_told_C2
  walk_at "w"
  refine wp_of v ?_
  walk_at "w"
  exact ⟨by simp, rfl⟩
theorem blS_mem {p : Int × Int} (h : p ∈ blS S) : p.1 ∈ S.map (·.1) ∧ p.2 = szAt S p.1 := by
  unfold blS at h
  obtain ⟨a, ha, rfl⟩ := List.mem_map.mp h
  exact ⟨(sortI_perm _).mem_iff.mp ha, rfl⟩
theorem boolsOf_true : ∀ (l : List (Int × Int)), boolsOf (l.map fun _ => D.bl true) = some (l.map fun _ => true)
  | [] => rfl
  | p :: l => by
    show (boolsOf (l.map fun _ => D.bl true)).map _ = _
    rw [boolsOf_true l]
    rfl
theorem pl_rows : ∀ (l : List (Int × Int)), plD (.tup (l.map p2D)) = true ∧ dpD (.tup (l.map p2D)) ≤ 64 := fun l =>
  ⟨plDs_all.mpr fun d hd => by obtain ⟨p, _, rfl⟩ := List.mem_map.mp hd; rfl, Nat.succ_le_succ (dpDs_all.mpr fun d hd => by obtain ⟨p, _, rfl⟩ := List.mem_map.mp hd; show 1 ≤ 63; decide)⟩
theorem blS_len : (blS S).length = S.length := by
  unfold blS
  rw [List.length_map, (sortI_perm _).length_eq, List.length_map]
theorem told_eq (I : Iv pol S kv top last ps n) (hn : n ≤ 100) :
    F__law_as_told F_Heap_blocks F_Heap_pieces (trimF F__law_runs) F_Heap_top F_Heap_size [.ref 1, .ref 7] (stW rd o3 o4 pol u ps S kv top last) = .ok (.bl true) (stW rd o3 o4 pol u ps S kv top last) := by
  have hS : S.length ≤ 100000 := by have := I.lS; omega
  have hb := blocks_eq (st := stW rd o3 o4 pol u ps S kv top last) (n := 1) (d := 2) rfl rfl hS
  have hp := pieces_eq (st := stW rd o3 o4 pol u ps S kv top last) (n := 1) rfl
  have ht := top_eq (st := stW rd o3 o4 pol u ps S kv top last) (n := 1) rfl
  have hr := I.runsK hn (a0 := rd) (a1 := hOb pol u 2 ps top last) (a2 := .dK (szD S)) (a3 := o3) (a4 := o4)
  have c1 : compL (.one 3) dYes (d__law_as_told_C1 F_Heap_blocks F_Heap_pieces (trimF F__law_runs) F_Heap_top F_Heap_size) [some (.ref 1), some (.ref 7), none, none, none] ((sortI (S.map (·.1))).map D.int) [] (stW rd o3 o4 pol u ps S kv top last) = .ok ((blS S).map p2D) (stW rd o3 o4 pol u ps S kv top last) := by
    rw [compL_map D.int (fun a => [some (.ref 1), some (.ref 7), none, some (.int a), none]) (fun _ => true) (fun a => p2D (a, szAt S a)) (fun _ _ => rfl) (fun _ _ => rfl) (fun a ha _ => told_C1 ((sortI_perm _).mem_iff.mp ha)) (by rw [(sortI_perm _).length_eq, List.length_map, sizeLine_eq]; omega)]
    rw [filter_yes]
    unfold blS
    rw [List.map_map]
    rfl
  have c2 : compL (.tup [3, 4]) dYes (d__law_as_told_C2 F_Heap_blocks F_Heap_pieces (trimF F__law_runs) F_Heap_top F_Heap_size) [some (.ref 1), some (.ref 7), some (.tup ((blS S).map p2D)), none, none] ((blS S).map p2D) [] (stW rd o3 o4 pol u ps S kv top last) = .ok ((blS S).map fun _ => D.bl true) (stW rd o3 o4 pol u ps S kv top last) := by
    rw [compL_map p2D (fun p => [some (.ref 1), some (.ref 7), some (.tup ((blS S).map p2D)), some (.int p.1), some (.int p.2)]) (fun _ => true) (fun p => D.bl true) (fun _ _ => rfl) (fun _ _ => rfl) (fun p hp _ => by
      obtain ⟨h1, h2⟩ := blS_mem hp
      rw [h2]
      exact told_C2 h1) (by rw [blS_len, sizeLine_eq]; omega)]
    rw [filter_yes]
  refine wp_eq ?_
  unfold F__law_as_told
  walk_at "def"
  unfold d__law_as_told
  walk_at "w"
  refine wp_comp (σ := [some (.ref 1), some (.ref 7), none, none, none]) rfl ?_
  walk_at "w"
  refine wp_of (a := .lst ((sortI (S.map (·.1))).map .int)) (st := stW rd o3 o4 pol u ps S kv top last) ?_ ?_
  · unfold cSorted dicOf
    dsimp only [List.getElem?_cons_succ, List.getElem?_cons_zero]
    rw [keysI_sz]
  walk_at "w"
  refine wp_of c1 ?_
  walk_at "w"
  refine wp_of hb ?_
  walk_at "w"
  refine wp_of (dq_refl (pl_rows _).1 (pl_rows _).2) ?_
  walk_at "w"
  refine wp_of hp ?_
  walk_at "w"
  refine wp_of hr ?_
  walk_at "w"
  refine wp_of (dq_refl (pl_rows _).1 (pl_rows _).2) ?_
  walk_at "w"
  refine wp_of ht ?_
  walk_at "w"
  rw [decide_eq_true (show top = top from rfl)]
  walk_at "w"
  refine wp_comp (σ := [some (.ref 1), some (.ref 7), some (.tup ((blS S).map p2D)), none, none]) rfl ?_
  walk_at "w"
  refine wp_of c2 ?_
  walk_at "w"
  refine wq_all (boolsOf_true _) ?_
  walk_at "w"
  exact ⟨by simp, rfl⟩
end
end K85

namespace K85
open PySem PySem.Spec PyProof.Rows L2 DL
local macro_rules | `(tactic| walk_at "look") => `(tactic| first | assumption | (with_reducible exact get_new) | ((with_reducible apply get_set); walk_at "look") | ((with_reducible refine get_ne ?hne ?hq); (case hne => first | assumption | omega | decide); (case hq => walk_at "look")) | ((with_reducible apply get_old); walk_at "look") | exact rfl)
local macro_rules | `(tactic| walk_at "len") => `(tactic| (first | assumption | ((simp only [List.length_cons, List.length_nil, List.length_map, List.length_append]); omega) | omega))
local macro_rules | `(tactic| walk_at "kv") => `(tactic| ((simp only [mergeD, List.foldl_cons, List.foldl_nil, List.nil_append, List.cons_append, valD, putD, setD, Sum.inr.injEq, Sum.inl.injEq, reduceCtorEq, ofStr_inj, String.reduceEq, if_true, if_false, ↓reduceIte, Option.isSome_some, Option.isSome_none, Bool.false_eq_true]); first | done | exact rfl))
local macro_rules | `(tactic| walk_at "norm") => `(tactic| (with_reducible repeat' first | exact put_0 | refine' put_s ?_ | refine' setTo_set ?_ ?_ | exact setTo_refl))
local macro_rules | `(tactic| walk_at "w1") => `(tactic| first
  | (with_reducible first
    | refine wp_seq ?_ | refine wp_asg ?_ | refine wp_bin ?_ | refine wp_c ?_ | refine wp_ret ?_ | refine wp_ifs ?_ | refine wp_tst ?_ | refine wp_drop ?_ | refine truK_bl ?_
    | refine wp_app ?_ | refine wp_cons ?_ | refine wp_nil ?_ | refine wp_nott ?_ | refine wp_andt ?_ | refine wp_ort ?_ | refine wp_andv ?_ | refine wp_orv ?_ | refine wp_notv ?_ | refine wp_truv ?_
    | refine wp_if ?_ | refine wp_chain ?_ | refine wp_next ?_ | refine wp_retN ?_ | refine wp_break ?_ | refine wp_cont ?_ | refine seqK_rt ?_ | refine seqK_bk ?_ | refine seqK_ct ?_ | refine seqK_ex ?_
    | refine finK_rt ?_ | refine rtK_mk ?_ | refine finK_nx ?_ | refine finK_ex ?_ | refine turnK_rt ?_ | refine turnK_ex ?_ | refine wp_ok ?_ | refine wp_exc ?_ | refine if_t ?_ | refine if_f ?_ | refine if_nt ?_ | refine if_nf ?_ | refine wp_fld ?_ | refine wp_flds ?_ | refine wp_puta ?_
    | refine intK_int ?_ | refine wq_rng1 ?_ | refine wq_rng2 ?_ | refine wq_iany ?_ | refine rowK_l ?_ | refine rowK_t ?_ | refine rowK_f ?_ | refine rowK_s ?_ | refine wp_bmt ?_ | refine wp_meth ?_ | refine wp_make ?_ | refine wp_sl ?_ | refine wp_nopart ?_ | refine wp_for ?_ | refine wp_dispE ?_)
  | ((with_reducible refine' wp_var ?h ?q); (case h => exact rfl))
  | ((with_reducible refine' wp_aug ?h ?q); (case h => exact rfl))
  | ((with_reducible refine' seqK_nx ?h ?q); (case h => walk_at "norm"))
  | ((with_reducible refine' turnK_nx ?h ?q); (case h => walk_at "norm"))
  | ((with_reducible refine' turnK_ct ?h ?q); (case h => walk_at "norm"))
  | ((with_reducible refine' turnK_bk ?h ?q); (case h => walk_at "norm"))
  | (with_reducible first
    | refine wq_add ?_ | refine wq_addi ?_ | refine wq_sub ?_ | refine wq_lt ?_ | refine wq_le ?_ | refine wq_gt ?_ | refine wq_ge ?_ | refine wq_eqi ?_ | refine wq_nei ?_
    | refine wq_int ?_ | refine wq_intb ?_ | refine wq_abs ?_ | refine wq_lent ?_ | refine wq_lenl ?_ | refine wq_lenf ?_ | refine wq_tupl ?_ | refine wq_tupt ?_ | refine wq_listt ?_)
  | ((with_reducible refine wq_mod ?h ?q); (case h => first | assumption | omega))
  | ((with_reducible refine wq_div ?h ?h2 ?q); (case h => first | assumption | omega); (case h2 => omega))
  | ((with_reducible refine wq_mulS ?h ?h2 ?q); (case h => omega); (case h2 => omega))
  | ((with_reducible refine wq_eqs ?h ?h2 ?q); (case h => first | assumption | exact rfl | decide); (case h2 => first | assumption | exact rfl | decide))
  | ((with_reducible refine wq_nes ?h ?h2 ?q); (case h => first | assumption | exact rfl | decide); (case h2 => first | assumption | exact rfl | decide))
  | ((with_reducible refine' wq_ixt ?h ?q); (case h => first | exact rfl | assumption))
  | ((with_reducible refine' wq_ixl ?h ?q); (case h => first | exact rfl | assumption))
  | ((with_reducible refine' wq_ixf ?h ?q); (case h => first | exact rfl | assumption))
  | ((with_reducible refine' wq_ixk ?hn ?hk ?h ?q); (case hn => walk_at "look"); (case hk => exact rfl); (case h => first | assumption | walk_at "kv"))
  | ((with_reducible refine' wq_ixr ?hn ?h ?q); (case hn => walk_at "look"); (case h => first | assumption | exact rfl))
  | ((with_reducible refine' wq_lenr ?hn ?q); (case hn => walk_at "look"))
  | ((with_reducible refine wp_neg ?_))
  | ((with_reducible refine wp_part ?_))
  | ((with_reducible refine wp_tup ?_)) | ((with_reducible refine wp_lst ?_)) | ((with_reducible refine wp_new ?_))
  | ((with_reducible refine' wp_fldv ?h ?hc ?hf ?q); (case h => walk_at "look"); (case hc => simp only [List.mem_cons, true_or, or_true]); (case hf => first | assumption | walk_at "kv"))
  | ((with_reducible refine' wq_ink ?hn ?hk ?q); (case hn => walk_at "look"); (case hk => exact rfl))
  | ((with_reducible refine' wq_nink ?hn ?hk ?q); (case hn => walk_at "look"); (case hk => exact rfl))
  | ((with_reducible refine wp_disp ?_)) | ((with_reducible refine wp_pcons ?_)) | ((with_reducible refine wp_pnil ?_))
  | ((with_reducible refine' dispK_mk ?h ?hm ?q); (case h => walk_at "len"); (case hm => walk_at "kv"))
  | (with_reducible refine keyK_s ?_) | (with_reducible refine keyK_i ?_)
  | ((with_reducible refine' methK_mk ?h ?hf ?q); (case h => walk_at "look"); (case hf => first | assumption | walk_at "kv"))
  | ((with_reducible refine lenK_mk ?h ?q); (case h => walk_at "len"))
  | ((with_reducible refine isK_mk ?h ?q); (case h => first | exact rfl | assumption | (refine wq_tyr (ty := "") ?_; walk_at "look")))
  | ((with_reducible refine rng1K_mk ?h ?q); (case h => first | assumption | omega | (simp only [List.length_map]; omega)))
  | ((with_reducible refine rng2K_mk ?h1 ?h ?q); (case h1 => first | assumption | omega); (case h => first | assumption | omega | (simp only [List.length_map]; omega)))
  | ((with_reducible refine' wq_putk ?hn ?hk ?hl ?hp ?q); (case hn => walk_at "look"); (case hk => exact rfl); (case hl => walk_at "len"); (case hp => walk_at "kv"))
  | ((with_reducible refine' wq_append ?hn ?hl ?q); (case hn => walk_at "look"); (case hl => walk_at "len"))
  | ((with_reducible refine' wq_tupr ?hn ?q); (case hn => walk_at "look")))
local macro_rules | `(tactic| walk_at "w") => `(tactic| repeat' walk_at "w1")
local macro_rules | `(tactic| walk_at "def") => `(tactic| ((refine' wp_def ?hl ?ht ?q); (case hl => exact rfl); (case ht => ((simp only [startD, List.map_cons, List.map_nil, List.length_cons, List.length_nil, Nat.reduceAdd, Nat.reduceSub, List.replicate, List.cons_append, List.nil_append, List.append_nil]); first | done | exact rfl))))
/-! ### a deed -/
def RdO (rd : Ob) (b : Nat) : Prop := ∃ row k seed, rd = DR.rdOb row (k : Nat) seed ∧ k ≤ b ∧ 0 ≤ seed ∧ seed < 1000003
theorem next_w {rd : Ob} {R : Sto} {m : Int} {b : Nat} {Q : D → Sto → Prop} {E : Exn → Sto → Prop} (h : RdO rd b) (hb : b ≤ 1000000) (hm : 0 < m)
    (q : ∀ v rd', 0 ≤ v → v < m → RdO rd' (b + 1) → Q (.int v) (rd' :: R)) : Wp (F__law_next [.ref 0, .int m] (rd :: R)) Q E := by
  obtain ⟨row, k, seed, rfl, h2, h3, h4⟩ := h
  have e := DR.next_eq (st := DR.rdOb row k seed :: R) (n := 0) (m := m) rfl hm (by omega) h3 h4
  refine wp_of e ?_
  have l := DR.nextV_lt (row := row) (k := k) (seed := seed) hm
  exact q _ _ l.1 l.2 ⟨row, k + 1, seed, rfl, by omega, h3, h4⟩
theorem Iv.mono {pol : Str} {S : List (Int × Int)} {kv : List (Key × D)} {top last : Int} {ps : List (Int × Int)} {n m : Nat} (I : Iv pol S kv top last ps n) (h : n ≤ m) : Iv pol S kv top last ps m :=
  ⟨I.sok, I.dis, I.own, I.runs, I.top1, by have := I.top2; omega, I.low, by have := I.lS; omega, by have := I.lK; omega⟩
section
variable {rd o3 o4 : Ob} {pol : Str} {u : Int} {ps S : List (Int × Int)} {kv : List (Key × D)} {top last : Int} {n b : Nat}
/-- behind a deed -/
def Behind (o3 o4 : Ob) (pol : Str) (u : Int) (n b : Nat) (d : D) (st : Sto) : Prop :=
  d = .bl true ∧ ∃ rd ps S kv top last, st = stW rd o3 o4 pol u ps S kv top last ∧ RdO rd b ∧ Iv pol S kv top last ps n
noncomputable abbrev cTk : DF := F_Heap_take F_Heap_chosen
noncomputable abbrev cLt : DF := F__law_take (F__law_chosen (F__law_fits (trimF F__law_runs)))
noncomputable abbrev cGv : DF := trimF F_Heap_give
abbrev aD (pol : Str) (u : Int) : D := .tup [.str pol, .int u]
theorem deed_B1 {x4 x5 x6 x7 : Option D} (I : Iv pol S kv top last ps n) (hn : n ≤ 100) (hu : 1 ≤ u) (hu2 : u ≤ 8) (hp : PyData.strOk pol = true) (hr : RdO rd b) (hb : b ≤ 20000) :
    Wp (d__law_deed_B1 F__law_next cTk cLt cGv F__law_give [some (.ref 0), some (.ref 1), some (.ref 7), some (aD pol u), x4, x5, x6, x7] (stW rd o3 o4 pol u ps S kv top last))
      (rtK (Behind o3 o4 pol u (n + 1) (b + 4))) NoX := by
  unfold d__law_deed_B1
  walk_at "w"
  refine next_w hr (by omega) (by omega) fun v1 r1 p1 q1 hr => ?_
  walk_at "w"
  refine next_w hr (by omega) (by omega) fun v2 r2 p2 q2 hr => ?_
  walk_at "w"
  refine next_w hr (by omega) (by omega) fun v3 r3 p3 q3 hr => ?_
  walk_at "w"
  refine next_w hr (by omega) (by omega) fun v4 r4 p4 q4 hr => ?_
  obtain ⟨many, hat, hm, hm2⟩ : ∃ many : Int, atI [D.int v1, .int v2, .int v3] v4 = some (.int many) ∧ 0 ≤ many ∧ many ≤ 100 := by
    have : v4 = 0 ∨ v4 = 1 ∨ v4 = 2 := by omega
    rcases this with rfl | rfl | rfl
    · exact ⟨v1, rfl, by omega, by omega⟩
    · exact ⟨v2, rfl, by omega, by omega⟩
    · exact ⟨v3, rfl, by omega, by omega⟩
  obtain ⟨a, ps', kv', top', last', S', mid, t1, t2, J⟩ := both_take (rd := r4) (o3 := o3) (o4 := o4) I hn hu hu2 hm hm2 hp
  walk_at "w"
  refine wp_of t1 ?_
  walk_at "w"
  refine wp_of t2 ?_
  walk_at "w"
  exact ⟨by simp, r4, ps', S', kv', top', last', rfl, hr, J⟩
theorem both_give {a : Int} (I : Iv pol S kv top last ps n) (hn : n ≤ 100) (hp : PyData.strOk pol = true) :
    ∃ r mid ps' S' kv' top' last', cGv [.ref 1, .int a] (stW rd o3 o4 pol u ps S kv top last) = .ok (.bl r) mid ∧ F__law_give [.ref 7, aD pol u, .int a] mid = .ok (.bl r) (stW rd o3 o4 pol u ps' S' kv' top' last') ∧ Iv pol S' kv' top' last' ps' n ∧ ((∃ p ∈ S, p.1 = a) → r = true ∧ ∀ p, p ∈ S' ↔ p ∈ S ∧ p.1 ≠ a) := by
  by_cases h : ∀ p ∈ S, p.1 ≠ a
  · obtain ⟨t1, t2⟩ := both_give_no (rd := rd) (o3 := o3) (o4 := o4) (pol := pol) (u := u) (ps := ps) (kv := kv) (top := top) (last := last) (y := aD pol u) h
    exact ⟨false, _, ps, S, kv, top, last, t1, t2, I, fun ⟨p, hp, e⟩ => (h p hp e).elim⟩
  · obtain ⟨S1, S2, s, rfl, h1, h2⟩ := split_key I.dis (fun p hp => (I.sok p hp).2.1) h
    obtain ⟨ps', kv', top', mid, t1, t2, J⟩ := both_give_yes (rd := rd) (o3 := o3) (o4 := o4) (u := u) I hn hp h1 h2
    refine ⟨true, _, ps', S1 ++ S2, kv', top', last, t1, t2, J, fun _ => ⟨rfl, fun p => ?_⟩⟩
    rw [List.mem_append, List.mem_append, List.mem_cons]
    constructor
    · rintro (z | z)
      · exact ⟨.inl z, h1 p z⟩
      · exact ⟨.inr (.inr z), h2 p z⟩
    · rintro ⟨z | rfl | z, e⟩
      · exact .inl z
      · exact (e rfl).elim
      · exact .inr z
theorem deed_R1 {x6 x7 : Option D} {v : Int} (I : Iv pol S kv top last ps n) (hn : n ≤ 100) (hS : S ≠ []) (hp : PyData.strOk pol = true) (hr : RdO rd b) (hb : b ≤ 20000) :
    Wp (d__law_deed_R1 F__law_next cTk cLt cGv F__law_give [some (.ref 0), some (.ref 1), some (.ref 7), some (aD pol u), some (.lst ((sortI (S.map (·.1))).map .int)), some (.int v), x6, x7] (stW rd o3 o4 pol u ps S kv top last))
      (rtK (Behind o3 o4 pol u (n + 1) (b + 4))) NoX := by
  have hl : 0 < ((sortI (S.map (·.1))).map D.int).length := by
    rw [List.length_map, (sortI_perm _).length_eq, List.length_map]
    exact List.length_pos_iff.mpr hS
  unfold d__law_deed_R1
  walk_at "w"
  refine next_w hr (by omega) (by omega) fun v1 r1 p1 q1 hr => ?_
  obtain ⟨k, rfl⟩ : ∃ k : Nat, v1 = k := ⟨v1.toNat, by omega⟩
  rw [List.length_map] at q1
  walk_at "w"
  refine wq_ixl (atI_map (by omega)) ?_
  walk_at "w"
  refine if_dec (fun h9 => ?_) (fun h9 => ?_)
  · walk_at "w"
    refine next_w hr (by omega) (by omega) fun v2 r2 p2 q2 hr => ?_
    walk_at "w"
    obtain ⟨r, mid, ps', S', kv', top', last', t1, t2, J, _⟩ := both_give (rd := r2) (o3 := o3) (o4 := o4) (u := u) (a := _) I hn hp
    refine wp_of t1 ?_
    walk_at "w"
    refine wp_of t2 ?_
    walk_at "w"
    refine wp_of dq_bl ?_
    walk_at "w"
    exact ⟨by simp, r2, ps', S', kv', top', last', rfl, by obtain ⟨a, b, c, d, e, f⟩ := hr; exact ⟨a, b, c, d, by omega, f⟩, J.mono (by omega)⟩
  · walk_at "w"
    obtain ⟨r, mid, ps', S', kv', top', last', t1, t2, J, _⟩ := both_give (rd := r1) (o3 := o3) (o4 := o4) (u := u) (a := _) I hn hp
    refine wp_of t1 ?_
    walk_at "w"
    refine wp_of t2 ?_
    walk_at "w"
    refine wp_of dq_bl ?_
    walk_at "w"
    exact ⟨by simp, r1, ps', S', kv', top', last', rfl, by obtain ⟨a, b, c, d, e, f⟩ := hr; exact ⟨a, b, c, d, by omega, f⟩, J.mono (by omega)⟩
theorem sorted_eq {st : Sto} (h : st[6]? = some (.dK (szD S))) : cSorted [.ref 6] st = .ok (.lst ((sortI (S.map (·.1))).map .int)) st := by
  unfold cSorted dicOf
  dsimp only
  rw [h]
  dsimp only
  rw [keysI_sz]
theorem deed_w (I : Iv pol S kv top last ps n) (hn : n ≤ 100) (hu : 1 ≤ u) (hu2 : u ≤ 8) (hp : PyData.strOk pol = true) (hr : RdO rd b) (hb : b ≤ 10000) :
    Wp (F__law_deed F__law_next cTk cLt cGv F__law_give [.ref 0, .ref 1, .ref 7, aD pol u] (stW rd o3 o4 pol u ps S kv top last)) (Behind o3 o4 pol u (n + 1) (b + 5)) NoX := by
  have up : ∀ {d : D} {st : Sto}, Behind o3 o4 pol u (n + 1) (b + 1 + 4) d st → Behind o3 o4 pol u (n + 1) (b + 5) d st := fun h => h
  unfold F__law_deed
  walk_at "def"
  unfold d__law_deed
  walk_at "w"
  refine wp_of (sorted_eq rfl) ?_
  walk_at "w"
  refine next_w hr (by omega) (by omega) fun v1 r1 p1 q1 hr => ?_
  walk_at "w"
  refine if_dec (fun h6 => ?_) (fun h6 => ?_)
  · walk_at "w"
    exact wp_rtS (deed_B1 I hn hu hu2 hp hr (by omega))
  · walk_at "w"
    refine wp_of (dq_nilL (fun d hd => by obtain ⟨i, _, rfl⟩ := List.mem_map.mp hd; rfl) (fun d hd => by obtain ⟨i, _, rfl⟩ := List.mem_map.mp hd; exact Nat.zero_le _)) ?_
    walk_at "w"
    by_cases hS : S = []
    · subst hS
      rw [Bool.false_xor, List.isEmpty_iff.mpr (show (sortI ([].map fun x : Int × Int => x.1)).map D.int = [] from by simp [sortI])]
      walk_at "w"
      exact wp_rtS (deed_B1 I hn hu hu2 hp hr (by omega))
    · have hl : ((sortI (S.map (·.1))).map D.int).isEmpty = false := by
        rw [List.isEmpty_eq_false_iff]
        intro z
        have := congrArg List.length z
        rw [List.length_map, (sortI_perm _).length_eq, List.length_map] at this
        exact hS (List.length_eq_zero_iff.mp this)
      rw [Bool.false_xor, hl]
      walk_at "w"
      exact wp_rtF (deed_R1 I hn hS hp hr (by omega))
end
end K85

namespace K85
open PySem PySem.Spec PyProof.Rows L2 DL
local macro_rules | `(tactic| walk_at "look") => `(tactic| first | assumption | (with_reducible exact get_new) | ((with_reducible apply get_set); walk_at "look") | ((with_reducible refine get_ne ?hne ?hq); (case hne => first | assumption | omega | decide); (case hq => walk_at "look")) | ((with_reducible apply get_old); walk_at "look") | exact rfl)
local macro_rules | `(tactic| walk_at "len") => `(tactic| (first | assumption | ((simp only [List.length_cons, List.length_nil, List.length_map, List.length_append]); omega) | omega))
local macro_rules | `(tactic| walk_at "kv") => `(tactic| ((simp only [mergeD, List.foldl_cons, List.foldl_nil, List.nil_append, List.cons_append, valD, putD, setD, Sum.inr.injEq, Sum.inl.injEq, reduceCtorEq, ofStr_inj, String.reduceEq, if_true, if_false, ↓reduceIte, Option.isSome_some, Option.isSome_none, Bool.false_eq_true]); first | done | exact rfl))
local macro_rules | `(tactic| walk_at "norm") => `(tactic| (with_reducible repeat' first | exact put_0 | refine' put_s ?_ | refine' setTo_set ?_ ?_ | exact setTo_refl))
local macro_rules | `(tactic| walk_at "w1") => `(tactic| first
  | (with_reducible first
    | refine wp_seq ?_ | refine wp_asg ?_ | refine wp_bin ?_ | refine wp_c ?_ | refine wp_ret ?_ | refine wp_ifs ?_ | refine wp_tst ?_ | refine wp_drop ?_ | refine truK_bl ?_
    | refine wp_app ?_ | refine wp_cons ?_ | refine wp_nil ?_ | refine wp_nott ?_ | refine wp_andt ?_ | refine wp_ort ?_ | refine wp_andv ?_ | refine wp_orv ?_ | refine wp_notv ?_ | refine wp_truv ?_
    | refine wp_if ?_ | refine wp_chain ?_ | refine wp_next ?_ | refine wp_retN ?_ | refine wp_break ?_ | refine wp_cont ?_ | refine seqK_rt ?_ | refine seqK_bk ?_ | refine seqK_ct ?_ | refine seqK_ex ?_
    | refine finK_rt ?_ | refine rtK_mk ?_ | refine finK_nx ?_ | refine finK_ex ?_ | refine turnK_rt ?_ | refine turnK_ex ?_ | refine wp_ok ?_ | refine wp_exc ?_ | refine if_t ?_ | refine if_f ?_ | refine if_nt ?_ | refine if_nf ?_ | refine wp_fld ?_ | refine wp_flds ?_ | refine wp_puta ?_
    | refine intK_int ?_ | refine wq_rng1 ?_ | refine wq_rng2 ?_ | refine wq_iany ?_ | refine rowK_l ?_ | refine rowK_t ?_ | refine rowK_f ?_ | refine rowK_s ?_ | refine wp_bmt ?_ | refine wp_meth ?_ | refine wp_make ?_ | refine wp_sl ?_ | refine wp_nopart ?_ | refine wp_for ?_ | refine wp_dispE ?_)
  | ((with_reducible refine' wp_var ?h ?q); (case h => exact rfl))
  | ((with_reducible refine' wp_aug ?h ?q); (case h => exact rfl))
  | ((with_reducible refine' seqK_nx ?h ?q); (case h => walk_at "norm"))
  | ((with_reducible refine' turnK_nx ?h ?q); (case h => walk_at "norm"))
  | ((with_reducible refine' turnK_ct ?h ?q); (case h => walk_at "norm"))
  | ((with_reducible refine' turnK_bk ?h ?q); (case h => walk_at "norm"))
  | (with_reducible first
    | refine wq_add ?_ | refine wq_addi ?_ | refine wq_sub ?_ | refine wq_lt ?_ | refine wq_le ?_ | refine wq_gt ?_ | refine wq_ge ?_ | refine wq_eqi ?_ | refine wq_nei ?_
    | refine wq_int ?_ | refine wq_intb ?_ | refine wq_abs ?_ | refine wq_lent ?_ | refine wq_lenl ?_ | refine wq_lenf ?_ | refine wq_tupl ?_ | refine wq_tupt ?_ | refine wq_listt ?_)
  | ((with_reducible refine wq_mod ?h ?q); (case h => first | assumption | omega))
  | ((with_reducible refine wq_div ?h ?h2 ?q); (case h => first | assumption | omega); (case h2 => omega))
  | ((with_reducible refine wq_mulS ?h ?h2 ?q); (case h => omega); (case h2 => omega))
  | ((with_reducible refine wq_eqs ?h ?h2 ?q); (case h => first | assumption | exact rfl | decide); (case h2 => first | assumption | exact rfl | decide))
  | ((with_reducible refine wq_nes ?h ?h2 ?q); (case h => first | assumption | exact rfl | decide); (case h2 => first | assumption | exact rfl | decide))
  | ((with_reducible refine' wq_ixt ?h ?q); (case h => first | exact rfl | assumption))
  | ((with_reducible refine' wq_ixl ?h ?q); (case h => first | exact rfl | assumption))
  | ((with_reducible refine' wq_ixf ?h ?q); (case h => first | exact rfl | assumption))
  | ((with_reducible refine' wq_ixk ?hn ?hk ?h ?q); (case hn => walk_at "look"); (case hk => exact rfl); (case h => first | assumption | walk_at "kv"))
  | ((with_reducible refine' wq_ixr ?hn ?h ?q); (case hn => walk_at "look"); (case h => first | assumption | exact rfl))
  | ((with_reducible refine' wq_lenr ?hn ?q); (case hn => walk_at "look"))
  | ((with_reducible refine wp_neg ?_))
  | ((with_reducible refine wp_part ?_))
  | ((with_reducible refine wp_tup ?_)) | ((with_reducible refine wp_lst ?_)) | ((with_reducible refine wp_new ?_))
  | ((with_reducible refine' wp_fldv ?h ?hc ?hf ?q); (case h => walk_at "look"); (case hc => simp only [List.mem_cons, true_or, or_true]); (case hf => first | assumption | walk_at "kv"))
  | ((with_reducible refine' wq_ink ?hn ?hk ?q); (case hn => walk_at "look"); (case hk => exact rfl))
  | ((with_reducible refine' wq_nink ?hn ?hk ?q); (case hn => walk_at "look"); (case hk => exact rfl))
  | ((with_reducible refine wp_disp ?_)) | ((with_reducible refine wp_pcons ?_)) | ((with_reducible refine wp_pnil ?_))
  | ((with_reducible refine' dispK_mk ?h ?hm ?q); (case h => walk_at "len"); (case hm => walk_at "kv"))
  | (with_reducible refine keyK_s ?_) | (with_reducible refine keyK_i ?_)
  | ((with_reducible refine' methK_mk ?h ?hf ?q); (case h => walk_at "look"); (case hf => first | assumption | walk_at "kv"))
  | ((with_reducible refine lenK_mk ?h ?q); (case h => walk_at "len"))
  | ((with_reducible refine isK_mk ?h ?q); (case h => first | exact rfl | assumption | (refine wq_tyr (ty := "") ?_; walk_at "look")))
  | ((with_reducible refine rng1K_mk ?h ?q); (case h => first | assumption | omega | (simp only [List.length_map]; omega)))
  | ((with_reducible refine rng2K_mk ?h1 ?h ?q); (case h1 => first | assumption | omega); (case h => first | assumption | omega | (simp only [List.length_map]; omega)))
  | ((with_reducible refine' wq_putk ?hn ?hk ?hl ?hp ?q); (case hn => walk_at "look"); (case hk => exact rfl); (case hl => walk_at "len"); (case hp => walk_at "kv"))
  | ((with_reducible refine' wq_append ?hn ?hl ?q); (case hn => walk_at "look"); (case hl => walk_at "len"))
  | ((with_reducible refine' wq_tupr ?hn ?q); (case hn => walk_at "look")))
local macro_rules | `(tactic| walk_at "w") => `(tactic| repeat' walk_at "w1")
local macro_rules | `(tactic| walk_at "def") => `(tactic| ((refine' wp_def ?hl ?ht ?q); (case hl => exact rfl); (case ht => ((simp only [startD, List.map_cons, List.map_nil, List.length_cons, List.length_nil, Nat.reduceAdd, Nat.reduceSub, List.replicate, List.cons_append, List.nil_append, List.append_nil]); first | done | exact rfl))))
/-! ### the law -/
section
variable {o3 o4 : Ob} {pol : Str} {u : Int} {n b : Nat}
noncomputable abbrev cRd : DF := F__law_reader (trimF F__law_draws)
noncomputable abbrev cDd : DF := F__law_deed F__law_next cTk cLt cGv F__law_give
noncomputable abbrev cTd : DF := F__law_as_told F_Heap_blocks F_Heap_pieces (trimF F__law_runs) F_Heap_top F_Heap_size
noncomputable abbrev L1F : DS := d_law_L1 cRd F__law_next F_Heap___init__ cDd cTd cGv F__law_give F_Heap_blocks F_Heap_top F_Heap_pieces
noncomputable abbrev L2F : DS := d_law_L2 cRd F__law_next F_Heap___init__ cDd cTd cGv F__law_give F_Heap_blocks F_Heap_top F_Heap_pieces
noncomputable def LF : DF := F_law cRd F__law_next F_Heap___init__ cDd cTd cGv F__law_give F_Heap_blocks F_Heap_top F_Heap_pieces
/-- the heap and its words, between two turns -/
def Mid (o3 o4 : Ob) (pol : Str) (u : Int) (n b : Nat) (st : Sto) : Prop :=
  ∃ rd ps S kv top last, st = stW rd o3 o4 pol u ps S kv top last ∧ RdO rd b ∧ Iv pol S kv top last ps n
theorem law_L1 {x0 x4 x6 x7 : Option D} {st : Sto} (h : Mid o3 o4 pol u n b st) (hn : n < 100) (hu : 1 ≤ u) (hu2 : u ≤ 8) (hp : PyData.strOk pol = true) (hb : b ≤ 10000) :
    Wp (L1F [x0, some (.ref 0), some (aD pol u), some (.ref 1), x4, some (.ref 7), x6, x7] st) (fun r st => r = (.nx, [x0, some (.ref 0), some (aD pol u), some (.ref 1), x4, some (.ref 7), x6, x7]) ∧ Mid o3 o4 pol u (n + 1) (b + 5) st) NoX := by
  obtain ⟨rd, ps, S, kv, top, last, rfl, hr, I⟩ := h
  unfold L1F d_law_L1
  walk_at "w"
  refine ((deed_w (o3 := o3) (o4 := o4) I (by omega) hu hu2 hp hr hb)).mono (fun d st h => ?_) fun _ _ e => e.elim
  obtain ⟨rfl, rd, ps, S, kv, top, last, rfl, hr, I⟩ := h
  refine wp_opt (a := true) rfl ?_
  walk_at "w"
  refine wp_of (told_eq I (by omega)) ?_
  refine wp_opt (a := true) rfl ?_
  walk_at "w"
  exact ⟨rfl, rd, ps, S, kv, top, last, rfl, hr, I⟩
theorem law_L2 {x0 x4 x6 : Option D} {st : Sto} {keys : List Int} {a : Int} (h : ∃ rd ps S kv top last, st = stW rd o3 o4 pol u ps S kv top last ∧ Iv pol S kv top last ps n ∧ (∀ w, w ∈ S.map (·.1) ↔ w ∈ a :: keys)) (hd : a ∉ keys) (hn : n ≤ 100) (hp : PyData.strOk pol = true) :
    Wp (L2F [x0, some (.ref 0), some (aD pol u), some (.ref 1), x4, some (.ref 7), x6, some (.int a)] st) (fun r st => r = (.nx, [x0, some (.ref 0), some (aD pol u), some (.ref 1), x4, some (.ref 7), x6, some (.int a)]) ∧ ∃ rd ps S kv top last, st = stW rd o3 o4 pol u ps S kv top last ∧ Iv pol S kv top last ps n ∧ (∀ w, w ∈ S.map (·.1) ↔ w ∈ keys)) NoX := by
  obtain ⟨rd, ps, S, kv, top, last, rfl, I, hk⟩ := h
  obtain ⟨r, mid, ps', S', kv', top', last', t1, t2, J, t3⟩ := both_give (rd := rd) (o3 := o3) (o4 := o4) (u := u) (a := a) I hn hp
  have hin : a ∈ S.map (·.1) := (hk a).mpr List.mem_cons_self
  obtain ⟨p, hp1, hp2⟩ := List.mem_map.mp hin
  obtain ⟨rfl, t4⟩ := t3 ⟨p, hp1, hp2⟩
  unfold L2F d_law_L2
  walk_at "w"
  refine wp_of t1 ?_
  walk_at "w"
  refine wp_of (a := .bl false) (st := mid) rfl ?_
  walk_at "w"
  refine wp_of t2 ?_
  refine wp_opt (a := true) rfl ?_
  walk_at "w"
  refine ⟨rfl, rd, ps', S', kv', top', last', rfl, J, fun w => ?_⟩
  constructor
  · intro h
    obtain ⟨q, hq1, hq2⟩ := List.mem_map.mp h
    obtain ⟨z1, z2⟩ := (t4 q).mp hq1
    have := (hk w).mp (List.mem_map.mpr ⟨q, z1, hq2⟩)
    rcases List.mem_cons.mp this with e | e
    · exact (z2 (hq2.trans e)).elim
    · exact e
  · intro h
    obtain ⟨q, hq1, hq2⟩ := List.mem_map.mp ((hk w).mpr (List.mem_cons_of_mem _ h))
    refine List.mem_map.mpr ⟨q, (t4 q).mpr ⟨hq1, fun e => ?_⟩, hq2⟩
    have hq2 : q.1 = w := hq2
    exact hd (by rw [← e, hq2]; exact h)
end
end K85

namespace K85
open PySem PySem.Spec PyProof.Rows L2 DL
local macro_rules | `(tactic| walk_at "look") => `(tactic| first | assumption | (with_reducible exact get_new) | ((with_reducible apply get_set); walk_at "look") | ((with_reducible refine get_ne ?hne ?hq); (case hne => first | assumption | omega | decide); (case hq => walk_at "look")) | ((with_reducible apply get_old); walk_at "look") | exact rfl)
local macro_rules | `(tactic| walk_at "len") => `(tactic| (first | assumption | ((simp only [List.length_cons, List.length_nil, List.length_map, List.length_append]); omega) | omega))
local macro_rules | `(tactic| walk_at "kv") => `(tactic| ((simp only [mergeD, List.foldl_cons, List.foldl_nil, List.nil_append, List.cons_append, valD, putD, setD, Sum.inr.injEq, Sum.inl.injEq, reduceCtorEq, ofStr_inj, String.reduceEq, if_true, if_false, ↓reduceIte, Option.isSome_some, Option.isSome_none, Bool.false_eq_true]); first | done | exact rfl))
local macro_rules | `(tactic| walk_at "norm") => `(tactic| (with_reducible repeat' first | exact put_0 | refine' put_s ?_ | refine' setTo_set ?_ ?_ | exact setTo_refl))
local macro_rules | `(tactic| walk_at "w1") => `(tactic| first
  | (with_reducible first
    | refine wp_seq ?_ | refine wp_asg ?_ | refine wp_bin ?_ | refine wp_c ?_ | refine wp_ret ?_ | refine wp_ifs ?_ | refine wp_tst ?_ | refine wp_drop ?_ | refine truK_bl ?_
    | refine wp_app ?_ | refine wp_cons ?_ | refine wp_nil ?_ | refine wp_nott ?_ | refine wp_andt ?_ | refine wp_ort ?_ | refine wp_andv ?_ | refine wp_orv ?_ | refine wp_notv ?_ | refine wp_truv ?_
    | refine wp_if ?_ | refine wp_chain ?_ | refine wp_next ?_ | refine wp_retN ?_ | refine wp_break ?_ | refine wp_cont ?_ | refine seqK_rt ?_ | refine seqK_bk ?_ | refine seqK_ct ?_ | refine seqK_ex ?_
    | refine finK_rt ?_ | refine rtK_mk ?_ | refine finK_nx ?_ | refine finK_ex ?_ | refine turnK_rt ?_ | refine turnK_ex ?_ | refine wp_ok ?_ | refine wp_exc ?_ | refine if_t ?_ | refine if_f ?_ | refine if_nt ?_ | refine if_nf ?_ | refine wp_fld ?_ | refine wp_flds ?_ | refine wp_puta ?_
    | refine intK_int ?_ | refine wq_rng1 ?_ | refine wq_rng2 ?_ | refine wq_iany ?_ | refine rowK_l ?_ | refine rowK_t ?_ | refine rowK_f ?_ | refine rowK_s ?_ | refine wp_bmt ?_ | refine wp_meth ?_ | refine wp_make ?_ | refine wp_sl ?_ | refine wp_nopart ?_ | refine wp_for ?_ | refine wp_dispE ?_)
  | ((with_reducible refine' wp_var ?h ?q); (case h => exact rfl))
  | ((with_reducible refine' wp_aug ?h ?q); (case h => exact rfl))
  | ((with_reducible refine' seqK_nx ?h ?q); (case h => walk_at "norm"))
  | ((with_reducible refine' turnK_nx ?h ?q); (case h => walk_at "norm"))
  | ((with_reducible refine' turnK_ct ?h ?q); (case h => walk_at "norm"))
  | ((with_reducible refine' turnK_bk ?h ?q); (case h => walk_at "norm"))
  | (with_reducible first
    | refine wq_add ?_ | refine wq_addi ?_ | refine wq_sub ?_ | refine wq_lt ?_ | refine wq_le ?_ | refine wq_gt ?_ | refine wq_ge ?_ | refine wq_eqi ?_ | refine wq_nei ?_
    | refine wq_int ?_ | refine wq_intb ?_ | refine wq_abs ?_ | refine wq_lent ?_ | refine wq_lenl ?_ | refine wq_lenf ?_ | refine wq_tupl ?_ | refine wq_tupt ?_ | refine wq_listt ?_)
  | ((with_reducible refine wq_mod ?h ?q); (case h => first | assumption | omega))
  | ((with_reducible refine wq_div ?h ?h2 ?q); (case h => first | assumption | omega); (case h2 => omega))
  | ((with_reducible refine wq_mulS ?h ?h2 ?q); (case h => omega); (case h2 => omega))
  | ((with_reducible refine wq_eqs ?h ?h2 ?q); (case h => first | assumption | decide +kernel); (case h2 => first | assumption | decide +kernel))
  | ((with_reducible refine wq_nes ?h ?h2 ?q); (case h => first | assumption | decide +kernel); (case h2 => first | assumption | decide +kernel))
  | ((with_reducible refine' wq_ixt ?h ?q); (case h => first | exact rfl | assumption))
  | ((with_reducible refine' wq_ixl ?h ?q); (case h => first | exact rfl | assumption))
  | ((with_reducible refine' wq_ixf ?h ?q); (case h => first | exact rfl | assumption))
  | ((with_reducible refine' wq_ixk ?hn ?hk ?h ?q); (case hn => walk_at "look"); (case hk => exact rfl); (case h => first | assumption | walk_at "kv"))
  | ((with_reducible refine' wq_ixr ?hn ?h ?q); (case hn => walk_at "look"); (case h => first | assumption | exact rfl))
  | ((with_reducible refine' wq_lenr ?hn ?q); (case hn => walk_at "look"))
  | ((with_reducible refine wp_neg ?_))
  | ((with_reducible refine wp_part ?_))
  | ((with_reducible refine wp_tup ?_)) | ((with_reducible refine wp_lst ?_)) | ((with_reducible refine wp_new ?_))
  | ((with_reducible refine' wp_fldv ?h ?hc ?hf ?q); (case h => walk_at "look"); (case hc => simp only [List.mem_cons, true_or, or_true]); (case hf => first | assumption | walk_at "kv"))
  | ((with_reducible refine' wq_ink ?hn ?hk ?q); (case hn => walk_at "look"); (case hk => exact rfl))
  | ((with_reducible refine' wq_nink ?hn ?hk ?q); (case hn => walk_at "look"); (case hk => exact rfl))
  | ((with_reducible refine wp_disp ?_)) | ((with_reducible refine wp_pcons ?_)) | ((with_reducible refine wp_pnil ?_))
  | ((with_reducible refine' dispK_mk ?h ?hm ?q); (case h => walk_at "len"); (case hm => walk_at "kv"))
  | (with_reducible refine keyK_s ?_) | (with_reducible refine keyK_i ?_)
  | ((with_reducible refine' methK_mk ?h ?hf ?q); (case h => walk_at "look"); (case hf => first | assumption | walk_at "kv"))
  | ((with_reducible refine lenK_mk ?h ?q); (case h => walk_at "len"))
  | ((with_reducible refine isK_mk ?h ?q); (case h => first | exact rfl | assumption | (refine wq_tyr (ty := "") ?_; walk_at "look")))
  | ((with_reducible refine rng1K_mk ?h ?q); (case h => first | assumption | omega | (simp only [List.length_map]; omega)))
  | ((with_reducible refine rng2K_mk ?h1 ?h ?q); (case h1 => first | assumption | omega); (case h => first | assumption | omega | (simp only [List.length_map]; omega)))
  | ((with_reducible refine' wq_putk ?hn ?hk ?hl ?hp ?q); (case hn => walk_at "look"); (case hk => exact rfl); (case hl => walk_at "len"); (case hp => walk_at "kv"))
  | ((with_reducible refine' wq_append ?hn ?hl ?q); (case hn => walk_at "look"); (case hl => walk_at "len"))
  | ((with_reducible refine' wq_tupr ?hn ?q); (case hn => walk_at "look")))
local macro_rules | `(tactic| walk_at "w") => `(tactic| repeat' walk_at "w1")
local macro_rules | `(tactic| walk_at "def") => `(tactic| ((refine' wp_def ?hl ?ht ?q); (case hl => exact rfl); (case ht => ((simp only [startD, List.map_cons, List.map_nil, List.length_cons, List.length_nil, Nat.reduceAdd, Nat.reduceSub, List.replicate, List.cons_append, List.nil_append, List.append_nil]); first | done | exact rfl))))
section
variable {o3 o4 : Ob} {pol : Str} {u : Int} {n b : Nat}
theorem give_other {st : Sto} (h : st[3]? = some (hOb pol u 4 [] 1 1)) (h4 : st[4]? = some (.dK [])) : cGv [.ref 3, .int 1] st = .ok (.bl false) st := by
  refine trim_val (g := []) (st' := st) ?_ rfl (Kept.refl _) rfl
  rw [List.append_nil]
  unfold hOb at h
  refine wp_eq ?_
  unfold F_Heap_give
  walk_at "def"
  unfold d_Heap_give
  walk_at "w"
  rw [show valD ([] : List (Key × D)) (Sum.inl 1) = none from rfl, Option.isSome_none]
  walk_at "w"
  exact ⟨rfl, rfl⟩
theorem keyD_sz (S : List (Int × Int)) : (szD S).map (fun kv => keyD kv.1) = (S.map (·.1)).map D.int := by
  unfold szD
  rw [List.map_map, List.map_map]
  rfl
theorem Iv.empty : Iv pol [] [] 1 1 [] 0 where
  sok := fun p hp => (List.not_mem_nil hp).elim
  dis := List.Pairwise.nil
  own := fun w => rfl
  runs := by show IsRuns _ 1 1 []; unfold IsRuns; intro w h1 h2; omega
  top1 := Int.le_refl _
  top2 := by omega
  low := fun _ => .inl rfl
  lS := by simp
  lK := by simp
theorem law_ok : LawOk LF := fun ns hn _ => by
  obtain ⟨row, seed, h1, h2, h3, h4⟩ := DR.reader_eq (st := []) hn
  suffices h : Wp (LF [.fro (ns.map .int)] []) (fun d _ => d = .bl true) NoX by
    obtain ⟨d, st, e, rfl⟩ := wp_ex h
    exact ⟨st, e⟩
  replace h1 : cRd [.fro (ns.map .int)] [] = .ok (.ref 0) [DR.rdOb row 0 seed] := h1
  have hr : RdO (DR.rdOb row 0 seed) 0 := ⟨row, 0, seed, rfl, Nat.le_refl _, h3, h4⟩
  generalize DR.rdOb row 0 seed = rd0 at *
  unfold LF F_law
  walk_at "def"
  unfold d_law
  walk_at "w"
  refine wp_of h1 ?_
  walk_at "w"
  refine next_w hr (by omega) (by omega) fun v1 r1 p1 q1 hr => ?_
  obtain ⟨pol, hat, hp⟩ : ∃ pol : Str, atI [D.str "first", .str "best", .str "next", .str "bump"] v1 = some (.str pol) ∧ PyData.strOk pol = true := by
    have : v1 = 0 ∨ v1 = 1 ∨ v1 = 2 ∨ v1 = 3 := by omega
    rcases this with rfl | rfl | rfl | rfl <;> exact ⟨_, rfl, by decide +kernel⟩
  walk_at "w"
  refine next_w hr (by omega) (by omega) fun v2 r2 p2 q2 hr => ?_
  obtain ⟨u, hu, hu1, hu2⟩ : ∃ u : Int, dShl (.int 1) (.int v2) [r2] = .ok (.int u) [r2] ∧ 1 ≤ u ∧ u ≤ 8 := by
    have : v2 = 0 ∨ v2 = 1 ∨ v2 = 2 ∨ v2 = 3 := by omega
    rcases this with rfl | rfl | rfl | rfl
    · exact ⟨1, rfl, by omega, by omega⟩
    · exact ⟨2, rfl, by omega, by omega⟩
    · exact ⟨4, rfl, by omega, by omega⟩
    · exact ⟨8, rfl, by omega, by omega⟩
  refine wp_of hu ?_
  walk_at "w"
  refine wp_of (init1 (A := r2) (pol := pol) (u := u)) ?_
  refine ⟨rfl, ?_⟩
  walk_at "w"
  refine wp_of (init3 (A := r2) (B := hOb pol u 2 [] 1 1) (C := .dK []) (pol := pol) (u := u)) ?_
  refine ⟨rfl, ?_⟩
  walk_at "w"
  simp only [List.cons_append, List.nil_append, List.length_cons, List.length_nil, Nat.zero_add, Nat.reduceAdd]
  refine next_w hr (by omega) (by omega) fun v3 r3 p3 q3 hr => ?_
  walk_at "w"
  refine wp_forN (P := fun i τ st => (∃ x6, τ = [some (.fro (ns.map .int)), some (.ref 0), some (aD pol u), some (.ref 1), some (.ref 3), some (.ref 7), x6, none]) ∧ Mid (hOb pol u 4 [] 1 1) (.dK []) pol u i (3 + 5 * i) st) ⟨⟨none, rfl⟩, r3, [], [], [], 1, 1, rfl, hr, Iv.empty⟩ (fun i d τ st hd h => ?_) (fun τ st h => ?_)
  · obtain ⟨⟨x6, rfl⟩, h⟩ := h
    have hi : i < 71 := by
      have := (List.getElem?_eq_some_iff.mp hd).1
      rw [rng_len] at this
      omega
    refine (law_L1 h (by omega) hu1 hu2 hp (by omega)).mono (fun r st q => ?_) fun _ _ e => e.elim
    obtain ⟨rfl, q⟩ := q
    walk_at "w"
    exact ⟨⟨_, rfl⟩, q⟩
  · obtain ⟨⟨x6, rfl⟩, rd, ps, S, kv, top, last, rfl, hr, I⟩ := h
    have hi : (rng 0 (5 + v3)).length ≤ 100 := by rw [rng_len]; omega
    generalize (rng 0 (5 + v3)).length = n at *
    walk_at "w"
    refine wp_of (a := .lst ((S.map (·.1)).map .int)) (st := stW rd (hOb pol u 4 [] 1 1) (.dK []) pol u ps S kv top last) (by rw [← keyD_sz]; rfl) ?_
    walk_at "w"
    have hnd : (S.map (·.1)).Nodup := by
      rw [List.nodup_iff_pairwise_ne, List.pairwise_map]
      refine I.dis.imp_of_mem fun {p q} h1 h2 h e => ?_
      have := I.sok p h1
      have := I.sok q h2
      omega
    refine wp_forN (P := fun i τ st => (∃ x7, τ = [some (.fro (ns.map .int)), some (.ref 0), some (aD pol u), some (.ref 1), some (.ref 3), some (.ref 7), x6, x7]) ∧ ∃ rd ps S' kv top last, st = stW rd (hOb pol u 4 [] 1 1) (.dK []) pol u ps S' kv top last ∧ Iv pol S' kv top last ps n ∧ (∀ w, w ∈ S'.map (·.1) ↔ w ∈ (S.map (·.1)).drop i)) ⟨⟨none, rfl⟩, rd, ps, S, kv, top, last, rfl, I, fun w => by rw [List.drop_zero]⟩ (fun i d τ st hd h => ?_) (fun τ st h => ?_)
    · obtain ⟨⟨x7, rfl⟩, h⟩ := h
      rw [List.getElem?_map] at hd
      obtain ⟨a, ha, rfl⟩ := Option.map_eq_some_iff.mp hd
      obtain ⟨hlt, hge⟩ := List.getElem?_eq_some_iff.mp ha
      have e : (S.map (·.1)).drop i = a :: (S.map (·.1)).drop (i + 1) := by rw [List.drop_eq_getElem_cons hlt, hge]
      have hn' : a ∉ (S.map (·.1)).drop (i + 1) := by
        have := List.Nodup.sublist (List.drop_sublist i _) hnd
        rw [e] at this
        exact (List.nodup_cons.mp this).1
      refine (law_L2 (keys := (S.map (·.1)).drop (i + 1)) (n := n) (by obtain ⟨rd, ps, S', kv, top, last, h1, h2, h3⟩ := h; exact ⟨rd, ps, S', kv, top, last, h1, h2, fun w => by rw [h3, e]⟩) hn' hi hp).mono (fun r st q => ?_) fun _ _ e => e.elim
      obtain ⟨rfl, q⟩ := q
      walk_at "w"
      exact ⟨⟨_, rfl⟩, q⟩
    · obtain ⟨⟨x7, rfl⟩, rd, ps, S', kv, top, last, rfl, I, hk⟩ := h
      have hS : S' = [] := by
        cases S' with
        | nil => rfl
        | cons p S' =>
          have := (hk p.1).mp (by simp)
          rw [List.drop_eq_nil_of_le (by simp)] at this
          cases this
      subst hS
      have hbl := blocks_eq (S := []) (st := stW rd (hOb pol u 4 [] 1 1) (.dK []) pol u ps [] kv top last) (n := 1) (d := 2) rfl rfl (by simp)
      rw [show (blS []).map p2D = [] by simp [blS, sortI]] at hbl
      have htp := top_eq (st := stW rd (hOb pol u 4 [] 1 1) (.dK []) pol u ps [] kv top last) (n := 1) rfl
      have hto := top_eq (st := stW rd (hOb pol u 4 [] 1 1) (.dK []) pol u ps [] kv top last) (n := 3) rfl
      have hpo := pieces_eq (st := stW rd (hOb pol u 4 [] 1 1) (.dK []) pol u ps [] kv top last) (n := 3) rfl
      have hgo := give_other (u := u) (pol := pol) (st := stW rd (hOb pol u 4 [] 1 1) (.dK []) pol u ps [] kv top last) rfl rfl
      walk_at "w"
      refine wp_of hbl ?_
      walk_at "w"
      refine wp_of (dq_refl rfl (by decide)) ?_
      walk_at "w"
      refine if_ndec (fun hb => ?_) (fun hb => ?_)
      · have ht : top = 1 := by
          rcases I.low hb with e | e
          · exact e
          · rw [I.own] at e
            cases e
        subst ht
        walk_at "w"
        refine wp_of htp ?_
        walk_at "w"
        rw [decide_eq_true (show (1 : Int) = 1 from rfl)]
        walk_at "w"
        refine wp_of hto ?_
        walk_at "w"
        rw [decide_eq_true (show (1 : Int) = 1 from rfl)]
        walk_at "w"
        refine wp_of hpo ?_
        walk_at "w"
        refine wp_of (dq_refl rfl (by decide)) ?_
        walk_at "w"
        refine wp_of hgo ?_
        walk_at "w"
        refine wp_of (a := .bl true) rfl ?_
        walk_at "w"
        exact rfl
      · walk_at "w"
        refine wp_of hto ?_
        walk_at "w"
        rw [decide_eq_true (show (1 : Int) = 1 from rfl)]
        walk_at "w"
        refine wp_of hpo ?_
        walk_at "w"
        refine wp_of (dq_refl rfl (by decide)) ?_
        walk_at "w"
        refine wp_of hgo ?_
        walk_at "w"
        refine wp_of (a := .bl true) rfl ?_
        walk_at "w"
        exact rfl
end
end K85

namespace K85
open PySem PySem.Spec PyProof.Rows L2 DL
def top (i : Nat) : Stmt := PySem.Challenge.pw_oneowner_k85_whole_heaps_by_their_words.main.body.getD i (.Pass ⟨0, 0, 0, 0⟩)
structure Tx (K : PySem.W.Frag) (mg : Str → Option Value) (cl : Cl) : Prop where
  f__last : FldOk K cl "_last" ["Heap"]
  f__pieces : FldOk K cl "_pieces" ["Heap"]
  f__policy : FldOk K cl "_policy" ["Heap"]
  f__sizes : FldOk K cl "_sizes" ["Heap"]
  f__top : FldOk K cl "_top" ["Heap"]
  f__unit : FldOk K cl "_unit" ["Heap"]
  cls_Heap : Cls K (cl "Heap")
  mg_Heap : mg "Heap" = some (.ref (cl "Heap"))
  b_abs : mg "abs" = none
  b_all : mg "all" = none
  b_int : mg "int" = none
  b_len : mg "len" = none
  b_list : mg "list" = none
  b_max : mg "max" = none
  b_min : mg "min" = none
  b_range : mg "range" = none
  b_sorted : mg "sorted" = none
  b_tuple : mg "tuple" = none
section
variable {P : Program} {w : World} {K : PySem.W.Frag} {mg : Str → Option Value} {base : Heap} {cl : Cl}
abbrev s_Heap___init__ : Stmt := inClass (top 1) 0
abbrev N_Heap___init__ : List Str := ["self", "allocator"]
theorem sc_Heap___init__ : FnScope ["self", "allocator"] ["self", "allocator"] (defScope s_Heap___init__) := ⟨rfl, rfl, rfl, by decide +kernel, rfl, by decide +kernel, by decide +kernel⟩
theorem ok_Heap___init__ (T : Tx K mg cl) {k : Nat} {f : Addr} {fd : FuncData} (F : Fun K "__init__" "Heap.__init__" s_Heap___init__ f fd) :
    FnD P w K mg base cl (k + 1) f fd ["self", "allocator"] (F_Heap___init__) :=
  FnD.of F sc_Heap___init__ fun cdv A outer s H E hr => (js_cons (js_asg (j_var (pv 1)) (jgx_tup rfl (jgx_cons (jg_fld T.f__policy (j_var (pv 0))) (jgx_cons (jg_fld T.f__unit (j_var (pv 0))) jgx_nil))))
    (js_cons (js_fld T.f__sizes (j_var (pv 0)) j_dispE)
    (js_cons (js_fld T.f__pieces (j_var (pv 0)) (j_lst ja_nil))
    (js_cons (js_fld T.f__top (j_var (pv 0)) j_int)
    (js_one (js_fld T.f__last (j_var (pv 0)) j_int))))))
abbrev s_Heap_blocks : Stmt := inClass (top 1) 1
abbrev N_Heap_blocks : List Str := ["self", "address"]
theorem sc_Heap_blocks : FnScope ["self", "address"] ["self"] (defScope s_Heap_blocks) := ⟨rfl, rfl, rfl, by decide +kernel, rfl, by decide +kernel, by decide +kernel⟩
theorem ok_Heap_blocks (T : Tx K mg cl) {k : Nat} {f : Addr} {fd : FuncData} (F : Fun K "blocks" "Heap.blocks" s_Heap_blocks f fd) :
    FnD P w K mg base cl (k + 1) f fd ["self"] (F_Heap_blocks) :=
  FnD.of F sc_Heap_blocks fun cdv A outer s H E hr => (js_one (js_ret (j_callTy cj_tuple (by rfl) T.b_tuple bb_tuple (ja_cons (j_lc (own := [("address", 1)]) (tg := .one 1) rfl sc_Heap_blocks.nd (ji_any (j_callB (cj_sorted rfl) (by rfl) T.b_sorted bb_sorted (ja_cons (j_fld T.f__sizes (j_var (pv 0))) ja_nil))) (blkOk_by (N := N_Heap_blocks) (sc := defScope s_Heap_blocks) (by decide +kernel)) (by decide) (fun _ _ _ _ _ => pg_name (i := 1) sc_Heap_blocks.nd rfl (by first | exact Or.inl rfl | exact Or.inr rfl)) (fun _ _ _ _ _ => jts_nil) (fun _ _ _ _ _ => (j_tup (ja_cons (j_var (pv 1)) (ja_cons (j_ixA (Room.u1 hr) (j_fld T.f__sizes (j_var (pv 0))) (j_var (pv 1))) ja_nil))))) ja_nil))))
abbrev s_Heap_pieces : Stmt := inClass (top 1) 2
abbrev N_Heap_pieces : List Str := ["self"]
theorem sc_Heap_pieces : FnScope ["self"] ["self"] (defScope s_Heap_pieces) := ⟨rfl, rfl, rfl, by decide +kernel, rfl, by decide +kernel, by decide +kernel⟩
theorem ok_Heap_pieces (T : Tx K mg cl) {k : Nat} {f : Addr} {fd : FuncData} (F : Fun K "pieces" "Heap.pieces" s_Heap_pieces f fd) :
    FnD P w K mg base cl (k + 1) f fd ["self"] (F_Heap_pieces) :=
  FnD.of F sc_Heap_pieces fun cdv A outer s H E hr => (js_one (js_ret (j_callTy cj_tuple (by rfl) T.b_tuple bb_tuple (ja_cons (j_fld T.f__pieces (j_var (pv 0))) ja_nil))))
abbrev s_Heap_top : Stmt := inClass (top 1) 3
abbrev N_Heap_top : List Str := ["self"]
theorem sc_Heap_top : FnScope ["self"] ["self"] (defScope s_Heap_top) := ⟨rfl, rfl, rfl, by decide +kernel, rfl, by decide +kernel, by decide +kernel⟩
theorem ok_Heap_top (T : Tx K mg cl) {k : Nat} {f : Addr} {fd : FuncData} (F : Fun K "top" "Heap.top" s_Heap_top f fd) :
    FnD P w K mg base cl (k + 1) f fd ["self"] (F_Heap_top) :=
  FnD.of F sc_Heap_top fun cdv A outer s H E hr => (js_one (js_ret (j_fld T.f__top (j_var (pv 0)))))
abbrev s_Heap_size : Stmt := inClass (top 1) 4
abbrev N_Heap_size : List Str := ["self", "address"]
theorem sc_Heap_size : FnScope ["self", "address"] ["self", "address"] (defScope s_Heap_size) := ⟨rfl, rfl, rfl, by decide +kernel, rfl, by decide +kernel, by decide +kernel⟩
theorem ok_Heap_size (T : Tx K mg cl) {k : Nat} {f : Addr} {fd : FuncData} (F : Fun K "size" "Heap.size" s_Heap_size f fd) :
    FnD P w K mg base cl (k + 1) f fd ["self", "address"] (F_Heap_size) :=
  FnD.of F sc_Heap_size fun cdv A outer s H E hr => (js_one (js_ret (j_dget2 (Room.u1 hr) (j_fld T.f__sizes (j_var (pv 0))) (j_var (pv 1)) j_int ⟨rfl, rfl, rfl, rfl⟩)))
abbrev s_Heap_take : Stmt := inClass (top 1) 5
abbrev N_Heap_take : List Str := ["self", "many", "size", "at", "address", "room", "rest"]
theorem sc_Heap_take : FnScope ["self", "many", "size", "at", "address", "room", "rest"] ["self", "many"] (defScope s_Heap_take) := ⟨rfl, rfl, rfl, by decide +kernel, rfl, by decide +kernel, by decide +kernel⟩
theorem ok_Heap_take (T : Tx K mg cl) {k : Nat} {f : Addr} {fd : FuncData} (F : Fun K "take" "Heap.take" s_Heap_take f fd) {c_Heap_chosen : DF} {f_Heap_chosen : Addr} {fd_Heap_chosen : FuncData} (M_Heap_chosen : Meth K (cl "Heap") "chosen" f_Heap_chosen) (B_Heap_chosen : Binds K fd_Heap_chosen ["self", "size"] []) (G_Heap_chosen : FnD P w K mg base cl k f_Heap_chosen fd_Heap_chosen ["self", "size"] c_Heap_chosen) :
    FnD P w K mg base cl (k + 1) f fd ["self", "many"] (F_Heap_take c_Heap_chosen) :=
  FnD.of F sc_Heap_take fun cdv A outer s H E hr => (js_cons (js_set (i := 2) sc_Heap_take.nd rfl (by first | exact Or.inl rfl | exact Or.inr rfl) (j_op oj_mul (j_op oj_div (j_op oj_sub (j_op oj_add (j_callB (cj_max2 rfl) (by rfl) T.b_max bb_max (ja_cons j_int (ja_cons (j_var (pv 1)) ja_nil))) (j_fld T.f__unit (j_var (pv 0)))) j_int) (j_fld T.f__unit (j_var (pv 0)))) (j_fld T.f__unit (j_var (pv 0)))))
    (js_cons (js_set (i := 3) sc_Heap_take.nd rfl (by first | exact Or.inl rfl | exact Or.inr rfl) (j_meth pass_def T.cls_Heap M_Heap_chosen G_Heap_chosen hr B_Heap_chosen (j_var (pv 0)) (ja_cons (j_var (pv 2)) ja_nil)))
    (js_cons (js_if (j_tcmp oj_lt (j_var (pv 3)) j_int (nomark _)) (js_cons (js_set (i := 4) sc_Heap_take.nd rfl (by first | exact Or.inl rfl | exact Or.inr rfl) (j_fld T.f__top (j_var (pv 0))))
    (js_one (js_fldaug T.f__top (j_var (pv 0)) (j_var (pv 2)) oi_add))) (js_cons (js_asg (j_ixA (Room.u1 hr) (j_fld T.f__pieces (j_var (pv 0))) (j_var (pv 3))) (jg_tup rfl (jgs_cons (pg_name (i := 4) sc_Heap_take.nd rfl (by first | exact Or.inl rfl | exact Or.inr rfl)) (jgs_cons (pg_name (i := 5) sc_Heap_take.nd rfl (by first | exact Or.inl rfl | exact Or.inr rfl)) jgs_nil))))
    (js_cons (js_set (i := 6) sc_Heap_take.nd rfl (by first | exact Or.inl rfl | exact Or.inr rfl) (j_lst (ja_cons (j_tup (ja_cons (j_op oj_add (j_var (pv 4)) (j_var (pv 2))) (ja_cons (j_op oj_sub (j_var (pv 5)) (j_var (pv 2))) ja_nil))) ja_nil)))
    (js_cons (js_if (j_tcmp (oj_eq (Room.u64 hr)) (j_var (pv 5)) (j_var (pv 2)) (nomark _)) (js_one (js_set (i := 6) sc_Heap_take.nd rfl (by first | exact Or.inl rfl | exact Or.inr rfl) (j_lst ja_nil))) js_nil)
    (js_one (js_fld T.f__pieces (j_var (pv 0)) (j_op oj_add (j_op oj_add (j_slice (j_fld T.f__pieces (j_var (pv 0))) jo_none (jo_some (j_var (pv 3)))) (j_var (pv 6))) (j_slice (j_fld T.f__pieces (j_var (pv 0))) (jo_some (j_op oj_add (j_var (pv 3)) j_int)) jo_none))))))))
    (js_cons (js_putA (Room.u1 hr) (j_fld T.f__sizes (j_var (pv 0))) (j_var (pv 4)) (j_var (pv 2)))
    (js_cons (js_fld T.f__last (j_var (pv 0)) (j_op oj_add (j_var (pv 4)) (j_var (pv 2))))
    (js_one (js_ret (j_var (pv 4)))))))))
abbrev s_Heap_chosen : Stmt := inClass (top 1) 6
abbrev N_Heap_chosen : List Str := ["self", "size", "fitting", "at", "least", "behind"]
theorem sc_Heap_chosen : FnScope ["self", "size", "fitting", "at", "least", "behind"] ["self", "size"] (defScope s_Heap_chosen) := ⟨rfl, rfl, rfl, by decide +kernel, rfl, by decide +kernel, by decide +kernel⟩
theorem ok_Heap_chosen (T : Tx K mg cl) {k : Nat} {f : Addr} {fd : FuncData} (F : Fun K "chosen" "Heap.chosen" s_Heap_chosen f fd) :
    FnD P w K mg base cl (k + 1) f fd ["self", "size"] (F_Heap_chosen) :=
  FnD.of F sc_Heap_chosen fun cdv A outer s H E hr => (js_cons (js_setLc (i := 2) (own := [("at", 3)]) (tg := .one 3) rfl sc_Heap_chosen.nd rfl rfl (sw_true rfl rfl rfl (by decide +kernel)) (ji_rng1 (by rfl) T.b_range (ja_cons (j_callB cj_len (by rfl) T.b_len bb_len (ja_cons (j_fld T.f__pieces (j_var (pv 0))) ja_nil)) ja_nil)) (blkOk_by (N := N_Heap_chosen) (sc := defScope s_Heap_chosen) (by decide +kernel)) (by decide) (fun _ _ _ _ _ => pg_name (i := 3) sc_Heap_chosen.nd rfl (by first | exact Or.inl rfl | exact Or.inr rfl)) (fun _ _ _ _ _ => jts_one (j_tcmp oj_ge (j_ixA (Room.u1 hr) (j_ixA (Room.u1 hr) (j_fld T.f__pieces (j_var (pv 0))) (j_var (pv 3))) j_int) (j_var (pv 1)) (nomark _))) (fun _ _ _ _ _ => (j_var (pv 3))))
    (js_cons (js_if (j_w (j_or (j_tcmp (oj_eq (Room.u64 hr)) (j_var (pv 2)) (j_lst ja_nil) (nomark _)) (j_or1 (j_tcmp (oj_eq (Room.u64 hr)) (j_fld T.f__policy (j_var (pv 0))) j_str (nomark _))))) (js_one (js_ret (j_neg j_int))) js_nil)
    (js_cons (js_if (j_tcmp (oj_eq (Room.u64 hr)) (j_fld T.f__policy (j_var (pv 0))) j_str (nomark _)) (js_cons (js_set (i := 4) sc_Heap_chosen.nd rfl (by first | exact Or.inl rfl | exact Or.inr rfl) (j_callB (cj_min1 rfl) (by rfl) T.b_min bb_min (ja_cons (j_lc (own := [("at", 3)]) (tg := .one 3) rfl sc_Heap_chosen.nd (ji_any (j_var (pv 2))) (blkOk_by (N := N_Heap_chosen) (sc := defScope s_Heap_chosen) (by decide +kernel)) (by decide) (fun _ _ _ _ _ => pg_name (i := 3) sc_Heap_chosen.nd rfl (by first | exact Or.inl rfl | exact Or.inr rfl)) (fun _ _ _ _ _ => jts_nil) (fun _ _ _ _ _ => (j_ixA (Room.u1 hr) (j_ixA (Room.u1 hr) (j_fld T.f__pieces (j_var (pv 0))) (j_var (pv 3))) j_int))) ja_nil)))
    (js_one (js_setLc (i := 2) (own := [("at", 3)]) (tg := .one 3) rfl sc_Heap_chosen.nd rfl rfl (sw_true rfl rfl rfl (by decide +kernel)) (ji_any (j_var (pv 2))) (blkOk_by (N := N_Heap_chosen) (sc := defScope s_Heap_chosen) (by decide +kernel)) (by decide) (fun _ _ _ _ _ => pg_name (i := 3) sc_Heap_chosen.nd rfl (by first | exact Or.inl rfl | exact Or.inr rfl)) (fun _ _ _ _ _ => jts_one (j_tcmp (oj_eq (Room.u64 hr)) (j_ixA (Room.u1 hr) (j_ixA (Room.u1 hr) (j_fld T.f__pieces (j_var (pv 0))) (j_var (pv 3))) j_int) (j_var (pv 4)) (nomark _))) (fun _ _ _ _ _ => (j_var (pv 3)))))) (js_one (js_if (j_tcmp (oj_eq (Room.u64 hr)) (j_fld T.f__policy (j_var (pv 0))) j_str (nomark _)) (js_cons (js_setLc (i := 5) (own := [("at", 3)]) (tg := .one 3) rfl sc_Heap_chosen.nd rfl rfl (sw_true rfl rfl rfl (by decide +kernel)) (ji_any (j_var (pv 2))) (blkOk_by (N := N_Heap_chosen) (sc := defScope s_Heap_chosen) (by decide +kernel)) (by decide) (fun _ _ _ _ _ => pg_name (i := 3) sc_Heap_chosen.nd rfl (by first | exact Or.inl rfl | exact Or.inr rfl)) (fun _ _ _ _ _ => jts_one (j_tcmp oj_ge (j_ixA (Room.u1 hr) (j_ixA (Room.u1 hr) (j_fld T.f__pieces (j_var (pv 0))) (j_var (pv 3))) j_int) (j_fld T.f__last (j_var (pv 0))) (nomark _))) (fun _ _ _ _ _ => (j_var (pv 3))))
    (js_one (js_if (j_tcmp (oj_ne (Room.u64 hr)) (j_var (pv 5)) (j_lst ja_nil) (nomark _)) (js_one (js_set (i := 2) sc_Heap_chosen.nd rfl (by first | exact Or.inl rfl | exact Or.inr rfl) (j_var (pv 5)))) js_nil))) js_nil)))
    (js_one (js_ret (j_ixA (Room.u1 hr) (j_var (pv 2)) j_int))))))
abbrev s_Heap_give : Stmt := inClass (top 1) 7
abbrev N_Heap_give : List Str := ["self", "address", "size", "first", "end", "rest", "begin", "room"]
theorem sc_Heap_give : FnScope ["self", "address", "size", "first", "end", "rest", "begin", "room"] ["self", "address"] (defScope s_Heap_give) := ⟨rfl, rfl, rfl, by decide +kernel, rfl, by decide +kernel, by decide +kernel⟩
theorem ok_Heap_give (T : Tx K mg cl) {k : Nat} {f : Addr} {fd : FuncData} (F : Fun K "give" "Heap.give" s_Heap_give f fd) :
    FnD P w K mg base cl (k + 1) f fd ["self", "address"] (F_Heap_give) :=
  FnD.of F sc_Heap_give fun cdv A outer s H E hr => (js_cons (js_if (j_tnotInA (Room.u65 hr) (j_var (pv 1)) (j_fld T.f__sizes (j_var (pv 0)))) (js_one (js_ret j_bl)) js_nil)
    (js_cons (js_set (i := 2) sc_Heap_give.nd rfl (by first | exact Or.inl rfl | exact Or.inr rfl) (j_dpop1 (j_fld T.f__sizes (j_var (pv 0))) (j_var (pv 1)) ⟨rfl, rfl, rfl, rfl⟩))
    (js_cons (js_set (i := 3) sc_Heap_give.nd rfl (by first | exact Or.inl rfl | exact Or.inr rfl) (j_var (pv 1)))
    (js_cons (js_set (i := 4) sc_Heap_give.nd rfl (by first | exact Or.inl rfl | exact Or.inr rfl) (j_op oj_add (j_var (pv 1)) (j_var (pv 2))))
    (js_cons (js_set (i := 5) sc_Heap_give.nd rfl (by first | exact Or.inl rfl | exact Or.inr rfl) (j_new ja_nil))
    (js_cons (js_for cx_def (ji_any (j_fld T.f__pieces (j_var (pv 0)))) (jg_tup rfl (jgs_cons (pg_name (i := 6) sc_Heap_give.nd rfl (by first | exact Or.inl rfl | exact Or.inr rfl)) (jgs_cons (pg_name (i := 7) sc_Heap_give.nd rfl (by first | exact Or.inl rfl | exact Or.inr rfl)) jgs_nil))) (js_one (js_if (j_tcmp (oj_eq (Room.u64 hr)) (j_op oj_add (j_var (pv 6)) (j_var (pv 7))) (j_var (pv 3)) (nomark _)) (js_one (js_set (i := 3) sc_Heap_give.nd rfl (by first | exact Or.inl rfl | exact Or.inr rfl) (j_var (pv 6)))) (js_one (js_if (j_tcmp (oj_eq (Room.u64 hr)) (j_var (pv 6)) (j_var (pv 4)) (nomark _)) (js_one (js_set (i := 4) sc_Heap_give.nd rfl (by first | exact Or.inl rfl | exact Or.inr rfl) (j_op oj_add (j_var (pv 6)) (j_var (pv 7))))) (js_one (js_expr (j_bm PySem.F.plainAttrs_list PySem.F.slot_list_append PySem.F.type_list_append mj_append (j_var (pv 5)) (ja_cons (j_tup (ja_cons (j_var (pv 6)) (ja_cons (j_var (pv 7)) ja_nil))) ja_nil)))))))))
    (js_cons (js_if (j_w (j_and (j_tcmp (oj_eq (Room.u64 hr)) (j_var (pv 4)) (j_fld T.f__top (j_var (pv 0))) (nomark _)) (j_and1 (j_tcmp (oj_ne (Room.u64 hr)) (j_fld T.f__policy (j_var (pv 0))) j_str (nomark _))))) (js_one (js_fld T.f__top (j_var (pv 0)) (j_var (pv 3)))) (js_one (js_expr (j_bm PySem.F.plainAttrs_list PySem.F.slot_list_append PySem.F.type_list_append mj_append (j_var (pv 5)) (ja_cons (j_tup (ja_cons (j_var (pv 3)) (ja_cons (j_op oj_sub (j_var (pv 4)) (j_var (pv 3))) ja_nil))) ja_nil)))))
    (js_cons (js_fld T.f__pieces (j_var (pv 0)) (j_callB (cj_sorted rfl) (by rfl) T.b_sorted bb_sorted (ja_cons (j_var (pv 5)) ja_nil)))
    (js_one (js_ret j_bl))))))))))
abbrev s__law_draws : Stmt := top 3
abbrev N__law_draws : List Str := ["_law_script", "_law_draws_here", "_law_k", "_law_cell", "_law_turn", "_law_mixed"]
theorem sc__law_draws : FnScope ["_law_script", "_law_draws_here", "_law_k", "_law_cell", "_law_turn", "_law_mixed"] ["_law_script"] (defScope s__law_draws) := ⟨rfl, rfl, rfl, by decide +kernel, rfl, by decide +kernel, by decide +kernel⟩
theorem ok__law_draws (T : Tx K mg cl) {k : Nat} {f : Addr} {fd : FuncData} (F : Fun K "_law_draws" "_law_draws" s__law_draws f fd) :
    FnD P w K mg base cl (k + 1) f fd ["_law_script"] (F__law_draws) :=
  FnD.of F sc__law_draws fun cdv A outer s H E hr => (js_cons (js_set (i := 1) sc__law_draws.nd rfl (by first | exact Or.inl rfl | exact Or.inr rfl) (j_new ja_nil))
    (js_cons (js_for cx_def (ji_rng1 (by rfl) T.b_range (ja_cons (j_callB (cj_min2 rfl) (by rfl) T.b_min bb_min (ja_cons (j_callB cj_len (by rfl) T.b_len bb_len (ja_cons (j_var (pv 0)) ja_nil)) (ja_cons j_int ja_nil))) ja_nil)) (jg_name (pg_name (i := 2) sc__law_draws.nd rfl (by first | exact Or.inl rfl | exact Or.inr rfl))) (js_cons (js_set (i := 3) sc__law_draws.nd rfl (by first | exact Or.inl rfl | exact Or.inr rfl) (j_callB cj_abs (by rfl) T.b_abs bb_abs (ja_cons (j_ixA (Room.u1 hr) (j_var (pv 0)) (j_var (pv 2))) ja_nil)))
    (js_one (js_if (j_tcmp oj_ge (j_var (pv 3)) (j_op oj_pow j_int j_int) (nomark _)) (js_one (js_for cx_def (ji_rng1 (by rfl) T.b_range (ja_cons j_int ja_nil)) (jg_name (pg_name (i := 4) sc__law_draws.nd rfl (by first | exact Or.inl rfl | exact Or.inr rfl))) (js_one (js_if (j_tcmp oj_gt (j_var (pv 3)) j_int (nomark _)) (js_cons (js_expr (j_bm PySem.F.plainAttrs_list PySem.F.slot_list_append PySem.F.type_list_append mj_append (j_var (pv 1)) (ja_cons (j_op oj_mod (j_var (pv 3)) j_int) ja_nil)))
    (js_one (js_set (i := 3) sc__law_draws.nd rfl (by first | exact Or.inl rfl | exact Or.inr rfl) (j_op oj_div (j_var (pv 3)) j_int)))) js_nil)))) (js_cons (js_set (i := 5) sc__law_draws.nd rfl (by first | exact Or.inl rfl | exact Or.inr rfl) (j_op oj_mod (j_callTy cj_int (by rfl) T.b_int bb_int (ja_cons (j_op oj_add (j_op oj_add (j_op oj_mul (j_ixA (Room.u1 hr) (j_var (pv 0)) (j_var (pv 2))) j_int) (j_op oj_mul (j_var (pv 2)) j_int)) j_int) ja_nil)) j_int))
    (js_one (js_for cx_def (ji_rng1 (by rfl) T.b_range (ja_cons j_int ja_nil)) (jg_name (pg_name (i := 4) sc__law_draws.nd rfl (by first | exact Or.inl rfl | exact Or.inr rfl))) (js_cons (js_set (i := 5) sc__law_draws.nd rfl (by first | exact Or.inl rfl | exact Or.inr rfl) (j_op oj_mod (j_callTy cj_int (by rfl) T.b_int bb_int (ja_cons (j_op oj_add (j_op oj_add (j_op oj_mul (j_var (pv 5)) (j_var (pv 5))) (j_op oj_mul (j_var (pv 4)) j_int)) j_int) ja_nil)) j_int))
    (js_one (js_expr (j_bm PySem.F.plainAttrs_list PySem.F.slot_list_append PySem.F.type_list_append mj_append (j_var (pv 1)) (ja_cons (j_op oj_mod (j_var (pv 5)) j_int) ja_nil))))))))))))
    (js_one (js_ret (j_var (pv 1))))))
abbrev s__law_reader : Stmt := top 4
abbrev N__law_reader : List Str := ["_law_script", "_law_row", "_law_seed"]
theorem sc__law_reader : FnScope ["_law_script", "_law_row", "_law_seed"] ["_law_script"] (defScope s__law_reader) := ⟨rfl, rfl, rfl, by decide +kernel, rfl, by decide +kernel, by decide +kernel⟩
theorem ok__law_reader (T : Tx K mg cl) {k : Nat} {f : Addr} {fd : FuncData} (F : Fun K "_law_reader" "_law_reader" s__law_reader f fd) {c__law_draws : DF} {f__law_draws : Addr} {fd__law_draws : FuncData} (D__law_draws : DefAt K mg "_law_draws" f__law_draws fd__law_draws ["_law_script"]) (G__law_draws : FnD P w K mg base cl k f__law_draws fd__law_draws ["_law_script"] c__law_draws) :
    FnD P w K mg base cl (k + 1) f fd ["_law_script"] (F__law_reader c__law_draws) :=
  FnD.of F sc__law_reader fun cdv A outer s H E hr => (js_cons (js_set (i := 1) sc__law_reader.nd rfl (by first | exact Or.inl rfl | exact Or.inr rfl) (j_call pass_def G__law_draws hr (by rfl) D__law_draws.mgf D__law_draws.kp D__law_draws.bi (ja_cons (j_var (pv 0)) ja_nil)))
    (js_cons (js_set (i := 2) sc__law_reader.nd rfl (by first | exact Or.inl rfl | exact Or.inr rfl) j_int)
    (js_cons (js_if (j_tcmp oj_gt (j_callB cj_len (by rfl) T.b_len bb_len (ja_cons (j_var (pv 0)) ja_nil)) j_int (nomark _)) (js_one (js_set (i := 2) sc__law_reader.nd rfl (by first | exact Or.inl rfl | exact Or.inr rfl) (j_op oj_mod (j_callB cj_abs (by rfl) T.b_abs bb_abs (ja_cons (j_ixA (Room.u1 hr) (j_var (pv 0)) (j_neg j_int)) ja_nil)) j_int))) js_nil)
    (js_one (js_ret (j_disp (.cons j_str (j_var (pv 1)) (.cons j_str j_int (.cons j_str (j_var (pv 2)) .nil)))))))))
abbrev s__law_next : Stmt := top 5
abbrev N__law_next : List Str := ["_law_draws_here", "_law_many", "_law_at", "_law_mixed"]
theorem sc__law_next : FnScope ["_law_draws_here", "_law_many", "_law_at", "_law_mixed"] ["_law_draws_here", "_law_many"] (defScope s__law_next) := ⟨rfl, rfl, rfl, by decide +kernel, rfl, by decide +kernel, by decide +kernel⟩
theorem ok__law_next (T : Tx K mg cl) {k : Nat} {f : Addr} {fd : FuncData} (F : Fun K "_law_next" "_law_next" s__law_next f fd) :
    FnD P w K mg base cl (k + 1) f fd ["_law_draws_here", "_law_many"] (F__law_next) :=
  FnD.of F sc__law_next fun cdv A outer s H E hr => (js_cons (js_set (i := 2) sc__law_next.nd rfl (by first | exact Or.inl rfl | exact Or.inr rfl) (j_ixA (Room.u1 hr) (j_var (pv 0)) j_str))
    (js_cons (js_putA (Room.u1 hr) (j_var (pv 0)) j_str (j_op oj_add (j_var (pv 2)) j_int))
    (js_cons (js_if (j_tcmp oj_lt (j_var (pv 2)) (j_callB cj_len (by rfl) T.b_len bb_len (ja_cons (j_ixA (Room.u1 hr) (j_var (pv 0)) j_str) ja_nil)) (nomark _)) (js_one (js_ret (j_op oj_mod (j_callTy cj_int (by rfl) T.b_int bb_int (ja_cons (j_ixA (Room.u1 hr) (j_ixA (Room.u1 hr) (j_var (pv 0)) j_str) (j_var (pv 2))) ja_nil)) (j_var (pv 1))))) js_nil)
    (js_cons (js_set (i := 3) sc__law_next.nd rfl (by first | exact Or.inl rfl | exact Or.inr rfl) (j_op oj_mod (j_callTy cj_int (by rfl) T.b_int bb_int (ja_cons (j_op oj_mul (j_op oj_add (j_op oj_add (j_ixA (Room.u1 hr) (j_var (pv 0)) j_str) (j_op oj_mul j_int (j_var (pv 2)))) j_int) j_int) ja_nil)) j_int))
    (js_one (js_ret (j_op oj_mod (j_op oj_div (j_op oj_mod (j_callTy cj_int (by rfl) T.b_int bb_int (ja_cons (j_op oj_add (j_op oj_mul (j_var (pv 3)) (j_var (pv 3))) (j_var (pv 2))) ja_nil)) j_int) j_int) (j_var (pv 1)))))))))
abbrev s__law_runs : Stmt := top 6
abbrev N__law_runs : List Str := ["_law_m", "_law_found", "_law_word"]
theorem sc__law_runs : FnScope ["_law_m", "_law_found", "_law_word"] ["_law_m"] (defScope s__law_runs) := ⟨rfl, rfl, rfl, by decide +kernel, rfl, by decide +kernel, by decide +kernel⟩
theorem ok__law_runs (T : Tx K mg cl) {k : Nat} {f : Addr} {fd : FuncData} (F : Fun K "_law_runs" "_law_runs" s__law_runs f fd) :
    FnD P w K mg base cl (k + 1) f fd ["_law_m"] (F__law_runs) :=
  FnD.of F sc__law_runs fun cdv A outer s H E hr => (js_cons (js_set (i := 1) sc__law_runs.nd rfl (by first | exact Or.inl rfl | exact Or.inr rfl) (j_new ja_nil))
    (js_cons (js_for cx_def (ji_rng2 (by rfl) T.b_range (ja_cons j_int (ja_cons (j_ixA (Room.u1 hr) (j_var (pv 0)) j_str) ja_nil))) (jg_name (pg_name (i := 2) sc__law_runs.nd rfl (by first | exact Or.inl rfl | exact Or.inr rfl))) (js_one (js_if (j_tnotInA (Room.u65 hr) (j_var (pv 2)) (j_ixA (Room.u1 hr) (j_var (pv 0)) j_str)) (js_one (js_if (j_w (j_and (j_tcmp (oj_ne (Room.u64 hr)) (j_var (pv 1)) (j_lst ja_nil) (nomark _)) (j_and1 (j_tcmp (oj_eq (Room.u64 hr)) (j_op oj_add (j_ixA (Room.u1 hr) (j_ixA (Room.u1 hr) (j_var (pv 1)) (j_neg j_int)) j_int) (j_ixA (Room.u1 hr) (j_ixA (Room.u1 hr) (j_var (pv 1)) (j_neg j_int)) j_int)) (j_var (pv 2)) (nomark _))))) (js_one (js_putA (Room.u1 hr) (j_var (pv 1)) (j_neg j_int) (j_tup (ja_cons (j_ixA (Room.u1 hr) (j_ixA (Room.u1 hr) (j_var (pv 1)) (j_neg j_int)) j_int) (ja_cons (j_op oj_add (j_ixA (Room.u1 hr) (j_ixA (Room.u1 hr) (j_var (pv 1)) (j_neg j_int)) j_int) j_int) ja_nil))))) (js_one (js_expr (j_bm PySem.F.plainAttrs_list PySem.F.slot_list_append PySem.F.type_list_append mj_append (j_var (pv 1)) (ja_cons (j_tup (ja_cons (j_var (pv 2)) (ja_cons j_int ja_nil))) ja_nil)))))) js_nil)))
    (js_one (js_ret (j_var (pv 1))))))
abbrev s__law_fits : Stmt := top 7
abbrev N__law_fits : List Str := ["_law_m", "_law_size", "_law_run"]
theorem sc__law_fits : FnScope ["_law_m", "_law_size", "_law_run"] ["_law_m", "_law_size"] (defScope s__law_fits) := ⟨rfl, rfl, rfl, by decide +kernel, rfl, by decide +kernel, by decide +kernel⟩
theorem ok__law_fits (T : Tx K mg cl) {k : Nat} {f : Addr} {fd : FuncData} (F : Fun K "_law_fits" "_law_fits" s__law_fits f fd) {c__law_runs : DF} {f__law_runs : Addr} {fd__law_runs : FuncData} (D__law_runs : DefAt K mg "_law_runs" f__law_runs fd__law_runs ["_law_m"]) (G__law_runs : FnD P w K mg base cl k f__law_runs fd__law_runs ["_law_m"] c__law_runs) :
    FnD P w K mg base cl (k + 1) f fd ["_law_m", "_law_size"] (F__law_fits c__law_runs) :=
  FnD.of F sc__law_fits fun cdv A outer s H E hr => (js_one (js_ret (j_lc (own := [("_law_run", 2)]) (tg := .one 2) rfl sc__law_fits.nd (ji_any (j_call pass_def G__law_runs hr (by rfl) D__law_runs.mgf D__law_runs.kp D__law_runs.bi (ja_cons (j_var (pv 0)) ja_nil))) (blkOk_by (N := N__law_fits) (sc := defScope s__law_fits) (by decide +kernel)) (by decide) (fun _ _ _ _ _ => pg_name (i := 2) sc__law_fits.nd rfl (by first | exact Or.inl rfl | exact Or.inr rfl)) (fun _ _ _ _ _ => jts_one (j_tcmp oj_ge (j_ixA (Room.u1 hr) (j_var (pv 2)) j_int) (j_var (pv 1)) (nomark _))) (fun _ _ _ _ _ => (j_var (pv 2))))))
abbrev s__law_chosen : Stmt := top 8
abbrev N__law_chosen : List Str := ["_law_m", "_law_policy", "_law_size", "_law_runs_here", "_law_address", "_law_many", "_law_run"]
theorem sc__law_chosen : FnScope ["_law_m", "_law_policy", "_law_size", "_law_runs_here", "_law_address", "_law_many", "_law_run"] ["_law_m", "_law_policy", "_law_size"] (defScope s__law_chosen) := ⟨rfl, rfl, rfl, by decide +kernel, rfl, by decide +kernel, by decide +kernel⟩
theorem ok__law_chosen (T : Tx K mg cl) {k : Nat} {f : Addr} {fd : FuncData} (F : Fun K "_law_chosen" "_law_chosen" s__law_chosen f fd) {c__law_fits : DF} {f__law_fits : Addr} {fd__law_fits : FuncData} (D__law_fits : DefAt K mg "_law_fits" f__law_fits fd__law_fits ["_law_m", "_law_size"]) (G__law_fits : FnD P w K mg base cl k f__law_fits fd__law_fits ["_law_m", "_law_size"] c__law_fits) :
    FnD P w K mg base cl (k + 1) f fd ["_law_m", "_law_policy", "_law_size"] (F__law_chosen c__law_fits) :=
  FnD.of F sc__law_chosen fun cdv A outer s H E hr => (js_cons (js_set (i := 3) sc__law_chosen.nd rfl (by first | exact Or.inl rfl | exact Or.inr rfl) (j_call pass_def G__law_fits hr (by rfl) D__law_fits.mgf D__law_fits.kp D__law_fits.bi (ja_cons (j_var (pv 0)) (ja_cons (j_var (pv 2)) ja_nil))))
    (js_cons (js_if (j_w (j_or (j_tcmp (oj_eq (Room.u64 hr)) (j_var (pv 1)) j_str (nomark _)) (j_or1 (j_tcmp (oj_eq (Room.u64 hr)) (j_var (pv 3)) (j_lst ja_nil) (nomark _))))) (js_one (js_ret (j_ixA (Room.u1 hr) (j_var (pv 0)) j_str))) js_nil)
    (js_cons (js_if (j_tcmp (oj_eq (Room.u64 hr)) (j_var (pv 1)) j_str (nomark _)) (js_one (js_ret (j_ixA (Room.u1 hr) (j_ixA (Room.u1 hr) (j_callB (cj_sorted rfl) (by rfl) T.b_sorted bb_sorted (ja_cons (j_lc (own := [("_law_address", 4), ("_law_many", 5)]) (tg := .tup [4, 5]) rfl sc__law_chosen.nd (ji_any (j_var (pv 3))) (blkOk_by (N := N__law_chosen) (sc := defScope s__law_chosen) (by decide +kernel)) (by decide) (fun _ _ _ _ _ => pg_tup rfl (pgs_cons (pg_name (i := 4) sc__law_chosen.nd rfl (by first | exact Or.inl rfl | exact Or.inr rfl)) (pgs_cons (pg_name (i := 5) sc__law_chosen.nd rfl (by first | exact Or.inl rfl | exact Or.inr rfl)) pgs_nil))) (fun _ _ _ _ _ => jts_nil) (fun _ _ _ _ _ => (j_tup (ja_cons (j_var (pv 5)) (ja_cons (j_var (pv 4)) ja_nil))))) ja_nil)) j_int) j_int))) js_nil)
    (js_cons (js_if (j_tcmp (oj_eq (Room.u64 hr)) (j_var (pv 1)) j_str (nomark _)) (js_one (js_set (i := 3) sc__law_chosen.nd rfl (by first | exact Or.inl rfl | exact Or.inr rfl) (j_op oj_add (j_lc (own := [("_law_run", 6)]) (tg := .one 6) rfl sc__law_chosen.nd (ji_any (j_var (pv 3))) (blkOk_by (N := N__law_chosen) (sc := defScope s__law_chosen) (by decide +kernel)) (by decide) (fun _ _ _ _ _ => pg_name (i := 6) sc__law_chosen.nd rfl (by first | exact Or.inl rfl | exact Or.inr rfl)) (fun _ _ _ _ _ => jts_one (j_tcmp oj_ge (j_ixA (Room.u1 hr) (j_var (pv 6)) j_int) (j_ixA (Room.u1 hr) (j_var (pv 0)) j_str) (nomark _))) (fun _ _ _ _ _ => (j_var (pv 6)))) (j_var (pv 3))))) js_nil)
    (js_one (js_ret (j_ixA (Room.u1 hr) (j_ixA (Room.u1 hr) (j_var (pv 3)) j_int) j_int)))))))
abbrev s__law_take : Stmt := top 9
abbrev N__law_take : List Str := ["_law_m", "_law_allocator", "_law_many", "_law_policy", "_law_unit", "_law_size", "_law_address", "_law_k"]
theorem sc__law_take : FnScope ["_law_m", "_law_allocator", "_law_many", "_law_policy", "_law_unit", "_law_size", "_law_address", "_law_k"] ["_law_m", "_law_allocator", "_law_many"] (defScope s__law_take) := ⟨rfl, rfl, rfl, by decide +kernel, rfl, by decide +kernel, by decide +kernel⟩
theorem ok__law_take (T : Tx K mg cl) {k : Nat} {f : Addr} {fd : FuncData} (F : Fun K "_law_take" "_law_take" s__law_take f fd) {c__law_chosen : DF} {f__law_chosen : Addr} {fd__law_chosen : FuncData} (D__law_chosen : DefAt K mg "_law_chosen" f__law_chosen fd__law_chosen ["_law_m", "_law_policy", "_law_size"]) (G__law_chosen : FnD P w K mg base cl k f__law_chosen fd__law_chosen ["_law_m", "_law_policy", "_law_size"] c__law_chosen) :
    FnD P w K mg base cl (k + 1) f fd ["_law_m", "_law_allocator", "_law_many"] (F__law_take c__law_chosen) :=
  FnD.of F sc__law_take fun cdv A outer s H E hr => (js_cons (js_asg (j_var (pv 1)) (jg_tup rfl (jgs_cons (pg_name (i := 3) sc__law_take.nd rfl (by first | exact Or.inl rfl | exact Or.inr rfl)) (jgs_cons (pg_name (i := 4) sc__law_take.nd rfl (by first | exact Or.inl rfl | exact Or.inr rfl)) jgs_nil))))
    (js_cons (js_set (i := 5) sc__law_take.nd rfl (by first | exact Or.inl rfl | exact Or.inr rfl) (j_var (pv 4)))
    (js_cons (js_while cx_def (j_tcmp oj_lt (j_var (pv 5)) (j_var (pv 2)) (nomark _)) (js_one (js_set (i := 5) sc__law_take.nd rfl (by first | exact Or.inl rfl | exact Or.inr rfl) (j_op oj_add (j_var (pv 5)) (j_var (pv 4))))))
    (js_cons (js_set (i := 6) sc__law_take.nd rfl (by first | exact Or.inl rfl | exact Or.inr rfl) (j_call pass_def G__law_chosen hr (by rfl) D__law_chosen.mgf D__law_chosen.kp D__law_chosen.bi (ja_cons (j_var (pv 0)) (ja_cons (j_var (pv 3)) (ja_cons (j_var (pv 5)) ja_nil)))))
    (js_cons (js_for cx_def (ji_rng1 (by rfl) T.b_range (ja_cons (j_var (pv 5)) ja_nil)) (jg_name (pg_name (i := 7) sc__law_take.nd rfl (by first | exact Or.inl rfl | exact Or.inr rfl))) (js_one (js_putA (Room.u1 hr) (j_ixA (Room.u1 hr) (j_var (pv 0)) j_str) (j_op oj_add (j_var (pv 6)) (j_var (pv 7))) (j_var (pv 6)))))
    (js_cons (js_putA (Room.u1 hr) (j_ixA (Room.u1 hr) (j_var (pv 0)) j_str) (j_var (pv 6)) (j_var (pv 5)))
    (js_cons (js_putA (Room.u1 hr) (j_var (pv 0)) j_str (j_callB (cj_max2 rfl) (by rfl) T.b_max bb_max (ja_cons (j_ixA (Room.u1 hr) (j_var (pv 0)) j_str) (ja_cons (j_op oj_add (j_var (pv 6)) (j_var (pv 5))) ja_nil))))
    (js_cons (js_putA (Room.u1 hr) (j_var (pv 0)) j_str (j_op oj_add (j_var (pv 6)) (j_var (pv 5))))
    (js_one (js_ret (j_var (pv 6))))))))))))
abbrev s__law_give : Stmt := top 10
abbrev N__law_give : List Str := ["_law_m", "_law_allocator", "_law_address", "_law_k"]
theorem sc__law_give : FnScope ["_law_m", "_law_allocator", "_law_address", "_law_k"] ["_law_m", "_law_allocator", "_law_address"] (defScope s__law_give) := ⟨rfl, rfl, rfl, by decide +kernel, rfl, by decide +kernel, by decide +kernel⟩
theorem ok__law_give (T : Tx K mg cl) {k : Nat} {f : Addr} {fd : FuncData} (F : Fun K "_law_give" "_law_give" s__law_give f fd) :
    FnD P w K mg base cl (k + 1) f fd ["_law_m", "_law_allocator", "_law_address"] (F__law_give) :=
  FnD.of F sc__law_give fun cdv A outer s H E hr => (js_cons (js_if (j_tnotInA (Room.u65 hr) (j_var (pv 2)) (j_ixA (Room.u1 hr) (j_var (pv 0)) j_str)) (js_one (js_ret j_bl)) js_nil)
    (js_cons (js_for cx_def (ji_rng1 (by rfl) T.b_range (ja_cons (j_ixA (Room.u1 hr) (j_ixA (Room.u1 hr) (j_var (pv 0)) j_str) (j_var (pv 2))) ja_nil)) (jg_name (pg_name (i := 3) sc__law_give.nd rfl (by first | exact Or.inl rfl | exact Or.inr rfl))) (js_one (js_expr (j_dpop1 (j_ixA (Room.u1 hr) (j_var (pv 0)) j_str) (j_op oj_add (j_var (pv 2)) (j_var (pv 3))) ⟨rfl, rfl, rfl, rfl⟩))))
    (js_cons (js_expr (j_dpop1 (j_ixA (Room.u1 hr) (j_var (pv 0)) j_str) (j_var (pv 2)) ⟨rfl, rfl, rfl, rfl⟩))
    (js_cons (js_if (j_tcmp (oj_ne (Room.u64 hr)) (j_ixA (Room.u1 hr) (j_var (pv 1)) j_int) j_str (nomark _)) (js_one (js_while cx_def (j_w (j_and (j_tcmp oj_gt (j_ixA (Room.u1 hr) (j_var (pv 0)) j_str) j_int (nomark _)) (j_and1 (j_tnotInA (Room.u65 hr) (j_op oj_sub (j_ixA (Room.u1 hr) (j_var (pv 0)) j_str) j_int) (j_ixA (Room.u1 hr) (j_var (pv 0)) j_str))))) (js_one (js_putA (Room.u1 hr) (j_var (pv 0)) j_str (j_op oj_sub (j_ixA (Room.u1 hr) (j_var (pv 0)) j_str) j_int))))) js_nil)
    (js_one (js_ret j_bl))))))
abbrev s__law_as_told : Stmt := top 11
abbrev N__law_as_told : List Str := ["_law_heap", "_law_m", "_law_blocks", "_law_address", "_law_size"]
theorem sc__law_as_told : FnScope ["_law_heap", "_law_m", "_law_blocks", "_law_address", "_law_size"] ["_law_heap", "_law_m"] (defScope s__law_as_told) := ⟨rfl, rfl, rfl, by decide +kernel, rfl, by decide +kernel, by decide +kernel⟩
theorem ok__law_as_told (T : Tx K mg cl) {k : Nat} {f : Addr} {fd : FuncData} (F : Fun K "_law_as_told" "_law_as_told" s__law_as_told f fd) {c_Heap_blocks : DF} {f_Heap_blocks : Addr} {fd_Heap_blocks : FuncData} (M_Heap_blocks : Meth K (cl "Heap") "blocks" f_Heap_blocks) (B_Heap_blocks : Binds K fd_Heap_blocks ["self"] []) (G_Heap_blocks : FnD P w K mg base cl k f_Heap_blocks fd_Heap_blocks ["self"] c_Heap_blocks) {c_Heap_pieces : DF} {f_Heap_pieces : Addr} {fd_Heap_pieces : FuncData} (M_Heap_pieces : Meth K (cl "Heap") "pieces" f_Heap_pieces) (B_Heap_pieces : Binds K fd_Heap_pieces ["self"] []) (G_Heap_pieces : FnD P w K mg base cl k f_Heap_pieces fd_Heap_pieces ["self"] c_Heap_pieces) {c__law_runs : DF} {f__law_runs : Addr} {fd__law_runs : FuncData} (D__law_runs : DefAt K mg "_law_runs" f__law_runs fd__law_runs ["_law_m"]) (G__law_runs : FnD P w K mg base cl k f__law_runs fd__law_runs ["_law_m"] c__law_runs) {c_Heap_top : DF} {f_Heap_top : Addr} {fd_Heap_top : FuncData} (M_Heap_top : Meth K (cl "Heap") "top" f_Heap_top) (B_Heap_top : Binds K fd_Heap_top ["self"] []) (G_Heap_top : FnD P w K mg base cl k f_Heap_top fd_Heap_top ["self"] c_Heap_top) {c_Heap_size : DF} {f_Heap_size : Addr} {fd_Heap_size : FuncData} (M_Heap_size : Meth K (cl "Heap") "size" f_Heap_size) (B_Heap_size : Binds K fd_Heap_size ["self", "address"] []) (G_Heap_size : FnD P w K mg base cl k f_Heap_size fd_Heap_size ["self", "address"] c_Heap_size) :
    FnD P w K mg base cl (k + 1) f fd ["_law_heap", "_law_m"] (F__law_as_told c_Heap_blocks c_Heap_pieces c__law_runs c_Heap_top c_Heap_size) :=
  FnD.of F sc__law_as_told fun cdv A outer s H E hr => (js_cons (js_set (i := 2) sc__law_as_told.nd rfl (by first | exact Or.inl rfl | exact Or.inr rfl) (j_callTy cj_tuple (by rfl) T.b_tuple bb_tuple (ja_cons (j_lc (own := [("_law_address", 3)]) (tg := .one 3) rfl sc__law_as_told.nd (ji_any (j_callB (cj_sorted rfl) (by rfl) T.b_sorted bb_sorted (ja_cons (j_ixA (Room.u1 hr) (j_var (pv 1)) j_str) ja_nil))) (blkOk_by (N := N__law_as_told) (sc := defScope s__law_as_told) (by decide +kernel)) (by decide) (fun _ _ _ _ _ => pg_name (i := 3) sc__law_as_told.nd rfl (by first | exact Or.inl rfl | exact Or.inr rfl)) (fun _ _ _ _ _ => jts_nil) (fun _ _ _ _ _ => (j_tup (ja_cons (j_var (pv 3)) (ja_cons (j_ixA (Room.u1 hr) (j_ixA (Room.u1 hr) (j_var (pv 1)) j_str) (j_var (pv 3))) ja_nil))))) ja_nil)))
    (js_cons (js_if (j_w (j_or (j_tcmp (oj_ne (Room.u64 hr)) (j_meth0 pass_def T.cls_Heap M_Heap_blocks G_Heap_blocks hr B_Heap_blocks (j_var (pv 0))) (j_var (pv 2)) (nomark _)) (j_or (j_tcmp (oj_ne (Room.u64 hr)) (j_meth0 pass_def T.cls_Heap M_Heap_pieces G_Heap_pieces hr B_Heap_pieces (j_var (pv 0))) (j_callTy cj_tuple (by rfl) T.b_tuple bb_tuple (ja_cons (j_call pass_def G__law_runs hr (by rfl) D__law_runs.mgf D__law_runs.kp D__law_runs.bi (ja_cons (j_var (pv 1)) ja_nil)) ja_nil)) (nomark _)) (j_or1 (j_tcmp (oj_ne (Room.u64 hr)) (j_meth0 pass_def T.cls_Heap M_Heap_top G_Heap_top hr B_Heap_top (j_var (pv 0))) (j_ixA (Room.u1 hr) (j_var (pv 1)) j_str) (nomark _)))))) (js_one (js_ret j_bl)) js_nil)
    (js_one (js_ret (j_callB (cj_all1 rfl) (by rfl) T.b_all bb_all (ja_cons (j_lc (own := [("_law_address", 3), ("_law_size", 4)]) (tg := .tup [3, 4]) rfl sc__law_as_told.nd (ji_any (j_var (pv 2))) (blkOk_by (N := N__law_as_told) (sc := defScope s__law_as_told) (by decide +kernel)) (by decide) (fun _ _ _ _ _ => pg_tup rfl (pgs_cons (pg_name (i := 3) sc__law_as_told.nd rfl (by first | exact Or.inl rfl | exact Or.inr rfl)) (pgs_cons (pg_name (i := 4) sc__law_as_told.nd rfl (by first | exact Or.inl rfl | exact Or.inr rfl)) pgs_nil))) (fun _ _ _ _ _ => jts_nil) (fun _ _ _ _ _ => (j_cmp (oj_eq (Room.u64 hr)) (j_meth pass_blk T.cls_Heap M_Heap_size G_Heap_size hr B_Heap_size (j_var (pv 0)) (ja_cons (j_var (pv 3)) ja_nil)) (j_var (pv 4)) (nomark _)))) ja_nil))))))
abbrev s__law_deed : Stmt := top 12
abbrev N__law_deed : List Str := ["_law_draws_here", "_law_heap", "_law_m", "_law_allocator", "_law_held", "_law_pick", "_law_many", "_law_address"]
theorem sc__law_deed : FnScope ["_law_draws_here", "_law_heap", "_law_m", "_law_allocator", "_law_held", "_law_pick", "_law_many", "_law_address"] ["_law_draws_here", "_law_heap", "_law_m", "_law_allocator"] (defScope s__law_deed) := ⟨rfl, rfl, rfl, by decide +kernel, rfl, by decide +kernel, by decide +kernel⟩
theorem ok__law_deed (T : Tx K mg cl) {k : Nat} {f : Addr} {fd : FuncData} (F : Fun K "_law_deed" "_law_deed" s__law_deed f fd) {c__law_next : DF} {f__law_next : Addr} {fd__law_next : FuncData} (D__law_next : DefAt K mg "_law_next" f__law_next fd__law_next ["_law_draws_here", "_law_many"]) (G__law_next : FnD P w K mg base cl k f__law_next fd__law_next ["_law_draws_here", "_law_many"] c__law_next) {c_Heap_take : DF} {f_Heap_take : Addr} {fd_Heap_take : FuncData} (M_Heap_take : Meth K (cl "Heap") "take" f_Heap_take) (B_Heap_take : Binds K fd_Heap_take ["self", "many"] []) (G_Heap_take : FnD P w K mg base cl k f_Heap_take fd_Heap_take ["self", "many"] c_Heap_take) {c__law_take : DF} {f__law_take : Addr} {fd__law_take : FuncData} (D__law_take : DefAt K mg "_law_take" f__law_take fd__law_take ["_law_m", "_law_allocator", "_law_many"]) (G__law_take : FnD P w K mg base cl k f__law_take fd__law_take ["_law_m", "_law_allocator", "_law_many"] c__law_take) {c_Heap_give : DF} {f_Heap_give : Addr} {fd_Heap_give : FuncData} (M_Heap_give : Meth K (cl "Heap") "give" f_Heap_give) (B_Heap_give : Binds K fd_Heap_give ["self", "address"] []) (G_Heap_give : FnD P w K mg base cl k f_Heap_give fd_Heap_give ["self", "address"] c_Heap_give) {c__law_give : DF} {f__law_give : Addr} {fd__law_give : FuncData} (D__law_give : DefAt K mg "_law_give" f__law_give fd__law_give ["_law_m", "_law_allocator", "_law_address"]) (G__law_give : FnD P w K mg base cl k f__law_give fd__law_give ["_law_m", "_law_allocator", "_law_address"] c__law_give) :
    FnD P w K mg base cl (k + 1) f fd ["_law_draws_here", "_law_heap", "_law_m", "_law_allocator"] (F__law_deed c__law_next c_Heap_take c__law_take c_Heap_give c__law_give) :=
  FnD.of F sc__law_deed fun cdv A outer s H E hr => (js_cons (js_set (i := 4) sc__law_deed.nd rfl (by first | exact Or.inl rfl | exact Or.inr rfl) (j_callB (cj_sorted rfl) (by rfl) T.b_sorted bb_sorted (ja_cons (j_ixA (Room.u1 hr) (j_var (pv 2)) j_str) ja_nil)))
    (js_cons (js_set (i := 5) sc__law_deed.nd rfl (by first | exact Or.inl rfl | exact Or.inr rfl) (j_call pass_def G__law_next hr (by rfl) D__law_next.mgf D__law_next.kp D__law_next.bi (ja_cons (j_var (pv 0)) (ja_cons j_int ja_nil))))
    (js_cons (js_if (j_w (j_or (j_tcmp oj_lt (j_var (pv 5)) j_int (nomark _)) (j_or1 (j_tcmp (oj_eq (Room.u64 hr)) (j_var (pv 4)) (j_lst ja_nil) (nomark _))))) (js_cons (js_set (i := 6) sc__law_deed.nd rfl (by first | exact Or.inl rfl | exact Or.inr rfl) (j_ixA (Room.u1 hr) (j_lst (ja_cons (j_call pass_def G__law_next hr (by rfl) D__law_next.mgf D__law_next.kp D__law_next.bi (ja_cons (j_var (pv 0)) (ja_cons j_int ja_nil))) (ja_cons (j_call pass_def G__law_next hr (by rfl) D__law_next.mgf D__law_next.kp D__law_next.bi (ja_cons (j_var (pv 0)) (ja_cons j_int ja_nil))) (ja_cons (j_call pass_def G__law_next hr (by rfl) D__law_next.mgf D__law_next.kp D__law_next.bi (ja_cons (j_var (pv 0)) (ja_cons j_int ja_nil))) ja_nil)))) (j_call pass_def G__law_next hr (by rfl) D__law_next.mgf D__law_next.kp D__law_next.bi (ja_cons (j_var (pv 0)) (ja_cons j_int ja_nil)))))
    (js_one (js_ret (j_cmp (oj_eq (Room.u64 hr)) (j_meth pass_def T.cls_Heap M_Heap_take G_Heap_take hr B_Heap_take (j_var (pv 1)) (ja_cons (j_var (pv 6)) ja_nil)) (j_call pass_def G__law_take hr (by rfl) D__law_take.mgf D__law_take.kp D__law_take.bi (ja_cons (j_var (pv 2)) (ja_cons (j_var (pv 3)) (ja_cons (j_var (pv 6)) ja_nil)))) (nomark _))))) js_nil)
    (js_cons (js_set (i := 7) sc__law_deed.nd rfl (by first | exact Or.inl rfl | exact Or.inr rfl) (j_ixA (Room.u1 hr) (j_var (pv 4)) (j_call pass_def G__law_next hr (by rfl) D__law_next.mgf D__law_next.kp D__law_next.bi (ja_cons (j_var (pv 0)) (ja_cons (j_callB cj_len (by rfl) T.b_len bb_len (ja_cons (j_var (pv 4)) ja_nil)) ja_nil)))))
    (js_cons (js_if (j_tcmp (oj_eq (Room.u64 hr)) (j_var (pv 5)) j_int (nomark _)) (js_one (js_set (i := 7) sc__law_deed.nd rfl (by first | exact Or.inl rfl | exact Or.inr rfl) (j_op oj_add (j_op oj_add (j_var (pv 7)) j_int) (j_call pass_def G__law_next hr (by rfl) D__law_next.mgf D__law_next.kp D__law_next.bi (ja_cons (j_var (pv 0)) (ja_cons j_int ja_nil)))))) js_nil)
    (js_one (js_ret (j_cmp (oj_eq (Room.u64 hr)) (j_meth pass_def T.cls_Heap M_Heap_give G_Heap_give hr B_Heap_give (j_var (pv 1)) (ja_cons (j_var (pv 7)) ja_nil)) (j_call pass_def G__law_give hr (by rfl) D__law_give.mgf D__law_give.kp D__law_give.bi (ja_cons (j_var (pv 2)) (ja_cons (j_var (pv 3)) (ja_cons (j_var (pv 7)) ja_nil)))) (nomark _)))))))))
abbrev s_law : Stmt := top 13
abbrev N_law : List Str := ["_law_script", "_law_draws_here", "_law_allocator", "_law_heap", "_law_other", "_law_m", "_law_turn", "_law_address"]
theorem sc_law : FnScope ["_law_script", "_law_draws_here", "_law_allocator", "_law_heap", "_law_other", "_law_m", "_law_turn", "_law_address"] ["_law_script"] (defScope s_law) := ⟨rfl, rfl, rfl, by decide +kernel, rfl, by decide +kernel, by decide +kernel⟩
theorem ok_law (T : Tx K mg cl) {k : Nat} {f : Addr} {fd : FuncData} (F : Fun K "law" "law" s_law f fd) {c__law_reader : DF} {f__law_reader : Addr} {fd__law_reader : FuncData} (D__law_reader : DefAt K mg "_law_reader" f__law_reader fd__law_reader ["_law_script"]) (G__law_reader : FnD P w K mg base cl (k + 1) f__law_reader fd__law_reader ["_law_script"] c__law_reader) {c__law_next : DF} {f__law_next : Addr} {fd__law_next : FuncData} (D__law_next : DefAt K mg "_law_next" f__law_next fd__law_next ["_law_draws_here", "_law_many"]) (G__law_next : FnD P w K mg base cl (k + 1) f__law_next fd__law_next ["_law_draws_here", "_law_many"] c__law_next) {c_Heap___init__ : DF} {f_Heap___init__ : Addr} {fd_Heap___init__ : FuncData} (M_Heap___init__ : Mk K (cl "Heap") f_Heap___init__) (B_Heap___init__ : Binds K fd_Heap___init__ ["self", "allocator"] []) (G_Heap___init__ : FnD P w K mg base cl k f_Heap___init__ fd_Heap___init__ ["self", "allocator"] c_Heap___init__) {c__law_deed : DF} {f__law_deed : Addr} {fd__law_deed : FuncData} (D__law_deed : DefAt K mg "_law_deed" f__law_deed fd__law_deed ["_law_draws_here", "_law_heap", "_law_m", "_law_allocator"]) (G__law_deed : FnD P w K mg base cl (k + 1) f__law_deed fd__law_deed ["_law_draws_here", "_law_heap", "_law_m", "_law_allocator"] c__law_deed) {c__law_as_told : DF} {f__law_as_told : Addr} {fd__law_as_told : FuncData} (D__law_as_told : DefAt K mg "_law_as_told" f__law_as_told fd__law_as_told ["_law_heap", "_law_m"]) (G__law_as_told : FnD P w K mg base cl (k + 1) f__law_as_told fd__law_as_told ["_law_heap", "_law_m"] c__law_as_told) {c_Heap_give : DF} {f_Heap_give : Addr} {fd_Heap_give : FuncData} (M_Heap_give : Meth K (cl "Heap") "give" f_Heap_give) (B_Heap_give : Binds K fd_Heap_give ["self", "address"] []) (G_Heap_give : FnD P w K mg base cl (k + 1) f_Heap_give fd_Heap_give ["self", "address"] c_Heap_give) {c__law_give : DF} {f__law_give : Addr} {fd__law_give : FuncData} (D__law_give : DefAt K mg "_law_give" f__law_give fd__law_give ["_law_m", "_law_allocator", "_law_address"]) (G__law_give : FnD P w K mg base cl (k + 1) f__law_give fd__law_give ["_law_m", "_law_allocator", "_law_address"] c__law_give) {c_Heap_blocks : DF} {f_Heap_blocks : Addr} {fd_Heap_blocks : FuncData} (M_Heap_blocks : Meth K (cl "Heap") "blocks" f_Heap_blocks) (B_Heap_blocks : Binds K fd_Heap_blocks ["self"] []) (G_Heap_blocks : FnD P w K mg base cl (k + 1) f_Heap_blocks fd_Heap_blocks ["self"] c_Heap_blocks) {c_Heap_top : DF} {f_Heap_top : Addr} {fd_Heap_top : FuncData} (M_Heap_top : Meth K (cl "Heap") "top" f_Heap_top) (B_Heap_top : Binds K fd_Heap_top ["self"] []) (G_Heap_top : FnD P w K mg base cl (k + 1) f_Heap_top fd_Heap_top ["self"] c_Heap_top) {c_Heap_pieces : DF} {f_Heap_pieces : Addr} {fd_Heap_pieces : FuncData} (M_Heap_pieces : Meth K (cl "Heap") "pieces" f_Heap_pieces) (B_Heap_pieces : Binds K fd_Heap_pieces ["self"] []) (G_Heap_pieces : FnD P w K mg base cl (k + 1) f_Heap_pieces fd_Heap_pieces ["self"] c_Heap_pieces) :
    FnD P w K mg base cl ((k + 1) + 1) f fd ["_law_script"] (F_law c__law_reader c__law_next c_Heap___init__ c__law_deed c__law_as_told c_Heap_give c__law_give c_Heap_blocks c_Heap_top c_Heap_pieces) :=
  FnD.of F sc_law fun cdv A outer s H E hr => (js_cons (js_set (i := 1) sc_law.nd rfl (by first | exact Or.inl rfl | exact Or.inr rfl) (j_call pass_def G__law_reader hr (by rfl) D__law_reader.mgf D__law_reader.kp D__law_reader.bi (ja_cons (j_var (pv 0)) ja_nil)))
    (js_cons (js_set (i := 2) sc_law.nd rfl (by first | exact Or.inl rfl | exact Or.inr rfl) (j_tup (ja_cons (j_ixA (Room.u1 hr) (j_lst (ja_cons j_str (ja_cons j_str (ja_cons j_str (ja_cons j_str ja_nil))))) (j_call pass_def G__law_next hr (by rfl) D__law_next.mgf D__law_next.kp D__law_next.bi (ja_cons (j_var (pv 1)) (ja_cons j_int ja_nil)))) (ja_cons (j_op oj_shl j_int (j_call pass_def G__law_next hr (by rfl) D__law_next.mgf D__law_next.kp D__law_next.bi (ja_cons (j_var (pv 1)) (ja_cons j_int ja_nil)))) ja_nil))))
    (js_cons (js_set (i := 3) sc_law.nd rfl (by first | exact Or.inl rfl | exact Or.inr rfl) (j_make pass_def M_Heap___init__ G_Heap___init__ hr (by rfl) T.mg_Heap B_Heap___init__ (ja_cons (j_var (pv 2)) ja_nil)))
    (js_cons (js_set (i := 4) sc_law.nd rfl (by first | exact Or.inl rfl | exact Or.inr rfl) (j_make pass_def M_Heap___init__ G_Heap___init__ hr (by rfl) T.mg_Heap B_Heap___init__ (ja_cons (j_var (pv 2)) ja_nil)))
    (js_cons (js_set (i := 5) sc_law.nd rfl (by first | exact Or.inl rfl | exact Or.inr rfl) (j_disp (.cons j_str j_dispE (.cons j_str j_dispE (.cons j_str j_int (.cons j_str j_int .nil))))))
    (js_cons (js_for cx_def (ji_rng1 (by rfl) T.b_range (ja_cons (j_op oj_add j_int (j_call pass_def G__law_next hr (by rfl) D__law_next.mgf D__law_next.kp D__law_next.bi (ja_cons (j_var (pv 1)) (ja_cons j_int ja_nil)))) ja_nil)) (jg_name (pg_name (i := 6) sc_law.nd rfl (by first | exact Or.inl rfl | exact Or.inr rfl))) (js_one (js_if (j_w (j_or (j_tnot (j_tru (j_call pass_def G__law_deed hr (by rfl) D__law_deed.mgf D__law_deed.kp D__law_deed.bi (ja_cons (j_var (pv 1)) (ja_cons (j_var (pv 3)) (ja_cons (j_var (pv 5)) (ja_cons (j_var (pv 2)) ja_nil))))) (fun _ => rfl))) (j_or1 (j_tnot (j_tru (j_call pass_def G__law_as_told hr (by rfl) D__law_as_told.mgf D__law_as_told.kp D__law_as_told.bi (ja_cons (j_var (pv 3)) (ja_cons (j_var (pv 5)) ja_nil))) (fun _ => rfl)))))) (js_one (js_ret j_bl)) js_nil)))
    (js_cons (js_for cx_def (ji_any (j_callTy (cj_listA rfl) (by rfl) T.b_list bb_list (ja_cons (j_ixA (Room.u1 hr) (j_var (pv 5)) j_str) ja_nil))) (jg_name (pg_name (i := 7) sc_law.nd rfl (by first | exact Or.inl rfl | exact Or.inr rfl))) (js_one (js_if (j_w (j_or (j_tcmp oj_isNot (j_meth pass_def T.cls_Heap M_Heap_give G_Heap_give hr B_Heap_give (j_var (pv 3)) (ja_cons (j_var (pv 7)) ja_nil)) j_bl (nomark _)) (j_or1 (j_tnot (j_tru (j_call pass_def G__law_give hr (by rfl) D__law_give.mgf D__law_give.kp D__law_give.bi (ja_cons (j_var (pv 5)) (ja_cons (j_var (pv 2)) (ja_cons (j_var (pv 7)) ja_nil)))) (fun _ => rfl)))))) (js_one (js_ret j_bl)) js_nil)))
    (js_cons (js_if (j_w (j_or (j_tcmp (oj_ne (Room.u64 hr)) (j_meth0 pass_def T.cls_Heap M_Heap_blocks G_Heap_blocks hr B_Heap_blocks (j_var (pv 3))) (j_tup ja_nil) (nomark _)) (j_or1 (j_w (j_and (j_tcmp (oj_ne (Room.u64 hr)) (j_ixA (Room.u1 hr) (j_var (pv 2)) j_int) j_str (nomark _)) (j_and1 (j_tcmp (oj_ne (Room.u64 hr)) (j_meth0 pass_def T.cls_Heap M_Heap_top G_Heap_top hr B_Heap_top (j_var (pv 3))) j_int (nomark _)))))))) (js_one (js_ret j_bl)) js_nil)
    (js_one (js_ret (j_vand (j_cmp (oj_eq (Room.u64 hr)) (j_meth0 pass_def T.cls_Heap M_Heap_top G_Heap_top hr B_Heap_top (j_var (pv 4))) j_int (nomark _)) (j_vand (j_cmp (oj_eq (Room.u64 hr)) (j_meth0 pass_def T.cls_Heap M_Heap_pieces G_Heap_pieces hr B_Heap_pieces (j_var (pv 4))) (j_tup ja_nil) (nomark _)) (j_vone (j_cmp oj_is (j_meth pass_def T.cls_Heap M_Heap_give G_Heap_give hr B_Heap_give (j_var (pv 4)) (ja_cons j_int ja_nil)) j_bl (nomark _)))))))))))))))
end
end K85

namespace K85
open PySem PySem.Spec PyProof.Rows L2 DL
theorem all_mk {P : Program} {w : World} {K : PySem.W.Frag} {h : Heap} {mg : Str → Option Value} {fa : Addr} (X : K.In h) (G : h.Ns mainGlobals mg) (hfa : mg "law" = some (.ref fa))
    {f_Heap___init__ : Addr} {od_Heap___init__ an_Heap___init__ : Option Addr} {sl_Heap___init__ : Array (Option Value)} {oc_Heap___init__ kV_Heap___init__ dc_Heap___init__ pm_Heap___init__ cd_Heap___init__ ct_Heap___init__ : Value}
    {f_Heap_blocks : Addr} {od_Heap_blocks an_Heap_blocks : Option Addr} {sl_Heap_blocks : Array (Option Value)} {oc_Heap_blocks kV_Heap_blocks dc_Heap_blocks pm_Heap_blocks cd_Heap_blocks ct_Heap_blocks : Value}
    {f_Heap_pieces : Addr} {od_Heap_pieces an_Heap_pieces : Option Addr} {sl_Heap_pieces : Array (Option Value)} {oc_Heap_pieces kV_Heap_pieces dc_Heap_pieces pm_Heap_pieces cd_Heap_pieces ct_Heap_pieces : Value}
    {f_Heap_top : Addr} {od_Heap_top an_Heap_top : Option Addr} {sl_Heap_top : Array (Option Value)} {oc_Heap_top kV_Heap_top dc_Heap_top pm_Heap_top cd_Heap_top ct_Heap_top : Value}
    {f_Heap_size : Addr} {od_Heap_size an_Heap_size : Option Addr} {sl_Heap_size : Array (Option Value)} {oc_Heap_size kV_Heap_size dc_Heap_size pm_Heap_size cd_Heap_size ct_Heap_size : Value}
    {f_Heap_take : Addr} {od_Heap_take an_Heap_take : Option Addr} {sl_Heap_take : Array (Option Value)} {oc_Heap_take kV_Heap_take dc_Heap_take pm_Heap_take cd_Heap_take ct_Heap_take : Value}
    {f_Heap_chosen : Addr} {od_Heap_chosen an_Heap_chosen : Option Addr} {sl_Heap_chosen : Array (Option Value)} {oc_Heap_chosen kV_Heap_chosen dc_Heap_chosen pm_Heap_chosen cd_Heap_chosen ct_Heap_chosen : Value}
    {f_Heap_give : Addr} {od_Heap_give an_Heap_give : Option Addr} {sl_Heap_give : Array (Option Value)} {oc_Heap_give kV_Heap_give dc_Heap_give pm_Heap_give cd_Heap_give ct_Heap_give : Value}
    {f__law_draws : Addr} {od__law_draws an__law_draws : Option Addr} {sl__law_draws : Array (Option Value)} {oc__law_draws kV__law_draws dc__law_draws pm__law_draws cd__law_draws ct__law_draws : Value}
    {f__law_reader : Addr} {od__law_reader an__law_reader : Option Addr} {sl__law_reader : Array (Option Value)} {oc__law_reader kV__law_reader dc__law_reader pm__law_reader cd__law_reader ct__law_reader : Value}
    {f__law_next : Addr} {od__law_next an__law_next : Option Addr} {sl__law_next : Array (Option Value)} {oc__law_next kV__law_next dc__law_next pm__law_next cd__law_next ct__law_next : Value}
    {f__law_runs : Addr} {od__law_runs an__law_runs : Option Addr} {sl__law_runs : Array (Option Value)} {oc__law_runs kV__law_runs dc__law_runs pm__law_runs cd__law_runs ct__law_runs : Value}
    {f__law_fits : Addr} {od__law_fits an__law_fits : Option Addr} {sl__law_fits : Array (Option Value)} {oc__law_fits kV__law_fits dc__law_fits pm__law_fits cd__law_fits ct__law_fits : Value}
    {f__law_chosen : Addr} {od__law_chosen an__law_chosen : Option Addr} {sl__law_chosen : Array (Option Value)} {oc__law_chosen kV__law_chosen dc__law_chosen pm__law_chosen cd__law_chosen ct__law_chosen : Value}
    {f__law_take : Addr} {od__law_take an__law_take : Option Addr} {sl__law_take : Array (Option Value)} {oc__law_take kV__law_take dc__law_take pm__law_take cd__law_take ct__law_take : Value}
    {f__law_give : Addr} {od__law_give an__law_give : Option Addr} {sl__law_give : Array (Option Value)} {oc__law_give kV__law_give dc__law_give pm__law_give cd__law_give ct__law_give : Value}
    {f__law_as_told : Addr} {od__law_as_told an__law_as_told : Option Addr} {sl__law_as_told : Array (Option Value)} {oc__law_as_told kV__law_as_told dc__law_as_told pm__law_as_told cd__law_as_told ct__law_as_told : Value}
    {f__law_deed : Addr} {od__law_deed an__law_deed : Option Addr} {sl__law_deed : Array (Option Value)} {oc__law_deed kV__law_deed dc__law_deed pm__law_deed cd__law_deed ct__law_deed : Value}
    {f_law : Addr} {od_law an_law : Option Addr} {sl_law : Array (Option Value)} {oc_law kV_law dc_law pm_law cd_law ct_law : Value}
    {C_Heap : Addr}
    (a_Heap___init__ : PySem.W.findIn K (.ref C_Heap) "__init__" = some (some (.ref f_Heap___init__))) (i_Heap___init__ : PySem.W.isFn K (.ref f_Heap___init__) = true)
    (l_Heap___init__ : K.lookup f_Heap___init__ = some ⟨oc_Heap___init__, od_Heap___init__, .func (PySem.W.fnOf "__init__" "Heap.__init__" (defArgs s_Heap___init__) (defBody s_Heap___init__) (defScope s_Heap___init__) .none kV_Heap___init__ dc_Heap___init__ pm_Heap___init__ an_Heap___init__ cd_Heap___init__ ct_Heap___init__), sl_Heap___init__⟩)
    (c_Heap___init__ : PySem.W.codeIn K cd_Heap___init__ "Heap.__init__" = true)
    (k_Heap___init__ : PySem.W.keepIn K (.ref f_Heap___init__) = true)
    (a_Heap_blocks : PySem.W.findIn K (.ref C_Heap) "blocks" = some (some (.ref f_Heap_blocks))) (i_Heap_blocks : PySem.W.isFn K (.ref f_Heap_blocks) = true)
    (l_Heap_blocks : K.lookup f_Heap_blocks = some ⟨oc_Heap_blocks, od_Heap_blocks, .func (PySem.W.fnOf "blocks" "Heap.blocks" (defArgs s_Heap_blocks) (defBody s_Heap_blocks) (defScope s_Heap_blocks) .none kV_Heap_blocks dc_Heap_blocks pm_Heap_blocks an_Heap_blocks cd_Heap_blocks ct_Heap_blocks), sl_Heap_blocks⟩)
    (c_Heap_blocks : PySem.W.codeIn K cd_Heap_blocks "Heap.blocks" = true)
    (k_Heap_blocks : PySem.W.keepIn K (.ref f_Heap_blocks) = true)
    (a_Heap_pieces : PySem.W.findIn K (.ref C_Heap) "pieces" = some (some (.ref f_Heap_pieces))) (i_Heap_pieces : PySem.W.isFn K (.ref f_Heap_pieces) = true)
    (l_Heap_pieces : K.lookup f_Heap_pieces = some ⟨oc_Heap_pieces, od_Heap_pieces, .func (PySem.W.fnOf "pieces" "Heap.pieces" (defArgs s_Heap_pieces) (defBody s_Heap_pieces) (defScope s_Heap_pieces) .none kV_Heap_pieces dc_Heap_pieces pm_Heap_pieces an_Heap_pieces cd_Heap_pieces ct_Heap_pieces), sl_Heap_pieces⟩)
    (c_Heap_pieces : PySem.W.codeIn K cd_Heap_pieces "Heap.pieces" = true)
    (k_Heap_pieces : PySem.W.keepIn K (.ref f_Heap_pieces) = true)
    (a_Heap_top : PySem.W.findIn K (.ref C_Heap) "top" = some (some (.ref f_Heap_top))) (i_Heap_top : PySem.W.isFn K (.ref f_Heap_top) = true)
    (l_Heap_top : K.lookup f_Heap_top = some ⟨oc_Heap_top, od_Heap_top, .func (PySem.W.fnOf "top" "Heap.top" (defArgs s_Heap_top) (defBody s_Heap_top) (defScope s_Heap_top) .none kV_Heap_top dc_Heap_top pm_Heap_top an_Heap_top cd_Heap_top ct_Heap_top), sl_Heap_top⟩)
    (c_Heap_top : PySem.W.codeIn K cd_Heap_top "Heap.top" = true)
    (k_Heap_top : PySem.W.keepIn K (.ref f_Heap_top) = true)
    (a_Heap_size : PySem.W.findIn K (.ref C_Heap) "size" = some (some (.ref f_Heap_size))) (i_Heap_size : PySem.W.isFn K (.ref f_Heap_size) = true)
    (l_Heap_size : K.lookup f_Heap_size = some ⟨oc_Heap_size, od_Heap_size, .func (PySem.W.fnOf "size" "Heap.size" (defArgs s_Heap_size) (defBody s_Heap_size) (defScope s_Heap_size) .none kV_Heap_size dc_Heap_size pm_Heap_size an_Heap_size cd_Heap_size ct_Heap_size), sl_Heap_size⟩)
    (c_Heap_size : PySem.W.codeIn K cd_Heap_size "Heap.size" = true)
    (k_Heap_size : PySem.W.keepIn K (.ref f_Heap_size) = true)
    (a_Heap_take : PySem.W.findIn K (.ref C_Heap) "take" = some (some (.ref f_Heap_take))) (i_Heap_take : PySem.W.isFn K (.ref f_Heap_take) = true)
    (l_Heap_take : K.lookup f_Heap_take = some ⟨oc_Heap_take, od_Heap_take, .func (PySem.W.fnOf "take" "Heap.take" (defArgs s_Heap_take) (defBody s_Heap_take) (defScope s_Heap_take) .none kV_Heap_take dc_Heap_take pm_Heap_take an_Heap_take cd_Heap_take ct_Heap_take), sl_Heap_take⟩)
    (c_Heap_take : PySem.W.codeIn K cd_Heap_take "Heap.take" = true)
    (k_Heap_take : PySem.W.keepIn K (.ref f_Heap_take) = true)
    (a_Heap_chosen : PySem.W.findIn K (.ref C_Heap) "chosen" = some (some (.ref f_Heap_chosen))) (i_Heap_chosen : PySem.W.isFn K (.ref f_Heap_chosen) = true)
    (l_Heap_chosen : K.lookup f_Heap_chosen = some ⟨oc_Heap_chosen, od_Heap_chosen, .func (PySem.W.fnOf "chosen" "Heap.chosen" (defArgs s_Heap_chosen) (defBody s_Heap_chosen) (defScope s_Heap_chosen) .none kV_Heap_chosen dc_Heap_chosen pm_Heap_chosen an_Heap_chosen cd_Heap_chosen ct_Heap_chosen), sl_Heap_chosen⟩)
    (c_Heap_chosen : PySem.W.codeIn K cd_Heap_chosen "Heap.chosen" = true)
    (k_Heap_chosen : PySem.W.keepIn K (.ref f_Heap_chosen) = true)
    (a_Heap_give : PySem.W.findIn K (.ref C_Heap) "give" = some (some (.ref f_Heap_give))) (i_Heap_give : PySem.W.isFn K (.ref f_Heap_give) = true)
    (l_Heap_give : K.lookup f_Heap_give = some ⟨oc_Heap_give, od_Heap_give, .func (PySem.W.fnOf "give" "Heap.give" (defArgs s_Heap_give) (defBody s_Heap_give) (defScope s_Heap_give) .none kV_Heap_give dc_Heap_give pm_Heap_give an_Heap_give cd_Heap_give ct_Heap_give), sl_Heap_give⟩)
    (c_Heap_give : PySem.W.codeIn K cd_Heap_give "Heap.give" = true)
    (k_Heap_give : PySem.W.keepIn K (.ref f_Heap_give) = true)
    (a__law_draws : PySem.W.nsIn K mainGlobals "_law_draws" = some (some (.ref f__law_draws)))
    (l__law_draws : K.lookup f__law_draws = some ⟨oc__law_draws, od__law_draws, .func (PySem.W.fnOf "_law_draws" "_law_draws" (defArgs s__law_draws) (defBody s__law_draws) (defScope s__law_draws) .none kV__law_draws dc__law_draws pm__law_draws an__law_draws cd__law_draws ct__law_draws), sl__law_draws⟩)
    (c__law_draws : PySem.W.codeIn K cd__law_draws "_law_draws" = true)
    (k__law_draws : PySem.W.keepIn K (.ref f__law_draws) = true)
    (a__law_reader : PySem.W.nsIn K mainGlobals "_law_reader" = some (some (.ref f__law_reader)))
    (l__law_reader : K.lookup f__law_reader = some ⟨oc__law_reader, od__law_reader, .func (PySem.W.fnOf "_law_reader" "_law_reader" (defArgs s__law_reader) (defBody s__law_reader) (defScope s__law_reader) .none kV__law_reader dc__law_reader pm__law_reader an__law_reader cd__law_reader ct__law_reader), sl__law_reader⟩)
    (c__law_reader : PySem.W.codeIn K cd__law_reader "_law_reader" = true)
    (k__law_reader : PySem.W.keepIn K (.ref f__law_reader) = true)
    (a__law_next : PySem.W.nsIn K mainGlobals "_law_next" = some (some (.ref f__law_next)))
    (l__law_next : K.lookup f__law_next = some ⟨oc__law_next, od__law_next, .func (PySem.W.fnOf "_law_next" "_law_next" (defArgs s__law_next) (defBody s__law_next) (defScope s__law_next) .none kV__law_next dc__law_next pm__law_next an__law_next cd__law_next ct__law_next), sl__law_next⟩)
    (c__law_next : PySem.W.codeIn K cd__law_next "_law_next" = true)
    (k__law_next : PySem.W.keepIn K (.ref f__law_next) = true)
    (a__law_runs : PySem.W.nsIn K mainGlobals "_law_runs" = some (some (.ref f__law_runs)))
    (l__law_runs : K.lookup f__law_runs = some ⟨oc__law_runs, od__law_runs, .func (PySem.W.fnOf "_law_runs" "_law_runs" (defArgs s__law_runs) (defBody s__law_runs) (defScope s__law_runs) .none kV__law_runs dc__law_runs pm__law_runs an__law_runs cd__law_runs ct__law_runs), sl__law_runs⟩)
    (c__law_runs : PySem.W.codeIn K cd__law_runs "_law_runs" = true)
    (k__law_runs : PySem.W.keepIn K (.ref f__law_runs) = true)
    (a__law_fits : PySem.W.nsIn K mainGlobals "_law_fits" = some (some (.ref f__law_fits)))
    (l__law_fits : K.lookup f__law_fits = some ⟨oc__law_fits, od__law_fits, .func (PySem.W.fnOf "_law_fits" "_law_fits" (defArgs s__law_fits) (defBody s__law_fits) (defScope s__law_fits) .none kV__law_fits dc__law_fits pm__law_fits an__law_fits cd__law_fits ct__law_fits), sl__law_fits⟩)
    (c__law_fits : PySem.W.codeIn K cd__law_fits "_law_fits" = true)
    (k__law_fits : PySem.W.keepIn K (.ref f__law_fits) = true)
    (a__law_chosen : PySem.W.nsIn K mainGlobals "_law_chosen" = some (some (.ref f__law_chosen)))
    (l__law_chosen : K.lookup f__law_chosen = some ⟨oc__law_chosen, od__law_chosen, .func (PySem.W.fnOf "_law_chosen" "_law_chosen" (defArgs s__law_chosen) (defBody s__law_chosen) (defScope s__law_chosen) .none kV__law_chosen dc__law_chosen pm__law_chosen an__law_chosen cd__law_chosen ct__law_chosen), sl__law_chosen⟩)
    (c__law_chosen : PySem.W.codeIn K cd__law_chosen "_law_chosen" = true)
    (k__law_chosen : PySem.W.keepIn K (.ref f__law_chosen) = true)
    (a__law_take : PySem.W.nsIn K mainGlobals "_law_take" = some (some (.ref f__law_take)))
    (l__law_take : K.lookup f__law_take = some ⟨oc__law_take, od__law_take, .func (PySem.W.fnOf "_law_take" "_law_take" (defArgs s__law_take) (defBody s__law_take) (defScope s__law_take) .none kV__law_take dc__law_take pm__law_take an__law_take cd__law_take ct__law_take), sl__law_take⟩)
    (c__law_take : PySem.W.codeIn K cd__law_take "_law_take" = true)
    (k__law_take : PySem.W.keepIn K (.ref f__law_take) = true)
    (a__law_give : PySem.W.nsIn K mainGlobals "_law_give" = some (some (.ref f__law_give)))
    (l__law_give : K.lookup f__law_give = some ⟨oc__law_give, od__law_give, .func (PySem.W.fnOf "_law_give" "_law_give" (defArgs s__law_give) (defBody s__law_give) (defScope s__law_give) .none kV__law_give dc__law_give pm__law_give an__law_give cd__law_give ct__law_give), sl__law_give⟩)
    (c__law_give : PySem.W.codeIn K cd__law_give "_law_give" = true)
    (k__law_give : PySem.W.keepIn K (.ref f__law_give) = true)
    (a__law_as_told : PySem.W.nsIn K mainGlobals "_law_as_told" = some (some (.ref f__law_as_told)))
    (l__law_as_told : K.lookup f__law_as_told = some ⟨oc__law_as_told, od__law_as_told, .func (PySem.W.fnOf "_law_as_told" "_law_as_told" (defArgs s__law_as_told) (defBody s__law_as_told) (defScope s__law_as_told) .none kV__law_as_told dc__law_as_told pm__law_as_told an__law_as_told cd__law_as_told ct__law_as_told), sl__law_as_told⟩)
    (c__law_as_told : PySem.W.codeIn K cd__law_as_told "_law_as_told" = true)
    (k__law_as_told : PySem.W.keepIn K (.ref f__law_as_told) = true)
    (a__law_deed : PySem.W.nsIn K mainGlobals "_law_deed" = some (some (.ref f__law_deed)))
    (l__law_deed : K.lookup f__law_deed = some ⟨oc__law_deed, od__law_deed, .func (PySem.W.fnOf "_law_deed" "_law_deed" (defArgs s__law_deed) (defBody s__law_deed) (defScope s__law_deed) .none kV__law_deed dc__law_deed pm__law_deed an__law_deed cd__law_deed ct__law_deed), sl__law_deed⟩)
    (c__law_deed : PySem.W.codeIn K cd__law_deed "_law_deed" = true)
    (k__law_deed : PySem.W.keepIn K (.ref f__law_deed) = true)
    (a_law : PySem.W.nsIn K mainGlobals "law" = some (some (.ref f_law)))
    (l_law : K.lookup f_law = some ⟨oc_law, od_law, .func (PySem.W.fnOf "law" "law" (defArgs s_law) (defBody s_law) (defScope s_law) .none kV_law dc_law pm_law an_law cd_law ct_law), sl_law⟩)
    (c_law : PySem.W.codeIn K cd_law "law" = true)
    (k_law : PySem.W.keepIn K (.ref f_law) = true)
    (z_abs : PySem.W.nsIn K mainGlobals "abs" = some none)
    (z_all : PySem.W.nsIn K mainGlobals "all" = some none)
    (z_int : PySem.W.nsIn K mainGlobals "int" = some none)
    (z_len : PySem.W.nsIn K mainGlobals "len" = some none)
    (z_list : PySem.W.nsIn K mainGlobals "list" = some none)
    (z_max : PySem.W.nsIn K mainGlobals "max" = some none)
    (z_min : PySem.W.nsIn K mainGlobals "min" = some none)
    (z_range : PySem.W.nsIn K mainGlobals "range" = some none)
    (z_sorted : PySem.W.nsIn K mainGlobals "sorted" = some none)
    (z_tuple : PySem.W.nsIn K mainGlobals "tuple" = some none)
    (aC_Heap : PySem.W.nsIn K mainGlobals "Heap" = some (some (.ref C_Heap)))
    (pg_Heap : PySem.W.plainGet K C_Heap Str.empty = true) (hd_Heap : PySem.W.hasDictIn K C_Heap = true) (po_Heap : PySem.W.plainOver K C_Heap = true) (sa_Heap : PySem.W.findIn K (.ref C_Heap) "__setattr__" = some (some (.builtin "object.__setattr__")))
    (mk_Heap : PySem.W.makesIn K C_Heap = true) (kC_Heap : PySem.W.keepIn K (.ref C_Heap) = true)
    (n_Heap__last : PySem.W.findIn K (.ref C_Heap) "_last" = some none)
    (n_Heap__pieces : PySem.W.findIn K (.ref C_Heap) "_pieces" = some none)
    (n_Heap__policy : PySem.W.findIn K (.ref C_Heap) "_policy" = some none)
    (n_Heap__sizes : PySem.W.findIn K (.ref C_Heap) "_sizes" = some none)
    (n_Heap__top : PySem.W.findIn K (.ref C_Heap) "_top" = some none)
    (n_Heap__unit : PySem.W.findIn K (.ref C_Heap) "_unit" = some none) :
    ∃ (fd : FuncData) (cl : Cl), (∀ (s : Shared) (v : Value), BindsTo s fd ⟨[v], []⟩ [("_law_script", v)]) ∧ ∀ base : Heap, K.In base → base.Ns mainGlobals mg → FnD P w K mg base cl 6 fa fd ["_law_script"] LF := by
  have e := hfa.symm.trans (PySem.W.mg_of X G a_law)
  cases e
  have hc_Heap : (clOf [("Heap", C_Heap)]) "Heap" = C_Heap := by simp only [clOf, List.lookup_cons, beq_self_eq_true, ofStr_beq, String.reduceBEq, Option.getD_some]
  have cls_Heap : Cls K ((clOf [("Heap", C_Heap)]) "Heap") := by rw [hc_Heap]; exact ⟨pg_Heap, hd_Heap, po_Heap, sa_Heap⟩
  have T : Tx K mg (clOf [("Heap", C_Heap)]) := ⟨(FldOk.cons cls_Heap (by rw [hc_Heap]; exact n_Heap__last) FldOk.nil), (FldOk.cons cls_Heap (by rw [hc_Heap]; exact n_Heap__pieces) FldOk.nil), (FldOk.cons cls_Heap (by rw [hc_Heap]; exact n_Heap__policy) FldOk.nil), (FldOk.cons cls_Heap (by rw [hc_Heap]; exact n_Heap__sizes) FldOk.nil), (FldOk.cons cls_Heap (by rw [hc_Heap]; exact n_Heap__top) FldOk.nil), (FldOk.cons cls_Heap (by rw [hc_Heap]; exact n_Heap__unit) FldOk.nil), cls_Heap, (by rw [hc_Heap]; exact PySem.W.mg_of X G aC_Heap), PySem.W.mg_none_of X G z_abs, PySem.W.mg_none_of X G z_all, PySem.W.mg_none_of X G z_int, PySem.W.mg_none_of X G z_len, PySem.W.mg_none_of X G z_list, PySem.W.mg_none_of X G z_max, PySem.W.mg_none_of X G z_min, PySem.W.mg_none_of X G z_range, PySem.W.mg_none_of X G z_sorted, PySem.W.mg_none_of X G z_tuple⟩
  have U_Heap___init__ := fun_mk (st := s_Heap___init__) l_Heap___init__ c_Heap___init__ k_Heap___init__
  have B_Heap___init__ := U_Heap___init__.binds (ps := ["self", "allocator"]) fun _ _ _ _ _ _ us hl => match us, hl with | [_, _], _ => rfl
  have M_Heap___init__ : Mk K ((clOf [("Heap", C_Heap)]) "Heap") f_Heap___init__ := by rw [hc_Heap]; exact ⟨mk_Heap, a_Heap___init__, i_Heap___init__, kC_Heap⟩
  have U_Heap_blocks := fun_mk (st := s_Heap_blocks) l_Heap_blocks c_Heap_blocks k_Heap_blocks
  have B_Heap_blocks := U_Heap_blocks.binds (ps := ["self"]) fun _ _ _ _ _ _ us hl => match us, hl with | [_], _ => rfl
  have M_Heap_blocks : Meth K ((clOf [("Heap", C_Heap)]) "Heap") "blocks" f_Heap_blocks := by rw [hc_Heap]; exact ⟨a_Heap_blocks, i_Heap_blocks, k_Heap_blocks⟩
  have U_Heap_pieces := fun_mk (st := s_Heap_pieces) l_Heap_pieces c_Heap_pieces k_Heap_pieces
  have B_Heap_pieces := U_Heap_pieces.binds (ps := ["self"]) fun _ _ _ _ _ _ us hl => match us, hl with | [_], _ => rfl
  have M_Heap_pieces : Meth K ((clOf [("Heap", C_Heap)]) "Heap") "pieces" f_Heap_pieces := by rw [hc_Heap]; exact ⟨a_Heap_pieces, i_Heap_pieces, k_Heap_pieces⟩
  have U_Heap_top := fun_mk (st := s_Heap_top) l_Heap_top c_Heap_top k_Heap_top
  have B_Heap_top := U_Heap_top.binds (ps := ["self"]) fun _ _ _ _ _ _ us hl => match us, hl with | [_], _ => rfl
  have M_Heap_top : Meth K ((clOf [("Heap", C_Heap)]) "Heap") "top" f_Heap_top := by rw [hc_Heap]; exact ⟨a_Heap_top, i_Heap_top, k_Heap_top⟩
  have U_Heap_size := fun_mk (st := s_Heap_size) l_Heap_size c_Heap_size k_Heap_size
  have B_Heap_size := U_Heap_size.binds (ps := ["self", "address"]) fun _ _ _ _ _ _ us hl => match us, hl with | [_, _], _ => rfl
  have M_Heap_size : Meth K ((clOf [("Heap", C_Heap)]) "Heap") "size" f_Heap_size := by rw [hc_Heap]; exact ⟨a_Heap_size, i_Heap_size, k_Heap_size⟩
  have U_Heap_take := fun_mk (st := s_Heap_take) l_Heap_take c_Heap_take k_Heap_take
  have B_Heap_take := U_Heap_take.binds (ps := ["self", "many"]) fun _ _ _ _ _ _ us hl => match us, hl with | [_, _], _ => rfl
  have M_Heap_take : Meth K ((clOf [("Heap", C_Heap)]) "Heap") "take" f_Heap_take := by rw [hc_Heap]; exact ⟨a_Heap_take, i_Heap_take, k_Heap_take⟩
  have U_Heap_chosen := fun_mk (st := s_Heap_chosen) l_Heap_chosen c_Heap_chosen k_Heap_chosen
  have B_Heap_chosen := U_Heap_chosen.binds (ps := ["self", "size"]) fun _ _ _ _ _ _ us hl => match us, hl with | [_, _], _ => rfl
  have M_Heap_chosen : Meth K ((clOf [("Heap", C_Heap)]) "Heap") "chosen" f_Heap_chosen := by rw [hc_Heap]; exact ⟨a_Heap_chosen, i_Heap_chosen, k_Heap_chosen⟩
  have U_Heap_give := fun_mk (st := s_Heap_give) l_Heap_give c_Heap_give k_Heap_give
  have B_Heap_give := U_Heap_give.binds (ps := ["self", "address"]) fun _ _ _ _ _ _ us hl => match us, hl with | [_, _], _ => rfl
  have M_Heap_give : Meth K ((clOf [("Heap", C_Heap)]) "Heap") "give" f_Heap_give := by rw [hc_Heap]; exact ⟨a_Heap_give, i_Heap_give, k_Heap_give⟩
  have U__law_draws := fun_mk (st := s__law_draws) l__law_draws c__law_draws k__law_draws
  have B__law_draws := U__law_draws.binds (ps := ["_law_script"]) fun _ _ _ _ _ _ us hl => match us, hl with | [_], _ => rfl
  have D__law_draws : DefAt K mg "_law_draws" _ _ ["_law_script"] := ⟨PySem.W.mg_of X G a__law_draws, k__law_draws, B__law_draws⟩
  have U__law_reader := fun_mk (st := s__law_reader) l__law_reader c__law_reader k__law_reader
  have B__law_reader := U__law_reader.binds (ps := ["_law_script"]) fun _ _ _ _ _ _ us hl => match us, hl with | [_], _ => rfl
  have D__law_reader : DefAt K mg "_law_reader" _ _ ["_law_script"] := ⟨PySem.W.mg_of X G a__law_reader, k__law_reader, B__law_reader⟩
  have U__law_next := fun_mk (st := s__law_next) l__law_next c__law_next k__law_next
  have B__law_next := U__law_next.binds (ps := ["_law_draws_here", "_law_many"]) fun _ _ _ _ _ _ us hl => match us, hl with | [_, _], _ => rfl
  have D__law_next : DefAt K mg "_law_next" _ _ ["_law_draws_here", "_law_many"] := ⟨PySem.W.mg_of X G a__law_next, k__law_next, B__law_next⟩
  have U__law_runs := fun_mk (st := s__law_runs) l__law_runs c__law_runs k__law_runs
  have B__law_runs := U__law_runs.binds (ps := ["_law_m"]) fun _ _ _ _ _ _ us hl => match us, hl with | [_], _ => rfl
  have D__law_runs : DefAt K mg "_law_runs" _ _ ["_law_m"] := ⟨PySem.W.mg_of X G a__law_runs, k__law_runs, B__law_runs⟩
  have U__law_fits := fun_mk (st := s__law_fits) l__law_fits c__law_fits k__law_fits
  have B__law_fits := U__law_fits.binds (ps := ["_law_m", "_law_size"]) fun _ _ _ _ _ _ us hl => match us, hl with | [_, _], _ => rfl
  have D__law_fits : DefAt K mg "_law_fits" _ _ ["_law_m", "_law_size"] := ⟨PySem.W.mg_of X G a__law_fits, k__law_fits, B__law_fits⟩
  have U__law_chosen := fun_mk (st := s__law_chosen) l__law_chosen c__law_chosen k__law_chosen
  have B__law_chosen := U__law_chosen.binds (ps := ["_law_m", "_law_policy", "_law_size"]) fun _ _ _ _ _ _ us hl => match us, hl with | [_, _, _], _ => rfl
  have D__law_chosen : DefAt K mg "_law_chosen" _ _ ["_law_m", "_law_policy", "_law_size"] := ⟨PySem.W.mg_of X G a__law_chosen, k__law_chosen, B__law_chosen⟩
  have U__law_take := fun_mk (st := s__law_take) l__law_take c__law_take k__law_take
  have B__law_take := U__law_take.binds (ps := ["_law_m", "_law_allocator", "_law_many"]) fun _ _ _ _ _ _ us hl => match us, hl with | [_, _, _], _ => rfl
  have D__law_take : DefAt K mg "_law_take" _ _ ["_law_m", "_law_allocator", "_law_many"] := ⟨PySem.W.mg_of X G a__law_take, k__law_take, B__law_take⟩
  have U__law_give := fun_mk (st := s__law_give) l__law_give c__law_give k__law_give
  have B__law_give := U__law_give.binds (ps := ["_law_m", "_law_allocator", "_law_address"]) fun _ _ _ _ _ _ us hl => match us, hl with | [_, _, _], _ => rfl
  have D__law_give : DefAt K mg "_law_give" _ _ ["_law_m", "_law_allocator", "_law_address"] := ⟨PySem.W.mg_of X G a__law_give, k__law_give, B__law_give⟩
  have U__law_as_told := fun_mk (st := s__law_as_told) l__law_as_told c__law_as_told k__law_as_told
  have B__law_as_told := U__law_as_told.binds (ps := ["_law_heap", "_law_m"]) fun _ _ _ _ _ _ us hl => match us, hl with | [_, _], _ => rfl
  have D__law_as_told : DefAt K mg "_law_as_told" _ _ ["_law_heap", "_law_m"] := ⟨PySem.W.mg_of X G a__law_as_told, k__law_as_told, B__law_as_told⟩
  have U__law_deed := fun_mk (st := s__law_deed) l__law_deed c__law_deed k__law_deed
  have B__law_deed := U__law_deed.binds (ps := ["_law_draws_here", "_law_heap", "_law_m", "_law_allocator"]) fun _ _ _ _ _ _ us hl => match us, hl with | [_, _, _, _], _ => rfl
  have D__law_deed : DefAt K mg "_law_deed" _ _ ["_law_draws_here", "_law_heap", "_law_m", "_law_allocator"] := ⟨PySem.W.mg_of X G a__law_deed, k__law_deed, B__law_deed⟩
  have U_law := fun_mk (st := s_law) l_law c_law k_law
  have B_law := U_law.binds (ps := ["_law_script"]) fun _ _ _ _ _ _ us hl => match us, hl with | [_], _ => rfl
  have D_law : DefAt K mg "law" _ _ ["_law_script"] := ⟨PySem.W.mg_of X G a_law, k_law, B_law⟩
  refine ⟨PySem.W.fnOf "law" "law" (defArgs s_law) (defBody s_law) (defScope s_law) .none kV_law dc_law pm_law an_law cd_law ct_law, (clOf [("Heap", C_Heap)]), fun s v => .of_eq rfl, fun base _ _ => ?_⟩
  have G_Heap___init__ := ok_Heap___init__ (P := P) (w := w) (base := base) (cl := (clOf [("Heap", C_Heap)])) T (k := 0) U_Heap___init__
  have G_Heap_blocks := ok_Heap_blocks (P := P) (w := w) (base := base) (cl := (clOf [("Heap", C_Heap)])) T (k := 0) U_Heap_blocks
  have G_Heap_pieces := ok_Heap_pieces (P := P) (w := w) (base := base) (cl := (clOf [("Heap", C_Heap)])) T (k := 0) U_Heap_pieces
  have G_Heap_top := ok_Heap_top (P := P) (w := w) (base := base) (cl := (clOf [("Heap", C_Heap)])) T (k := 0) U_Heap_top
  have G_Heap_size := ok_Heap_size (P := P) (w := w) (base := base) (cl := (clOf [("Heap", C_Heap)])) T (k := 0) U_Heap_size
  have G_Heap_chosen := ok_Heap_chosen (P := P) (w := w) (base := base) (cl := (clOf [("Heap", C_Heap)])) T (k := 0) U_Heap_chosen
  have G_Heap_give := FnD.auto (ok_Heap_give (P := P) (w := w) (base := base) (cl := (clOf [("Heap", C_Heap)])) T (k := 0) U_Heap_give)
  have G__law_draws := FnD.auto (ok__law_draws (P := P) (w := w) (base := base) (cl := (clOf [("Heap", C_Heap)])) T (k := 0) U__law_draws)
  have G__law_next := ok__law_next (P := P) (w := w) (base := base) (cl := (clOf [("Heap", C_Heap)])) T (k := 0) U__law_next
  have G__law_runs := FnD.auto (ok__law_runs (P := P) (w := w) (base := base) (cl := (clOf [("Heap", C_Heap)])) T (k := 0) U__law_runs)
  have G__law_give := ok__law_give (P := P) (w := w) (base := base) (cl := (clOf [("Heap", C_Heap)])) T (k := 0) U__law_give
  have G_Heap_take := ok_Heap_take (P := P) (w := w) (base := base) (cl := (clOf [("Heap", C_Heap)])) T (k := 1) U_Heap_take M_Heap_chosen B_Heap_chosen (G_Heap_chosen.mono (by decide))
  have G__law_reader := ok__law_reader (P := P) (w := w) (base := base) (cl := (clOf [("Heap", C_Heap)])) T (k := 1) U__law_reader D__law_draws (G__law_draws.mono (by decide))
  have G__law_fits := ok__law_fits (P := P) (w := w) (base := base) (cl := (clOf [("Heap", C_Heap)])) T (k := 1) U__law_fits D__law_runs (G__law_runs.mono (by decide))
  have G__law_as_told := ok__law_as_told (P := P) (w := w) (base := base) (cl := (clOf [("Heap", C_Heap)])) T (k := 1) U__law_as_told M_Heap_blocks B_Heap_blocks (G_Heap_blocks.mono (by decide)) M_Heap_pieces B_Heap_pieces (G_Heap_pieces.mono (by decide)) D__law_runs (G__law_runs.mono (by decide)) M_Heap_top B_Heap_top (G_Heap_top.mono (by decide)) M_Heap_size B_Heap_size (G_Heap_size.mono (by decide))
  have G__law_chosen := ok__law_chosen (P := P) (w := w) (base := base) (cl := (clOf [("Heap", C_Heap)])) T (k := 2) U__law_chosen D__law_fits (G__law_fits.mono (by decide))
  have G__law_take := ok__law_take (P := P) (w := w) (base := base) (cl := (clOf [("Heap", C_Heap)])) T (k := 3) U__law_take D__law_chosen (G__law_chosen.mono (by decide))
  have G__law_deed := ok__law_deed (P := P) (w := w) (base := base) (cl := (clOf [("Heap", C_Heap)])) T (k := 4) U__law_deed D__law_next (G__law_next.mono (by decide)) M_Heap_take B_Heap_take (G_Heap_take.mono (by decide)) D__law_take (G__law_take.mono (by decide)) M_Heap_give B_Heap_give (G_Heap_give.mono (by decide)) D__law_give (G__law_give.mono (by decide))
  have G_law := ok_law (P := P) (w := w) (base := base) (cl := (clOf [("Heap", C_Heap)])) T (k := 4) U_law D__law_reader (G__law_reader.mono (by decide)) D__law_next (G__law_next.mono (by decide)) M_Heap___init__ B_Heap___init__ (G_Heap___init__.mono (by decide)) D__law_deed (G__law_deed.mono (by decide)) D__law_as_told (G__law_as_told.mono (by decide)) M_Heap_give B_Heap_give (G_Heap_give.mono (by decide)) D__law_give (G__law_give.mono (by decide)) M_Heap_blocks B_Heap_blocks (G_Heap_blocks.mono (by decide)) M_Heap_top B_Heap_top (G_Heap_top.mono (by decide)) M_Heap_pieces B_Heap_pieces (G_Heap_pieces.mono (by decide))
  exact G_law
end K85
open PySem PySem.W PyProof.Rows
set_option maxRecDepth 100000 in
set_option maxHeartbeats 0 in
theorem PySem.Challenge.cw_oneowner_k85_whole_heaps_by_their_words_holds : PySem.Challenge.rw_oneowner_k85_whole_heaps_by_their_words.Holds := by
  w_on; o_law; k_head; (case hw => w_witness2)
  k_fill
  refine DL.walk_dl (k := 6) (x := "_law_script") (F := K85.LF) (l := PySem.Challenge.rw_oneowner_k85_whole_heaps_by_their_words) rfl rfl ⟨rfl, by decide, by decide⟩ (fun w h Y => PySem.W.kIn_of Y) ?F K85.law_ok
  case F =>
    intro w mg fa h KX G hmg
    refine' K85.all_mk KX G hmg ?a_Heap___init__ ?i_Heap___init__ ?l_Heap___init__ ?c_Heap___init__ ?k_Heap___init__ ?a_Heap_blocks ?i_Heap_blocks ?l_Heap_blocks ?c_Heap_blocks ?k_Heap_blocks ?a_Heap_pieces ?i_Heap_pieces ?l_Heap_pieces ?c_Heap_pieces ?k_Heap_pieces ?a_Heap_top ?i_Heap_top ?l_Heap_top ?c_Heap_top ?k_Heap_top ?a_Heap_size ?i_Heap_size ?l_Heap_size ?c_Heap_size ?k_Heap_size ?a_Heap_take ?i_Heap_take ?l_Heap_take ?c_Heap_take ?k_Heap_take ?a_Heap_chosen ?i_Heap_chosen ?l_Heap_chosen ?c_Heap_chosen ?k_Heap_chosen ?a_Heap_give ?i_Heap_give ?l_Heap_give ?c_Heap_give ?k_Heap_give ?a__law_draws ?l__law_draws ?c__law_draws ?k__law_draws ?a__law_reader ?l__law_reader ?c__law_reader ?k__law_reader ?a__law_next ?l__law_next ?c__law_next ?k__law_next ?a__law_runs ?l__law_runs ?c__law_runs ?k__law_runs ?a__law_fits ?l__law_fits ?c__law_fits ?k__law_fits ?a__law_chosen ?l__law_chosen ?c__law_chosen ?k__law_chosen ?a__law_take ?l__law_take ?c__law_take ?k__law_take ?a__law_give ?l__law_give ?c__law_give ?k__law_give ?a__law_as_told ?l__law_as_told ?c__law_as_told ?k__law_as_told ?a__law_deed ?l__law_deed ?c__law_deed ?k__law_deed ?a_law ?l_law ?c_law ?k_law ?z_abs ?z_all ?z_int ?z_len ?z_list ?z_max ?z_min ?z_range ?z_sorted ?z_tuple ?aC_Heap ?pg_Heap ?hd_Heap ?po_Heap ?sa_Heap ?mk_Heap ?kC_Heap ?n_Heap__last ?n_Heap__pieces ?n_Heap__policy ?n_Heap__sizes ?n_Heap__top ?n_Heap__unit
    (case aC_Heap => k_is)
    (case a_Heap___init__ => k_is)
    (case i_Heap___init__ => k_is)
    (case l_Heap___init__ => k_is)
    (case c_Heap___init__ => k_is)
    (case k_Heap___init__ => k_is)
    (case a_Heap_blocks => k_is)
    (case i_Heap_blocks => k_is)
    (case l_Heap_blocks => k_is)
    (case c_Heap_blocks => k_is)
    (case k_Heap_blocks => k_is)
    (case a_Heap_pieces => k_is)
    (case i_Heap_pieces => k_is)
    (case l_Heap_pieces => k_is)
    (case c_Heap_pieces => k_is)
    (case k_Heap_pieces => k_is)
    (case a_Heap_top => k_is)
    (case i_Heap_top => k_is)
    (case l_Heap_top => k_is)
    (case c_Heap_top => k_is)
    (case k_Heap_top => k_is)
    (case a_Heap_size => k_is)
    (case i_Heap_size => k_is)
    (case l_Heap_size => k_is)
    (case c_Heap_size => k_is)
    (case k_Heap_size => k_is)
    (case a_Heap_take => k_is)
    (case i_Heap_take => k_is)
    (case l_Heap_take => k_is)
    (case c_Heap_take => k_is)
    (case k_Heap_take => k_is)
    (case a_Heap_chosen => k_is)
    (case i_Heap_chosen => k_is)
    (case l_Heap_chosen => k_is)
    (case c_Heap_chosen => k_is)
    (case k_Heap_chosen => k_is)
    (case a_Heap_give => k_is)
    (case i_Heap_give => k_is)
    (case l_Heap_give => k_is)
    (case c_Heap_give => k_is)
    (case k_Heap_give => k_is)
    (case a__law_draws => k_is)
    (case l__law_draws => k_is)
    (case c__law_draws => k_is)
    (case k__law_draws => k_is)
    (case a__law_reader => k_is)
    (case l__law_reader => k_is)
    (case c__law_reader => k_is)
    (case k__law_reader => k_is)
    (case a__law_next => k_is)
    (case l__law_next => k_is)
    (case c__law_next => k_is)
    (case k__law_next => k_is)
    (case a__law_runs => k_is)
    (case l__law_runs => k_is)
    (case c__law_runs => k_is)
    (case k__law_runs => k_is)
    (case a__law_fits => k_is)
    (case l__law_fits => k_is)
    (case c__law_fits => k_is)
    (case k__law_fits => k_is)
    (case a__law_chosen => k_is)
    (case l__law_chosen => k_is)
    (case c__law_chosen => k_is)
    (case k__law_chosen => k_is)
    (case a__law_take => k_is)
    (case l__law_take => k_is)
    (case c__law_take => k_is)
    (case k__law_take => k_is)
    (case a__law_give => k_is)
    (case l__law_give => k_is)
    (case c__law_give => k_is)
    (case k__law_give => k_is)
    (case a__law_as_told => k_is)
    (case l__law_as_told => k_is)
    (case c__law_as_told => k_is)
    (case k__law_as_told => k_is)
    (case a__law_deed => k_is)
    (case l__law_deed => k_is)
    (case c__law_deed => k_is)
    (case k__law_deed => k_is)
    (case a_law => k_is)
    (case l_law => k_is)
    (case c_law => k_is)
    (case k_law => k_is)
    (case z_abs => k_is)
    (case z_all => k_is)
    (case z_int => k_is)
    (case z_len => k_is)
    (case z_list => k_is)
    (case z_max => k_is)
    (case z_min => k_is)
    (case z_range => k_is)
    (case z_sorted => k_is)
    (case z_tuple => k_is)
    (case pg_Heap => k_is)
    (case hd_Heap => k_is)
    (case po_Heap => k_is)
    (case sa_Heap => k_is)
    (case mk_Heap => k_is)
    (case kC_Heap => k_is)
    (case n_Heap__last => k_is)
    (case n_Heap__pieces => k_is)
    (case n_Heap__policy => k_is)
    (case n_Heap__sizes => k_is)
    (case n_Heap__top => k_is)
    (case n_Heap__unit => k_is)
#print axioms PySem.Challenge.cw_oneowner_k85_whole_heaps_by_their_words_holds
