import PyProof.Rows.All
import Wide.All
import OpenK.AllK
import Wide.FinOn
import HandS.ForMost
import HandS.Exc
import HandS.WordsExc
import HandS.Wide
import HandS.IsInst
import HandS.Style
import HandS.TupAny
import HandS.TupLe
import HandS.Deep
import HandS.CallSlots
import HandS.Ends
import HandS.EndBits
import HandS.Zip
import HandS.ExcOwn
import PySem.Challenge.RW_oneowner_k21_what_is_unordered_and_who_i
set_option Elab.async false
set_option linter.all false
set_option maxRecDepth 100000
set_option maxHeartbeats 4000000
set_option autoImplicit false
/-! DL1: values as data (D), a store of changing objects (Sto), programs as plain functions over them, and how they lie in the heap. -/
namespace DL
open PySem PySem.Spec PyProof.Rows L2

/-- a value: plain data to any depth; a changing object by its place in the store -/
inductive D where
  | non
  | bl (b : Bool)
  | int (i : Int)
  | str (x : Str)
  | tup (ds : List D)
  | lst (ds : List D)
  | fro (ds : List D)
  | dic (kvs : List (Key × D))
  | ref (n : Nat)
  | raw (v : V)

/-- a changing object -/
inductive Ob where
  | lst (ds : List D)
  | dK (kvs : List (Key × D))
  | dT (kvs : List (List Key × D))
  | ins (c : Str) (fs : List (Str × D))

abbrev Sto := List Ob
/-- an exception of an own class, with its fields -/
structure Exn where
  cls : Str
  fs : List (Str × D)

/-- what a run gives -/
inductive R (α : Type) where
  | ok (a : α) (st : Sto)
  | exc (x : Exn) (st : Sto)
  | bad

@[reducible] def R.bind {α β : Type} (r : R α) (k : α → Sto → R β) : R β := match r with
  | .ok a st => k a st
  | .exc x st => .exc x st
  | .bad => .bad

abbrev En := List (Option D)
abbrev DE := En → Sto → R D
abbrev DT := En → Sto → R Bool
abbrev DA := En → Sto → R (List D)
/-- a def -/
abbrev DF := List D → Sto → R D

/-! ### how data lies in the heap -/
/-- the addresses of the store's objects; addresses of things that are being made -/
structure Mp where
  m : List Addr
  x : List Addr
instance : Membership Addr Mp := ⟨fun as a => a ∈ as.m ∨ a ∈ as.x⟩
abbrev Mp.push (as : Mp) (p : Addr) : Mp := ⟨as.m ++ [p], as.x⟩
abbrev Mp.hide (as : Mp) (p : Addr) : Mp := ⟨as.m, p :: as.x⟩
theorem Mp.mem {as : Mp} {a : Addr} : a ∈ as ↔ a ∈ as.m ∨ a ∈ as.x := Iff.rfl
/-- a tuple, a list that nobody changes -/
def StT (K : PySem.W.Frag) (as : Mp) (H : Hp) (a : Addr) (xs : List V) : Prop :=
  (a ∉ as ∧ H a = some (.tup xs)) ∨
    ∃ (o : Obj) (its : Array Value) (n : Nat), K.lookup a = some o ∧ o.cls = .type "tuple" ∧ o.data = .seq its n ∧ its.size ≤ sizeLine ∧ Vals xs its.toList
/-- a list of the text's, or the script -/
def StF (K : PySem.W.Frag) (as : Mp) (H : Hp) (a : Addr) (xs : List V) : Prop :=
  (a ∉ as ∧ ∃ o, H a = some (.frz o (.lst xs))) ∨
    ∃ (o : Obj) (its : Array Value) (n : Nat), K.lookup a = some o ∧ o.cls = .type "list" ∧ o.dict = none ∧ o.data = .seq its n ∧ its.size ≤ sizeLine ∧ Vals xs its.toList
theorem StT.t {K : PySem.W.Frag} {as : Mp} {H : Hp} {a : Addr} {xs : List V} (h : StT K as H a xs) : SqT K H a xs := h.imp (fun z => .inl z.2) id
theorem StF.l {K : PySem.W.Frag} {as : Mp} {H : Hp} {a : Addr} {xs : List V} (h : StF K as H a xs) : SqL K H a xs := h.imp (fun z => .inr z.2) id

mutual
inductive Rep (K : PySem.W.Frag) (as : Mp) (H : Hp) : D → V → Prop
  | non : Rep K as H .non .non
  | bl (b : Bool) : Rep K as H (.bl b) (.bl b)
  | int (i : Int) : Rep K as H (.int i) (.int i)
  | str (x : Str) : Rep K as H (.str x) (.str x)
  | tup {a : Addr} {ds : List D} {xs : List V} : StT K as H a xs → Reps K as H ds xs → Rep K as H (.tup ds) (.ref a)
  | lst {a : Addr} {ds : List D} {xs : List V} : a ∉ as → H a = some (.lst xs) → Reps K as H ds xs → Rep K as H (.lst ds) (.ref a)
  | fro {a : Addr} {ds : List D} {xs : List V} : StF K as H a xs → Reps K as H ds xs → Rep K as H (.fro ds) (.ref a)
  | dic {a : Addr} {kvs : List (Key × D)} {kvx : List (Key × V)} : a ∉ as → H a = some (.dK kvx) → RepK K as H kvs kvx → Rep K as H (.dic kvs) (.ref a)
  | ref {n : Nat} {a : Addr} : as.m[n]? = some a → Rep K as H (.ref n) (.ref a)
  | raw (v : V) : Rep K as H (.raw v) v
inductive Reps (K : PySem.W.Frag) (as : Mp) (H : Hp) : List D → List V → Prop
  | nil : Reps K as H [] []
  | cons {d : D} {v : V} {ds : List D} {vs : List V} : Rep K as H d v → Reps K as H ds vs → Reps K as H (d :: ds) (v :: vs)
inductive RepK (K : PySem.W.Frag) (as : Mp) (H : Hp) : List (Key × D) → List (Key × V) → Prop
  | nil : RepK K as H [] []
  | cons {k : Key} {d : D} {v : V} {ds : List (Key × D)} {vs : List (Key × V)} : Rep K as H d v → RepK K as H ds vs → RepK K as H ((k, d) :: ds) ((k, v) :: vs)
end
/-- fields, other keyed rows -/
inductive RepF (K : PySem.W.Frag) (as : Mp) (H : Hp) {κ : Type} : List (κ × D) → List (κ × V) → Prop
  | nil : RepF K as H [] []
  | cons {k : κ} {d : D} {v : V} {ds : List (κ × D)} {vs : List (κ × V)} : Rep K as H d v → RepF K as H ds vs → RepF K as H ((k, d) :: ds) ((k, v) :: vs)

/-- the classes' addresses -/
abbrev Cl := Str → Addr
inductive RepO (K : PySem.W.Frag) (cl : Cl) (as : Mp) (H : Hp) : Ob → HO → Prop
  | lst {ds : List D} {xs : List V} : Reps K as H ds xs → RepO K cl as H (.lst ds) (.lst xs)
  | dK {kvs : List (Key × D)} {kvx : List (Key × V)} : RepF K as H kvs kvx → RepO K cl as H (.dK kvs) (.dK kvx)
  | dT {kvs : List (List Key × D)} {kvx : List (List Key × V)} : RepF K as H kvs kvx → RepO K cl as H (.dT kvs) (.dT kvx)
  | ins {c : Str} {dx : Addr} {fs : List (Str × D)} {fx : List (Str × V)} : RepF K as H fs fx → RepO K cl as H (.ins c fs) (.ins (cl c) dx fx)

/-- the store lies in the heap -/
structure Wd (K : PySem.W.Frag) (cl : Cl) (as : Mp) (st : Sto) (H : Hp) : Prop where
  len : as.m.length = st.length
  nd : as.m.Nodup
  sep : ∀ a, a ∈ as.m → a ∉ as.x
  lv : ∀ a, a ∈ as.x → ∃ o, H a = some o
  ob : ∀ (n : Nat) (o : Ob), st[n]? = some o → ∃ a h, as.m[n]? = some a ∧ H a = some h ∧ RepO K cl as H o h

/-- the world goes on: new objects, changes of the store's objects, nothing else changed -/
structure Evo (as : Mp) (H : Hp) (as' : Mp) (H' : Hp) : Prop where
  ext : ∃ bs, as'.m = as.m ++ bs ∧ ∀ b ∈ bs, H b = none
  exx : as'.x = as.x
  kx : ∀ a, a ∈ as.x → H' a = H a
  keep : ∀ a o, H a = some o → a ∉ as → H' a = some o
  live : ∀ a o, H a = some o → ∃ o', H' a = some o'

section
variable {K : PySem.W.Frag} {cl : Cl} {as as' as'' : Mp} {H H' H'' : Hp}
theorem Evo.refl : Evo as H as H := ⟨⟨[], by simp, by simp⟩, rfl, fun _ _ => rfl, fun _ _ h _ => h, fun _ o h => ⟨o, h⟩⟩
theorem Evo.out (e : Evo as H as' H') {a : Addr} {o : HO} (h : H a = some o) (n : a ∉ as) : a ∉ as' := by
  obtain ⟨bs, e1, hb⟩ := e.ext
  intro z
  rcases z with z | z
  · rw [e1] at z
    rcases List.mem_append.mp z with z | z
    · exact n (.inl z)
    · rw [hb a z] at h; cases h
  · rw [e.exx] at z
    exact n (.inr z)
theorem Evo.trans (e : Evo as H as' H') (f : Evo as' H' as'' H'') : Evo as H as'' H'' := by
  refine ⟨?_, f.exx.trans e.exx, fun a ha => (f.kx a (by rw [e.exx]; exact ha)).trans (e.kx a ha), fun a o h n => f.keep a o (e.keep a o h n) (e.out h n), fun a o h => ?_⟩
  · obtain ⟨bs, e1, hb⟩ := e.ext
    obtain ⟨cs, e2, hc⟩ := f.ext
    refine ⟨bs ++ cs, by rw [e2, e1, List.append_assoc], fun b hm => ?_⟩
    rcases List.mem_append.mp hm with hm | hm
    · exact hb b hm
    · cases h : H b with
      | none => rfl
      | some o =>
        obtain ⟨o', h'⟩ := e.live b o h
        rw [hc b hm] at h'; cases h'
  · obtain ⟨o', h'⟩ := e.live a o h
    exact f.live a o' h'
/-- how data move along -/
structure Mv (as : Mp) (H : Hp) (as' : Mp) (H' : Hp) : Prop where
  m : ∃ bs, as'.m = as.m ++ bs
  k : ∀ a o, H a = some o → a ∉ as → a ∉ as' ∧ H' a = some o
theorem Mv.at (l : Mv as H as' H') {n : Nat} {a : Addr} (h : as.m[n]? = some a) : as'.m[n]? = some a := by
  obtain ⟨bs, e⟩ := l.m
  rw [e, List.getElem?_append_left (List.getElem?_eq_some_iff.mp h).1]; exact h
theorem StT.mv (e : Mv as H as' H') {a : Addr} {xs : List V} (h : StT K as H a xs) : StT K as' H' a xs := h.imp (fun z => e.k _ _ z.2 z.1) id
theorem StF.mv (e : Mv as H as' H') {a : Addr} {xs : List V} (h : StF K as H a xs) : StF K as' H' a xs :=
  h.imp (fun ⟨n, o, z⟩ => let q := e.k _ _ z n; ⟨q.1, o, q.2⟩) id
mutual
theorem Rep.mv (e : Mv as H as' H') : ∀ {d : D} {v : V}, Rep K as H d v → Rep K as' H' d v
  | _, _, .non => .non
  | _, _, .bl b => .bl b
  | _, _, .int i => .int i
  | _, _, .str x => .str x
  | _, _, .tup s r => .tup (s.mv e) (Reps.mv e r)
  | _, _, .lst n h r => let q := e.k _ _ h n; .lst q.1 q.2 (Reps.mv e r)
  | _, _, .fro s r => .fro (s.mv e) (Reps.mv e r)
  | _, _, .dic n h r => let q := e.k _ _ h n; .dic q.1 q.2 (RepK.mv e r)
  | _, _, .ref h => .ref (e.at h)
  | _, _, .raw v => .raw v
theorem Reps.mv (e : Mv as H as' H') : ∀ {ds : List D} {vs : List V}, Reps K as H ds vs → Reps K as' H' ds vs
  | _, _, .nil => .nil
  | _, _, .cons r t => .cons (Rep.mv e r) (Reps.mv e t)
theorem RepK.mv (e : Mv as H as' H') : ∀ {ds : List (Key × D)} {vs : List (Key × V)}, RepK K as H ds vs → RepK K as' H' ds vs
  | _, _, .nil => .nil
  | _, _, .cons r t => .cons (Rep.mv e r) (RepK.mv e t)
end
theorem RepF.mv {κ : Type} (e : Mv as H as' H') : ∀ {ds : List (κ × D)} {vs : List (κ × V)}, RepF K as H ds vs → RepF K as' H' ds vs
  | _, _, .nil => .nil
  | _, _, .cons r t => .cons (r.mv e) (RepF.mv e t)
theorem RepO.mv (e : Mv as H as' H') : ∀ {o : Ob} {h : HO}, RepO K cl as H o h → RepO K cl as' H' o h
  | _, _, .lst r => .lst (r.mv e)
  | _, _, .dK r => .dK (r.mv e)
  | _, _, .dT r => .dT (r.mv e)
  | _, _, .ins r => .ins (r.mv e)
theorem Evo.mv (e : Evo as H as' H') : Mv as H as' H' := ⟨let ⟨bs, h, _⟩ := e.ext; ⟨bs, h⟩, fun a o h n => ⟨e.out h n, e.keep a o h n⟩⟩
theorem Evo.get (e : Evo as H as' H') {n : Nat} {a : Addr} (h : as.m[n]? = some a) : as'.m[n]? = some a := e.mv.at h
theorem Rep.evo (e : Evo as H as' H') {d : D} {v : V} (r : Rep K as H d v) : Rep K as' H' d v := r.mv e.mv
theorem Reps.evo (e : Evo as H as' H') {d : List D} {v : List V} (r : Reps K as H d v) : Reps K as' H' d v := r.mv e.mv
theorem RepF.evo {κ : Type} (e : Evo as H as' H') {ds : List (κ × D)} {vs : List (κ × V)} (r : RepF K as H ds vs) : RepF K as' H' ds vs := r.mv e.mv
theorem RepO.evo (e : Evo as H as' H') {o : Ob} {h : HO} (r : RepO K cl as H o h) : RepO K cl as' H' o h := r.mv e.mv
theorem Reps.len : ∀ {ds : List D} {vs : List V}, Reps K as H ds vs → ds.length = vs.length
  | _, _, .nil => rfl
  | _, _, .cons _ t => by rw [List.length_cons, List.length_cons, Reps.len t]
theorem Reps.get : ∀ {ds : List D} {vs : List V} {i : Nat} {d : D}, Reps K as H ds vs → ds[i]? = some d → ∃ v, vs[i]? = some v ∧ Rep K as H d v
  | _, _, _, _, .nil, e => by simp at e
  | _, _, 0, _, .cons r _, e => by simp at e; subst e; exact ⟨_, rfl, r⟩
  | _, _, i + 1, d, .cons _ t, e => by
    obtain ⟨v, h1, h2⟩ := Reps.get (i := i) (d := d) t (by simpa using e)
    exact ⟨v, by simpa using h1, h2⟩
theorem Reps.append : ∀ {ds es : List D} {vs ws : List V}, Reps K as H ds vs → Reps K as H es ws → Reps K as H (ds ++ es) (vs ++ ws)
  | _, _, _, _, .nil, s => s
  | _, _, _, _, .cons r t, s => .cons r (Reps.append t s)
theorem Reps.take : ∀ {ds : List D} {vs : List V} (n : Nat), Reps K as H ds vs → Reps K as H (ds.take n) (vs.take n)
  | _, _, 0, _ => .nil
  | _, _, _ + 1, .nil => .nil
  | _, _, n + 1, .cons r t => .cons r (Reps.take n t)
theorem Reps.drop : ∀ {ds : List D} {vs : List V} (n : Nat), Reps K as H ds vs → Reps K as H (ds.drop n) (vs.drop n)
  | _, _, 0, r => r
  | _, _, _ + 1, .nil => .nil
  | _, _, n + 1, .cons _ t => Reps.drop n t
theorem Reps.set {d : D} {v : V} (r : Rep K as H d v) : ∀ {ds : List D} {vs : List V} (i : Nat), Reps K as H ds vs → Reps K as H (ds.set i d) (vs.set i v)
  | _, _, _, .nil => .nil
  | _, _, 0, .cons _ t => .cons r t
  | _, _, i + 1, .cons q t => .cons q (Reps.set r i t)
theorem Reps.reverse : ∀ {ds : List D} {vs : List V}, Reps K as H ds vs → Reps K as H ds.reverse vs.reverse
  | _, _, .nil => .nil
  | _, _, .cons r t => by rw [List.reverse_cons, List.reverse_cons]; exact (Reps.reverse t).append (.cons r .nil)

/-! ### the names -/
structure RepE (K : PySem.W.Frag) (as : Mp) (H : Hp) (σ : En) (τ : L2.St) : Prop where
  len : σ.length = τ.length
  get : ∀ (i : Nat) (d : D), σ[i]? = some (some d) → ∃ v, τ[i]? = some (some v) ∧ Rep K as H d v
theorem RepE.mv {σ : En} {τ : L2.St} (e : Mv as H as' H') (r : RepE K as H σ τ) : RepE K as' H' σ τ :=
  ⟨r.len, fun i d h => let ⟨v, h1, h2⟩ := r.get i d h; ⟨v, h1, h2.mv e⟩⟩
theorem RepE.evo {σ : En} {τ : L2.St} (e : Evo as H as' H') (r : RepE K as H σ τ) : RepE K as' H' σ τ := r.mv e.mv
theorem RepE.set {σ : En} {τ : L2.St} {d : D} {v : V} (r : RepE K as H σ τ) (i : Nat) (q : Rep K as H d v) : RepE K as H (σ.set i (some d)) (τ.set i (some v)) := by
  refine ⟨by rw [List.length_set, List.length_set, r.len], fun j e h => ?_⟩
  by_cases hj : j = i
  · subst hj
    by_cases hl : j < σ.length
    · rw [List.getElem?_set_self hl] at h
      cases h
      exact ⟨v, List.getElem?_set_self (by rw [← r.len]; exact hl), q⟩
    · rw [List.getElem?_eq_none (by simpa using hl)] at h; cases h
  · rw [List.getElem?_set_ne (Ne.symm hj)] at h ⊢
    exact r.get j e h
theorem RepE.unset {σ : En} {τ : L2.St} (r : RepE K as H σ τ) (i : Nat) : RepE K as H (σ.set i none) (τ.set i none) := by
  refine ⟨by rw [List.length_set, List.length_set, r.len], fun j e h => ?_⟩
  by_cases hj : j = i
  · subst hj
    by_cases hl : j < σ.length
    · rw [List.getElem?_set_self hl] at h; cases h
    · rw [List.getElem?_eq_none (by simpa using hl)] at h; cases h
  · rw [List.getElem?_set_ne (Ne.symm hj)] at h ⊢
    exact r.get j e h
def wipeD (σ : En) : List Nat → En
  | [] => σ
  | v :: vs => (wipeD σ vs).set v none
theorem RepE.wipe {σ : En} {τ : L2.St} (r : RepE K as H σ τ) : ∀ vs : List Nat, RepE K as H (wipeD σ vs) (L2.wipe τ vs)
  | [] => r
  | v :: vs => (r.wipe vs).unset v
/-- the start -/
def startD (n : Nat) (ds : List D) : En := ds.map some ++ List.replicate (n - ds.length) none
theorem RepE.start {N : List Str} {ds : List D} {vs : List V} (r : Reps K as H ds vs) : RepE K as H (startD N.length ds) (L2.start N vs) := by
  have hl := r.len
  refine ⟨by unfold startD L2.start; simp [hl], fun i d h => ?_⟩
  unfold startD at h
  by_cases hi : i < ds.length
  · rw [List.getElem?_append_left (by simpa using hi), List.getElem?_map] at h
    cases e : ds[i]? with
    | none => rw [e] at h; cases h
    | some d' =>
      rw [e] at h; cases h
      obtain ⟨v, h1, h2⟩ := r.get e
      refine ⟨v, ?_, h2⟩
      unfold L2.start
      rw [List.getElem?_append_left (by simpa using (List.getElem?_eq_some_iff.mp h1).1), List.getElem?_map, h1]
      rfl
  · rw [List.getElem?_append_right (by simpa using hi), List.getElem?_replicate] at h
    split at h <;> cases h

/-! ### the store -/
variable {st st' : Sto}
theorem Wd.at (w : Wd K cl as st H) {n : Nat} {a : Addr} {o : Ob} (ha : as.m[n]? = some a) (ho : st[n]? = some o) : ∃ h, H a = some h ∧ RepO K cl as H o h := by
  obtain ⟨b, h, e, h1, h2⟩ := w.ob n o ho
  rw [ha] at e; cases e
  exact ⟨h, h1, h2⟩
theorem Wd.mv (w : Wd K cl as st H) (e : Mv as H as H') (l : ∀ a, a ∈ as.x → ∃ o, H' a = some o) (h : ∀ a, a ∈ as.m → H' a = H a) : Wd K cl as st H' :=
  ⟨w.len, w.nd, w.sep, l, fun n o ho => by
    obtain ⟨a, u, h1, h2, h3⟩ := w.ob n o ho
    exact ⟨a, u, h1, by rw [h a (List.mem_of_getElem? h1)]; exact h2, h3.mv e⟩⟩
/-- the addresses are known -/
theorem Wd.has (w : Wd K cl as st H) {a : Addr} (h : a ∈ as) : ∃ o, H a = some o := by
  rcases h with h | h
  · obtain ⟨n, hn, e⟩ := List.getElem_of_mem h
    have hl : n < st.length := by rw [← w.len]; exact hn
    obtain ⟨b, u, h1, h2, _⟩ := w.ob n _ (List.getElem?_eq_getElem hl)
    rw [List.getElem?_eq_getElem hn, e] at h1
    cases h1
    exact ⟨u, h2⟩
  · exact w.lv a h
theorem mem_m {n : Nat} {a : Addr} (h : as.m[n]? = some a) : a ∈ as := .inl (List.mem_of_getElem? h)
/-- a new thing that nobody changes -/
theorem Wd.ne (w : Wd K cl as st H) {p a : Addr} (hp : H p = none) (ha : a ∈ as) : a ≠ p := by
  obtain ⟨o, h⟩ := w.has ha
  exact ne_of_none h hp
theorem Evo.new (w : Wd K cl as st H) {p : Addr} {o : HO} (hp : H p = none) : Evo as H as (upd H p o) :=
  ⟨⟨[], by simp, by simp⟩, rfl, fun a ha => upd_ne (w.ne hp (.inr ha)), fun a u h _ => by rw [upd_ne (ne_of_none h hp)]; exact h, fun a u h => ⟨u, by rw [upd_ne (ne_of_none h hp)]; exact h⟩⟩
theorem Wd.new (w : Wd K cl as st H) {p : Addr} {o : HO} (hp : H p = none) : Wd K cl as st (upd H p o) :=
  w.mv (Evo.new w hp).mv (fun a ha => let ⟨o, h⟩ := w.lv a ha; ⟨o, by rw [upd_ne (w.ne hp (.inr ha))]; exact h⟩) fun a ha => upd_ne (w.ne hp (.inl ha))
theorem Wd.nin (w : Wd K cl as st H) {p : Addr} (hp : H p = none) : p ∉ as := fun z => by
  obtain ⟨u, h⟩ := w.has z
  rw [hp] at h; cases h
/-- a new object of the store -/
theorem Evo.push (w : Wd K cl as st H) {p : Addr} {o : HO} (hp : H p = none) : Evo as H (as.push p) (upd H p o) :=
  ⟨⟨[p], rfl, fun b hb => by rw [List.mem_singleton.mp hb]; exact hp⟩, rfl, fun a ha => upd_ne (w.ne hp (.inr ha)), fun a u h _ => by rw [upd_ne (ne_of_none h hp)]; exact h, fun a u h => ⟨u, by rw [upd_ne (ne_of_none h hp)]; exact h⟩⟩
theorem Wd.push (w : Wd K cl as st H) {p : Addr} {o : Ob} {h : HO} (hp : H p = none) (r : RepO K cl as H o h) : Wd K cl (as.push p) (st ++ [o]) (upd H p h) := by
  have e := Evo.push w (o := h) hp
  refine ⟨by simp [w.len], ?_, fun a ha => ?_, fun a ha => let ⟨o, h⟩ := w.lv a ha; e.live a o h, fun n ob hn => ?_⟩
  · rw [List.nodup_append]
    exact ⟨w.nd, by simp, fun a ha b hb z => w.nin hp (by rw [← List.mem_singleton.mp hb, ← z]; exact .inl ha)⟩
  · rcases List.mem_append.mp ha with ha | ha
    · exact w.sep a ha
    · rw [List.mem_singleton.mp ha]
      exact fun z => w.nin hp (.inr z)
  · by_cases hl : n < st.length
    · rw [List.getElem?_append_left hl] at hn
      obtain ⟨a, u, h1, h2, h3⟩ := w.ob n ob hn
      exact ⟨a, u, e.get h1, by rw [upd_ne (ne_of_none h2 hp)]; exact h2, h3.evo e⟩
    · rw [List.getElem?_append_right (by omega)] at hn
      have h0 : n - st.length = 0 := by
        rcases Nat.eq_zero_or_pos (n - st.length) with z | z
        · exact z
        · rw [List.getElem?_eq_none (by simp; omega)] at hn; cases hn
      rw [h0] at hn
      cases hn
      have hnn : n = as.m.length := by have := w.len; omega
      subst hnn
      exact ⟨p, h, by simp, upd_same, r.evo e⟩
/-- an object changed -/
theorem Evo.wr (w : Wd K cl as st H) {n : Nat} {a : Addr} {o : HO} (ha : as.m[n]? = some a) : Evo as H as (upd H a o) :=
  ⟨⟨[], by simp, by simp⟩, rfl, fun b hb => upd_ne fun z => w.sep a (List.mem_of_getElem? ha) (by rw [← z]; exact hb), fun b v hb n => by rw [upd_ne (fun z => n (by rw [z]; exact mem_m ha))]; exact hb, fun b v hb => by
    by_cases z : b = a
    · subst z; exact ⟨o, upd_same⟩
    · exact ⟨v, by rw [upd_ne z]; exact hb⟩⟩
theorem Wd.wr (w : Wd K cl as st H) {n : Nat} {a : Addr} {o : Ob} {h : HO} (ha : as.m[n]? = some a) (r : RepO K cl as H o h) : Wd K cl as (st.set n o) (upd H a h) := by
  obtain ⟨u, hu⟩ := w.has (mem_m ha)
  have e := Evo.wr w (o := h) ha
  refine ⟨by simp [w.len], w.nd, w.sep, fun a ha => let ⟨o, h⟩ := w.lv a ha; e.live a o h, fun m ob hm => ?_⟩
  by_cases hmn : m = n
  · subst hmn
    by_cases hl : m < st.length
    · rw [List.getElem?_set_self hl] at hm; cases hm
      exact ⟨a, h, ha, upd_same, r.evo e⟩
    · rw [List.getElem?_eq_none (by simpa using hl)] at hm; cases hm
  · rw [List.getElem?_set_ne (Ne.symm hmn)] at hm
    obtain ⟨b, v, h1, h2, h3⟩ := w.ob m ob hm
    refine ⟨b, v, h1, ?_, h3.evo e⟩
    rw [upd_ne ?_]; exact h2
    intro z
    subst z
    exact hmn (nd_ix w.nd h1 ha)
/-! ### a thing in the making -/
theorem Mv.side {p : Addr} {o : HO} (hp : p ∈ as) : Mv as H as (upd H p o) := ⟨⟨[], by simp⟩, fun a u h n => ⟨n, by rw [upd_ne fun z => n (by rw [z]; exact hp)]; exact h⟩⟩
theorem Wd.wrx (w : Wd K cl as st H) {a : Addr} {h : HO} (ha : a ∈ as.x) : Wd K cl as st (upd H a h) :=
  w.mv (Mv.side (.inr ha)) (fun b hb => by
    by_cases z : b = a
    · subst z; exact ⟨h, upd_same⟩
    · obtain ⟨o, q⟩ := w.lv b hb
      exact ⟨o, by rw [upd_ne z]; exact q⟩) fun b hb => upd_ne fun z => w.sep b hb (by rw [z]; exact ha)
theorem Mv.hide {p : Addr} {o : HO} (hp : H p = none) : Mv as H (as.hide p) (upd H p o) := ⟨⟨[], by simp⟩, fun a u h n => by
  have hne := ne_of_none h hp
  refine ⟨fun z => ?_, by rw [upd_ne hne]; exact h⟩
  rcases z with z | z
  · exact n (.inl z)
  · rcases List.mem_cons.mp z with z | z
    · exact hne z
    · exact n (.inr z)⟩
theorem Wd.hide {p : Addr} {o : HO} (hp : H p = none) (w : Wd K cl as st H) : Wd K cl (as.hide p) st (upd H p o) :=
  ⟨w.len, w.nd, fun a ha z => by
    rcases List.mem_cons.mp z with z | z
    · subst z; exact w.nin hp (.inl ha)
    · exact w.sep a ha z, fun a ha => by
    rcases List.mem_cons.mp ha with z | z
    · subst z; exact ⟨o, upd_same⟩
    · obtain ⟨u, h⟩ := w.lv a z
      exact ⟨u, by rw [upd_ne (ne_of_none h hp)]; exact h⟩, fun n b hb => by
    obtain ⟨a, u, h1, h2, h3⟩ := w.ob n b hb
    exact ⟨a, u, h1, by rw [upd_ne (ne_of_none h2 hp)]; exact h2, h3.mv (Mv.hide hp)⟩⟩
/-- the world around a thing at p that is being made, since H -/
structure Mk1 (as : Mp) (H : Hp) (p : Addr) (as' : Mp) (H' : Hp) : Prop where
  free : H p = none
  evo : Evo as H ⟨as'.m, as.x⟩ H'
  x : as'.x = p :: as.x
theorem Mk1.start (w : Wd K cl as st H) {p : Addr} {o : HO} (hp : H p = none) : Mk1 as H p (as.hide p) (upd H p o) := ⟨hp, Evo.new w hp, rfl⟩
theorem Mk1.next {p : Addr} (e : Mk1 as H p as' H') (f : Evo as' H' as'' H'') (w0 : Wd K cl as st H) : Mk1 as H p as'' H'' ∧ H'' p = H' p := by
  have hp : p ∈ as'.x := by rw [e.x]; exact List.mem_cons_self
  refine ⟨⟨e.free, ?_, by rw [f.exx, e.x]⟩, f.kx p hp⟩
  obtain ⟨bs, h1, h2⟩ := e.evo.ext
  obtain ⟨cs, h3, h4⟩ := f.ext
  have sx : ∀ a, a ∈ as.x → a ∈ as'.x := fun a ha => by rw [e.x]; exact List.mem_cons_of_mem _ ha
  refine ⟨⟨bs ++ cs, by show as''.m = _; rw [h3, show as'.m = as.m ++ bs from h1, List.append_assoc], fun b hb => ?_⟩, rfl, fun a ha => (f.kx a (sx a ha)).trans (e.evo.kx a ha), fun a o h n => ?_, fun a o h => ?_⟩
  · rcases List.mem_append.mp hb with z | z
    · exact h2 b z
    · cases h : H b with
      | none => rfl
      | some o =>
        obtain ⟨o', h'⟩ := e.evo.live b o h
        rw [h4 b z] at h'; cases h'
  · have q := e.evo.out h n
    refine f.keep a o (e.evo.keep a o h n) fun z => ?_
    rcases z with z | z
    · exact q (.inl z)
    · rw [e.x] at z
      rcases List.mem_cons.mp z with z | z
      · exact ne_of_none h e.free z
      · exact n (.inr z)
  · obtain ⟨o', h'⟩ := e.evo.live a o h
    exact f.live a o' h'
/-- the thing changes -/
theorem Mk1.set {p : Addr} {o : HO} (e : Mk1 as H p as' H') (w0 : Wd K cl as st H) : Mk1 as H p as' (upd H' p o) := by
  refine ⟨e.free, ⟨e.evo.ext, rfl, fun a ha => ?_, fun a u h n => ?_, fun a u h => ?_⟩, e.x⟩
  · rw [upd_ne (w0.ne e.free (.inr ha))]; exact e.evo.kx a ha
  · rw [upd_ne (ne_of_none h e.free)]; exact e.evo.keep a u h n
  · rw [upd_ne (ne_of_none h e.free)]; exact e.evo.live a u h
theorem Mk1.mv {p : Addr} (e : Mk1 as H p as' H') : Mv as' H' ⟨as'.m, as.x⟩ H' := ⟨⟨[], by simp⟩, fun a o h n => ⟨fun z => n (z.imp id fun z => by rw [e.x]; exact List.mem_cons_of_mem _ z), h⟩⟩
theorem Mk1.mem {p : Addr} (e : Mk1 as H p as' H') : p ∈ as'.x := by rw [e.x]; exact List.mem_cons_self
/-- in the end a thing that nobody changes -/
theorem Mk1.fix {p : Addr} (e : Mk1 as H p as' H') (w0 : Wd K cl as st H) (w : Wd K cl as' st' H') : Wd K cl ⟨as'.m, as.x⟩ st' H' ∧ p ∉ (⟨as'.m, as.x⟩ : Mp) := by
  have sx : ∀ a, a ∈ as.x → a ∈ as'.x := fun a ha => by rw [e.x]; exact List.mem_cons_of_mem _ ha
  refine ⟨⟨w.len, w.nd, fun a ha z => w.sep a ha (sx a z), fun a ha => w.lv a (sx a ha), fun n b hb => ?_⟩, fun z => ?_⟩
  · obtain ⟨a, u, h1, h2, h3⟩ := w.ob n b hb
    exact ⟨a, u, h1, h2, h3.mv e.mv⟩
  · rcases z with z | z
    · exact w.sep p z e.mem
    · exact w0.nin e.free (.inr z)
/-- in the end an object of the store -/
theorem Mk1.push {p : Addr} {b : Ob} {h : HO} (e : Mk1 as H p as' H') (w0 : Wd K cl as st H) (w : Wd K cl as' st' H') (hp : H' p = some h) (r : RepO K cl as' H' b h) :
    Evo as H ⟨as'.m ++ [p], as.x⟩ H' ∧ Wd K cl ⟨as'.m ++ [p], as.x⟩ (st' ++ [b]) H' := by
  have sx : ∀ a, a ∈ as.x → a ∈ as'.x := fun a ha => by rw [e.x]; exact List.mem_cons_of_mem _ ha
  have hm : p ∉ as'.m := fun z => w.sep p z e.mem
  have l : Mv as' H' (⟨as'.m ++ [p], as.x⟩ : Mp) H' := ⟨⟨[p], rfl⟩, fun a o h n => ⟨fun z => n (by
    rcases z with z | z
    · rcases List.mem_append.mp z with z | z
      · exact .inl z
      · rw [List.mem_singleton.mp z]; exact .inr e.mem
    · exact .inr (sx a z)), h⟩⟩
  refine ⟨⟨?_, rfl, e.evo.kx, e.evo.keep, e.evo.live⟩, ?_, ?_, ?_, ?_, ?_⟩
  · obtain ⟨bs, h1, h2⟩ := e.evo.ext
    refine ⟨bs ++ [p], by show as'.m ++ [p] = _; rw [show as'.m = as.m ++ bs from h1, List.append_assoc], fun b hb => ?_⟩
    rcases List.mem_append.mp hb with z | z
    · exact h2 b z
    · rw [List.mem_singleton.mp z]; exact e.free
  · show (as'.m ++ [p]).length = (st' ++ [b]).length
    simp [w.len]
  · show (as'.m ++ [p]).Nodup
    rw [List.nodup_append]
    exact ⟨w.nd, by simp, fun a ha c hc z => hm (by rw [← List.mem_singleton.mp hc, ← z]; exact ha)⟩
  · intro a ha
    rcases List.mem_append.mp (show a ∈ as'.m ++ [p] from ha) with z | z
    · exact fun q => w.sep a z (sx a q)
    · rw [List.mem_singleton.mp z]; exact fun q => w0.nin e.free (.inr q)
  · exact fun a ha => w.lv a (sx a ha)
  · intro n c hn
    by_cases hl : n < st'.length
    · rw [List.getElem?_append_left hl] at hn
      obtain ⟨a, u, h1, h2, h3⟩ := w.ob n c hn
      exact ⟨a, u, l.at h1, h2, h3.mv l⟩
    · rw [List.getElem?_append_right (by omega)] at hn
      have h0 : n - st'.length = 0 := by
        rcases Nat.eq_zero_or_pos (n - st'.length) with z | z
        · exact z
        · rw [List.getElem?_eq_none (by simp; omega)] at hn; cases hn
      rw [h0] at hn
      cases hn
      have hnn : n = as'.m.length := by have := w.len; omega
      subst hnn
      exact ⟨p, h, by simp, hp, r.mv l⟩
end
end DL

/-! DL2: readings of plain functions over data: lifts, and the rules for expressions, tests, statements, defs. -/
namespace DL
open PySem PySem.Spec PyProof.Rows L2

inductive Fl where
  | nx | rt (d : D) | bk | ct | ex (x : Exn)
abbrev DS := En → Sto → R (Fl × En)
/-- an expression within a statement -/
@[reducible] def R.stm {α : Type} (r : R α) (σ : En) (k : α → Sto → R (Fl × En)) : R (Fl × En) := match r with
  | .ok a st => k a st
  | .exc x st => .ok (.ex x, σ) st
  | .bad => .bad

section
variable {K : PySem.W.Frag} {cl : Cl} {as as' : Mp} {H H' : Hp} {st : Sto}
/-- an exception's object -/
def RepX (K : PySem.W.Frag) (cl : Cl) (as : Mp) (H : Hp) (x : Exn) (u : Value) (dx : Option Addr) : Prop :=
  u = .ref (cl x.cls) ∧ ((x.fs = [] ∧ dx = none) ∨ ∃ d fx, dx = some d ∧ d ∉ as ∧ H d = some (.xd fx) ∧ RepF K as H x.fs fx)
theorem RepX.evo {x : Exn} {u : Value} {dx : Option Addr} (e : Evo as H as' H') (r : RepX K cl as H x u dx) : RepX K cl as' H' x u dx := by
  obtain ⟨h, r⟩ := r
  refine ⟨h, r.imp id fun ⟨d, fx, h1, h2, h3, h4⟩ => ⟨d, fx, h1, e.out h3 h2, e.keep _ _ h3 h2, h4.evo e⟩⟩

/-- what is wanted behind a run -/
def Post {α : Type} (K : PySem.W.Frag) (cl : Cl) (E : XK) (as : Mp) (H : Hp) (r : R α) (Q : α → Sto → Mp → Hp → Prop) : Prop := match r with
  | .ok a st => ∀ as' H', Evo as H as' H' → Wd K cl as' st H' → Q a st as' H'
  | .exc x st => ∀ u dx as' H', Evo as H as' H' → Wd K cl as' st H' → RepX K cl as' H' x u dx → E u dx H'
  | .bad => False
theorem Post.evo {α : Type} {E : XK} {r : R α} {Q : α → Sto → Mp → Hp → Prop} (e : Evo as H as' H') (p : Post K cl E as H r Q) : Post K cl E as' H' r Q := by
  cases r with
  | ok a st => exact fun bs J f w => p bs J (e.trans f) w
  | exc x st => exact fun u dx bs J f w => p u dx bs J (e.trans f) w
  | bad => exact p
theorem Post.mono {α : Type} {E : XK} {r : R α} {Q Q' : α → Sto → Mp → Hp → Prop} (p : Post K cl E as H r Q)
    (h : ∀ a st as' H', Evo as H as' H' → Wd K cl as' st H' → Q a st as' H' → Q' a st as' H') : Post K cl E as H r Q' := by
  cases r with
  | ok a st => exact fun bs J f w => h _ _ _ _ f w (p bs J f w)
  | exc x st => exact p
  | bad => exact p
theorem Post.bind {α β : Type} {E : XK} {r : R α} {k : α → Sto → R β} {Q : β → Sto → Mp → Hp → Prop} (p : Post K cl E as H (r.bind k) Q) :
    Post K cl E as H r fun a st as' H' => Post K cl E as' H' (k a st) Q := by
  cases r with
  | ok a st => exact fun bs J f w => Post.evo f p
  | exc x st => exact p
  | bad => exact p
theorem Post.here {α : Type} {E : XK} {a : α} {Q : α → Sto → Mp → Hp → Prop} (p : Post K cl E as H (.ok a st) Q) (w : Wd K cl as st H) : Q a st as H := p as H .refl w
end

abbrev W0 : WX := fun _ _ _ _ => False
/-- a value's end -/
abbrev QV (K : PySem.W.Frag) (Q : VK) : D → Sto → Mp → Hp → Prop := fun d _ as H => ∀ v, Rep K as H d v → Q v H
def lift (K : PySem.W.Frag) (cl : Cl) (W : WX) (t : DE) : TE := fun σ H Q => ∃ as st τ, Wd K cl as st H ∧ RepE K as H τ σ ∧ Post K cl (WE W σ) as H (t τ st) (QV K Q)
def liftT (K : PySem.W.Frag) (cl : Cl) (W : WX) (t : DT) : TT := fun σ H Q => ∃ as st τ, Wd K cl as st H ∧ RepE K as H τ σ ∧ Post K cl (WE W σ) as H (t τ st) fun b _ _ H' => Q b H'
def liftA (K : PySem.W.Frag) (cl : Cl) (W : WX) (t : DA) : TA := fun σ H Q => ∃ as st τ, Wd K cl as st H ∧ RepE K as H τ σ ∧ Post K cl (WE W σ) as H (t τ st) fun ds _ as' H' => ∀ vs, Reps K as' H' ds vs → Q vs H'
def FlOk (K : PySem.W.Frag) (cl : Cl) (W : WX) (M : Ends) (as : Mp) (H : Hp) (τ : En) : Fl → Prop
  | .nx => ∀ σ, RepE K as H τ σ → M.nx σ H
  | .rt d => ∀ v, Rep K as H d v → M.rt v H
  | .bk => ∀ σ, RepE K as H τ σ → M.bk σ H
  | .ct => ∀ σ, RepE K as H τ σ → M.ct σ H
  | .ex x => ∀ σ u dx, RepE K as H τ σ → RepX K cl as H x u dx → W u dx σ H
abbrev E00 : XK := fun _ _ _ => False
def liftS (K : PySem.W.Frag) (cl : Cl) (W : WX) (t : DS) : TS := fun M σ H => ∃ as st τ, Wd K cl as st H ∧ RepE K as H τ σ ∧ Post K cl E00 as H (t τ st) fun r _ as' H' => FlOk K cl W M as' H' r.2 r.1

abbrev JE (X : Cx) (cl : Cl) (W : WX) (e : Expr) (t : DE) : Prop := PE X e (lift X.K cl W t)
abbrev JT (X : Cx) (cl : Cl) (W : WX) (e : Expr) (t : DT) : Prop := PT X e (liftT X.K cl W t)
abbrev JW (X : Cx) (cl : Cl) (W : WX) (e : Expr) (t : DT) : Prop := PW X e (liftT X.K cl W t)
abbrev JA (X : Cx) (cl : Cl) (W : WX) (es : List Expr) (t : DA) : Prop := PA X es (liftA X.K cl W t)
abbrev JS (X : Cx) (cl : Cl) (W : WX) (s : Stmt) (t : DS) : Prop := PS X s (liftS X.K cl W t)
abbrev JSs (X : Cx) (cl : Cl) (W : WX) (s : List Stmt) (t : DS) : Prop := PSs X s (liftS X.K cl W t)

section
variable {X : Cx}
theorem PE.mono {e : Expr} {t t' : TE} (h : PE X e t) (k : ∀ σ H Q, t' σ H Q → t σ H Q) : PE X e t' := ⟨fun pins s σ H Q I q => h.run pins s σ H Q I (k _ _ _ q)⟩
theorem PT.mono {e : Expr} {t t' : TT} (h : PT X e t) (k : ∀ σ H Q, t' σ H Q → t σ H Q) : PT X e t' := ⟨fun pins s σ H Q I q => h.run pins s σ H Q I (k _ _ _ q)⟩
theorem PW.mono {e : Expr} {t t' : TT} (h : PW X e t) (k : ∀ σ H Q, t' σ H Q → t σ H Q) : PW X e t' := ⟨fun wh pins s σ H Q I q => h.run wh pins s σ H Q I (k _ _ _ q)⟩
theorem PA.mono {e : List Expr} {t t' : TA} (h : PA X e t) (k : ∀ σ H Q, t' σ H Q → t σ H Q) : PA X e t' := ⟨fun pos pins s σ H Q I q => h.run pos pins s σ H Q I (k _ _ _ q)⟩
theorem PS.mono {e : Stmt} {t t' : TS} (h : PS X e t) (k : ∀ M σ H, t' M σ H → t M σ H) : PS X e t' := ⟨fun pins s σ H M I q => h.run pins s σ H M I (k _ _ _ q)⟩
theorem PSs.mono {e : List Stmt} {t t' : TS} (h : PSs X e t) (k : ∀ M σ H, t' M σ H → t M σ H) : PSs X e t' := ⟨fun pins s σ H M I q => h.run pins s σ H M I (k _ _ _ q)⟩
theorem PG.mono {e : Expr} {t t' : TG} (h : PG X e t) (k : ∀ v σ H Q, t' v σ H Q → t v σ H Q) : PG X e t' := ⟨fun pins s σ H v u Q I r q => h.run pins s σ H v u Q I r (k _ _ _ _ q)⟩
theorem OpR.mono {f : Value → Value → Sem Value} {r r' : R2} (h : OpR X f r) (k : ∀ x y H Q, r' x y H Q → r x y H Q) : OpR X f r' := fun pins s σ H x y v u Q I r1 r2 q => h pins s σ H x y v u Q I r1 r2 (k _ _ _ _ q)
theorem OpR.or {f : Value → Value → Sem Value} {r r' : R2} (h : OpR X f r) (h' : OpR X f r') : OpR X f (fun x y H Q => r x y H Q ∨ r' x y H Q) := fun pins s σ H x y v u Q I r1 r2 q =>
  q.elim (h pins s σ H x y v u Q I r1 r2) (h' pins s σ H x y v u Q I r1 r2)
theorem CallR.mono {f : Value} {r r' : List V → Hp → VK → Prop} (h : CallR X f r) (k : ∀ xs H Q, r' xs H Q → r xs H Q) : CallR X f r' := fun pins s σ H xs us Q I r q => h pins s σ H xs us Q I r (k _ _ _ q)
theorem IxR.mono {r r' : R2} (h : IxR X r) (k : ∀ x y H Q, r' x y H Q → r x y H Q) : IxR X r' := fun a b pins s σ H x y v u Q I r1 r2 q => h a b pins s σ H x y v u Q I r1 r2 (k _ _ _ _ q)
theorem PI.mono {tg e : Expr} {t t' : TI} (h : PI X tg e t) (k : ∀ σ H R, t' σ H R → t σ H R) : PI X tg e t' := ⟨fun pins s σ H R I q => h.run pins s σ H R I (k _ _ _ q)⟩
end

/-! ### names, constants -/
def dVar (i : Nat) : DE := fun τ st => match τ[i]? with
  | some (some d) => .ok d st
  | _ => .bad
def dC (d : D) : DE := fun _ st => .ok d st
section
variable {X : Cx} {cl : Cl} {W : WX} {pos : Pos}
theorem j_var {i : Nat} {e : Expr} (h : PE X e (tVar i)) : JE X cl W e (dVar i) := PE.mono h fun σ H Q ⟨as, st, τ, w, e, p⟩ => by
  unfold dVar at p
  split at p
  · rename_i d hd
    obtain ⟨v, h1, h2⟩ := e.get i d hd
    exact ⟨v, h1, Post.here p w v h2⟩
  · exact p.elim
theorem j_c {e : Expr} {d : D} {v : V} (h : PE X e (tC v)) (r : ∀ as H, Rep X.K as H d v) : JE X cl W e (dC d) := PE.mono h fun σ H Q ⟨as, st, τ, w, e, p⟩ => Post.here p w v (r as H)
theorem j_int {i j} : JE X cl W (.Constant (.int i) j pos) (dC (.int i)) := j_c pe_int fun _ _ => .int i
theorem j_bl {b j} : JE X cl W (.Constant (.bool b) j pos) (dC (.bl b)) := j_c pe_bl fun _ _ => .bl b
theorem j_non {j} : JE X cl W (.Constant .none j pos) (dC .non) := j_c pe_non fun _ _ => .non
theorem j_str {x j} : JE X cl W (.Constant (.str x) j pos) (dC (.str x)) := j_c pe_str fun _ _ => .str x
end

/-! ### operations on two values -/
abbrev D2 := D → D → Sto → R D
def liftR (K : PySem.W.Frag) (cl : Cl) (E : XK) (r : D2) : R2 := fun x y H Q => ∃ as st dx dy, Wd K cl as st H ∧ Rep K as H dx x ∧ Rep K as H dy y ∧ Post K cl E as H (r dx dy st) (QV K Q)
def dBin (r : D2) (ta tb : DE) : DE := fun τ st => (ta τ st).bind fun x st => (tb τ st).bind fun y st => r x y st
/-- the rule of an operator, whatever is wished for exceptions -/
def OpJ (X : Cx) (cl : Cl) (f : Value → Value → Sem Value) (r : D2) : Prop := ∀ E : XK, OpR X f (liftR X.K cl E r)
section
variable {X : Cx} {cl : Cl} {W : WX} {pos : Pos} {a b c : Expr} {ta tb tc : DE}
theorem lift_bin {r : D2} {σ : L2.St} {H : Hp} {Q : VK} (h : lift X.K cl W (dBin r ta tb) σ H Q) : tOp (liftR X.K cl (WE W σ) r) (lift X.K cl W ta) (lift X.K cl W tb) σ H Q := by
  obtain ⟨as, st, τ, w, e, p⟩ := h
  refine ⟨as, st, τ, w, e, p.bind.mono fun d st1 as1 H1 e1 w1 p1 x rx => ⟨as1, st1, τ, w1, e.evo e1, p1.bind.mono fun d2 st2 as2 H2 e2 w2 p2 y ry => ?_⟩⟩
  exact ⟨as2, st2, d, d2, w2, rx.evo e2, ry, p2⟩
/-- an operator's rule at a wish that hangs on the slots -/
theorem pe_opS {op : Operator} {r : L2.St → R2} {t1 t2 : TE} (ho : ∀ σ, OpR X (binaryOp op) (r σ)) (ha : PE X a t1) (hb : PE X b t2) : PE X (.BinOp a op b pos) (fun σ H Q => tOp (r σ) t1 t2 σ H Q) :=
  ⟨fun pins s σ H Q I h => (pe_op (pos := pos) (ho σ) ha hb).run pins s σ H Q I h⟩
theorem j_op {op : Operator} {r : D2} (ho : OpJ X cl (binaryOp op) r) (ha : JE X cl W a ta) (hb : JE X cl W b tb) : JE X cl W (.BinOp a op b pos) (dBin r ta tb) :=
  PE.mono (pe_opS (fun σ => ho (WE W σ)) ha hb) fun _ _ _ h => lift_bin h
theorem pe_cmpS {op : CmpOp} {r : L2.St → R2} {t1 t2 : TE} (ho : ∀ σ, OpR X (compareOp op) (r σ)) (ha : PE X a t1) (hb : PE X b t2) (hm : behindInMarks op b = false) : PE X (.Compare a [op] [b] pos) (fun σ H Q => tOp (r σ) t1 t2 σ H Q) :=
  ⟨fun pins s σ H Q I h => (pe_cmpR (pos := pos) (ho σ) ha hb hm).run pins s σ H Q I h⟩
theorem j_cmp {op : CmpOp} {r : D2} (ho : OpJ X cl (compareOp op) r) (ha : JE X cl W a ta) (hb : JE X cl W b tb) (hm : behindInMarks op b = false) : JE X cl W (.Compare a [op] [b] pos) (dBin r ta tb) :=
  PE.mono (pe_cmpS (fun σ => ho (WE W σ)) ha hb hm) fun _ _ _ h => lift_bin h
theorem pt_cmpS {op : CmpOp} {r : L2.St → R2} {t1 t2 : TE} (ho : ∀ σ, OpR X (compareOp op) (r σ)) (ha : PE X a t1) (hb : PE X b t2) (hm : behindInMarks op b = false) : PT X (.Compare a [op] [b] pos) (fun σ H Q => tTest (tOp (r σ) t1 t2) σ H Q) :=
  ⟨fun pins s σ H Q I h => (pt_cmpR (pos := pos) (ho σ) ha hb hm).run pins s σ H Q I h⟩
/-- a value that is a truth -/
@[reducible] def R.tru (r : R D) : R Bool := r.bind fun d st => match d with
  | .bl b => .ok b st
  | _ => .bad
def dTst (t : DE) : DT := fun τ st => (t τ st).tru
theorem j_tcmp {op : CmpOp} {r : D2} (ho : OpJ X cl (compareOp op) r) (ha : JE X cl W a ta) (hb : JE X cl W b tb) (hm : behindInMarks op b = false) : JT X cl W (.Compare a [op] [b] pos) (dTst (dBin r ta tb)) := by
  refine PT.mono (pt_cmpS (fun σ => ho (WE W σ)) ha hb hm) fun σ H Q ⟨as, st, τ, w, e, p⟩ => ?_
  show tOp _ _ _ σ H _
  refine lift_bin ⟨as, st, τ, w, e, p.bind.mono fun d st1 as1 H1 e1 w1 p1 v rv => ?_⟩
  cases d with
  | bl b => cases rv; exact ⟨b, rfl, p1.here w1⟩
  | _ => exact p1.elim
end

/-! ### tests -/
/-- a value's truth -/
def truD (d : D) (st : Sto) : Option Bool := match d with
  | .non => some false
  | .bl b => some b
  | .int i => some (i != 0)
  | .str y => if y.length ≤ sizeLine then some ((y.length : Int) != 0) else none
  | .tup ds => some (!ds.isEmpty)
  | .lst ds => some (!ds.isEmpty)
  | .fro ds => some (!ds.isEmpty)
  | .dic kvs => some (!kvs.isEmpty)
  | .ref n => match st[n]? with
    | some (.lst ds) => some (!ds.isEmpty)
    | some (.dK kvs) => some (!kvs.isEmpty)
    | _ => none
  | .raw _ => none
@[reducible] def R.opt {α : Type} (o : Option α) (st : Sto) : R α := match o with
  | some a => .ok a st
  | none => .bad
def dTru (t : DE) : DT := fun τ st => (t τ st).bind fun d st => R.opt (truD d st) st
theorem isEmpty_len {α β : Type} {l : List α} {m : List β} (h : l.length = m.length) : l.isEmpty = m.isEmpty := by
  cases l <;> cases m <;> first | rfl | cases h
theorem RepF.len {K : PySem.W.Frag} {as : Mp} {H : Hp} {κ : Type} : ∀ {ds : List (κ × D)} {vs : List (κ × V)}, RepF K as H ds vs → ds.length = vs.length
  | _, _, .nil => rfl
  | _, _, .cons _ t => by rw [List.length_cons, List.length_cons, RepF.len t]
theorem RepK.f {K : PySem.W.Frag} {as : Mp} {H : Hp} : ∀ {ds : List (Key × D)} {vs : List (Key × V)}, RepK K as H ds vs → RepF K as H ds vs
  | _, _, .nil => .nil
  | _, _, .cons r t => .cons r (RepK.f t)
theorem RepF.k {K : PySem.W.Frag} {as : Mp} {H : Hp} : ∀ {ds : List (Key × D)} {vs : List (Key × V)}, RepF K as H ds vs → RepK K as H ds vs
  | _, _, .nil => .nil
  | _, _, .cons r t => .cons r (RepF.k t)
section
variable {X : Cx} {cl : Cl} {W : WX} {pos : Pos} {a b c : Expr} {ta tb tc : DE} {ua ub : DT} {rest : List Expr}
theorem truD_ok {as : Mp} {st : Sto} {H : Hp} {d : D} {v : V} {k : Bool} (w : Wd X.K cl as st H) (r : Rep X.K as H d v) (h : truD d st = some k) : TruV X.K v H k := by
  cases r with
  | non => cases h; exact rfl
  | bl b => cases h; exact rfl
  | int i => cases h; exact rfl
  | str y =>
    have h : (if y.length ≤ sizeLine then some ((y.length : Int) != 0) else none) = some k := h
    by_cases hy : y.length ≤ sizeLine
    · rw [if_pos hy] at h; cases h; exact ⟨hy, rfl⟩
    · rw [if_neg hy] at h; cases h
  | tup s r => cases h; exact .inr (.inl ⟨_, s.t, by rw [isEmpty_len r.len]⟩)
  | lst n h1 r => cases h; exact .inl ⟨_, .of h1, by rw [isEmpty_len r.len]⟩
  | fro s r => cases h; exact .inl ⟨_, s.l, by rw [isEmpty_len r.len]⟩
  | dic n h1 r => cases h; exact .inr (.inr ⟨_, h1, by rw [isEmpty_len r.f.len]⟩)
  | @ref n a h1 =>
    have h : (match st[n]? with | some (.lst ds) => some (!ds.isEmpty) | some (.dK kvs) => some (!kvs.isEmpty) | _ => none) = some k := h
    cases hs : st[n]? with
    | none => rw [hs] at h; cases h
    | some o =>
      rw [hs] at h
      obtain ⟨ho, h2, h3⟩ := w.at h1 hs
      cases h3 with
      | lst r => cases h; exact .inl ⟨_, .of h2, by rw [isEmpty_len r.len]⟩
      | dK r => cases h; exact .inr (.inr ⟨_, h2, by rw [isEmpty_len r.len]⟩)
      | dT r => cases h
      | ins r => cases h
  | raw => cases h
theorem j_tru (ha : JE X cl W a ta) (he : ∀ whole, isTrue a X.env whole = (do let v ← whole; standAt a.pos; holding [v] (truthy v))) : JT X cl W a (dTru ta) := by
  refine PT.mono (pt_truth ha he) fun σ H Q ⟨as, st, τ, w, e, p⟩ => ⟨as, st, τ, w, e, p.bind.mono fun d st1 as1 H1 e1 w1 p1 v rv => ?_⟩
  cases h : truD d st1 with
  | none => rw [h] at p1; exact p1.elim
  | some k => rw [h] at p1; exact ⟨k, truD_ok w1 rv h, p1.here w1⟩
def dNotT (t : DT) : DT := fun τ st => (t τ st).bind fun b st => .ok (!b) st
def dAndT (t u : DT) : DT := fun τ st => (t τ st).bind fun b st => if b = true then u τ st else .ok false st
def dOrT (t u : DT) : DT := fun τ st => (t τ st).bind fun b st => if b = true then .ok true st else u τ st
theorem liftT_not {σ : L2.St} {H : Hp} {Q : Bool → Hp → Prop} (h : liftT X.K cl W (dNotT ua) σ H Q) : tNot (liftT X.K cl W ua) σ H Q := by
  obtain ⟨as, st, τ, w, e, p⟩ := h
  exact ⟨as, st, τ, w, e, p.bind.mono fun d st1 as1 H1 e1 w1 p1 => p1.here w1⟩
theorem liftT_and {σ : L2.St} {H : Hp} {Q : Bool → Hp → Prop} (h : liftT X.K cl W (dAndT ua ub) σ H Q) : tAnd (liftT X.K cl W ua) (liftT X.K cl W ub) σ H Q := by
  obtain ⟨as, st, τ, w, e, p⟩ := h
  refine ⟨as, st, τ, w, e, p.bind.mono fun d st1 as1 H1 e1 w1 p1 => ?_⟩
  cases d with
  | true => exact ⟨as1, st1, τ, w1, e.evo e1, p1⟩
  | false => exact p1.here w1
theorem liftT_or {σ : L2.St} {H : Hp} {Q : Bool → Hp → Prop} (h : liftT X.K cl W (dOrT ua ub) σ H Q) : tOr (liftT X.K cl W ua) (liftT X.K cl W ub) σ H Q := by
  obtain ⟨as, st, τ, w, e, p⟩ := h
  refine ⟨as, st, τ, w, e, p.bind.mono fun d st1 as1 H1 e1 w1 p1 => ?_⟩
  cases d with
  | false => exact ⟨as1, st1, τ, w1, e.evo e1, p1⟩
  | true => exact p1.here w1
theorem j_tnot (ha : JT X cl W a ua) : JT X cl W (.UnaryOp .Not a pos) (dNotT ua) := PT.mono (pt_not ha) fun _ _ _ h => liftT_not h
theorem j_and1 (ha : JT X cl W a ua) : JW X cl W (.BoolOp .And [a] pos) ua := pw_and1 ha
theorem j_or1 (ha : JT X cl W a ua) : JW X cl W (.BoolOp .Or [a] pos) ua := pw_or1 ha
theorem j_and (ha : JT X cl W a ua) (hb : JW X cl W (.BoolOp .And (b :: rest) pos) ub) : JW X cl W (.BoolOp .And (a :: b :: rest) pos) (dAndT ua ub) := PW.mono (pw_and ha hb) fun _ _ _ h => liftT_and h
theorem j_or (ha : JT X cl W a ua) (hb : JW X cl W (.BoolOp .Or (b :: rest) pos) ub) : JW X cl W (.BoolOp .Or (a :: b :: rest) pos) (dOrT ua ub) := PW.mono (pw_or ha hb) fun _ _ _ h => liftT_or h
theorem j_w (h : JW X cl W a ua) : JT X cl W a ua := h.pt
/-- as values: all but the last are truths -/
def dAndV (t u : DE) : DE := fun τ st => (t τ st).tru.bind fun b st => if b = true then u τ st else .ok (.bl false) st
def dOrV (t u : DE) : DE := fun τ st => (t τ st).tru.bind fun b st => if b = true then .ok (.bl true) st else u τ st
def dNotV (t : DE) : DE := fun τ st => (t τ st).tru.bind fun b st => .ok (.bl (!b)) st
theorem Post.tru {K : PySem.W.Frag} {E : XK} {as : Mp} {H : Hp} {r : R D} {Q : Bool → Sto → Mp → Hp → Prop} (p : Post K cl E as H r.tru Q) :
    Post K cl E as H r fun d st as' H' => ∃ b, d = .bl b ∧ Q b st as' H' := p.bind.mono fun d st as' H' e w p1 => by
  cases d with
  | bl b => exact ⟨b, rfl, p1.here w⟩
  | _ => exact p1.elim
theorem j_vone {op} (h : JE X cl W a ta) : JE X cl W (.BoolOp op [a] pos) ta := pe_one h
theorem j_vand (ha : JE X cl W a ta) (hb : JE X cl W (.BoolOp .And (b :: rest) pos) tb) : JE X cl W (.BoolOp .And (a :: b :: rest) pos) (dAndV ta tb) := by
  refine PE.mono (pe_and ha hb) fun σ H Q ⟨as, st, τ, w, e, p⟩ => ⟨as, st, τ, w, e, p.bind.tru.mono fun d st1 as1 H1 e1 w1 ⟨k, hk, p1⟩ v rv => ?_⟩
  subst hk
  cases rv
  refine ⟨k, rfl, ?_⟩
  cases k with
  | true => exact ⟨as1, st1, τ, w1, e.evo e1, p1⟩
  | false => exact p1.here w1 _ (.bl false)
theorem j_vor (ha : JE X cl W a ta) (hb : JE X cl W (.BoolOp .Or (b :: rest) pos) tb) : JE X cl W (.BoolOp .Or (a :: b :: rest) pos) (dOrV ta tb) := by
  refine PE.mono (pe_or ha hb) fun σ H Q ⟨as, st, τ, w, e, p⟩ => ⟨as, st, τ, w, e, p.bind.tru.mono fun d st1 as1 H1 e1 w1 ⟨k, hk, p1⟩ v rv => ?_⟩
  subst hk
  cases rv
  refine ⟨k, rfl, ?_⟩
  cases k with
  | false => exact ⟨as1, st1, τ, w1, e.evo e1, p1⟩
  | true => exact p1.here w1 _ (.bl true)
theorem j_vnot (ha : JE X cl W a ta) : JE X cl W (.UnaryOp .Not a pos) (dNotV ta) := by
  refine PE.mono (pe_not ha) fun σ H Q ⟨as, st, τ, w, e, p⟩ => ⟨as, st, τ, w, e, p.bind.tru.mono fun d st1 as1 H1 e1 w1 ⟨k, hk, p1⟩ v rv => ?_⟩
  subst hk
  cases rv
  exact ⟨k, rfl, p1.here w1 _ (.bl _)⟩
def dIf (t : DT) (u v : DE) : DE := fun τ st => (t τ st).bind fun b st => if b = true then u τ st else v τ st
theorem j_if (hc : JT X cl W c ua) (ha : JE X cl W a ta) (hb : JE X cl W b tb) : JE X cl W (.IfExp c a b pos) (dIf ua ta tb) := by
  refine PE.mono (pe_ifExp hc ha hb) fun σ H Q ⟨as, st, τ, w, e, p⟩ => ⟨as, st, τ, w, e, p.bind.mono fun d st1 as1 H1 e1 w1 p1 => ?_⟩
  cases d with
  | true => exact ⟨as1, st1, τ, w1, e.evo e1, p1⟩
  | false => exact ⟨as1, st1, τ, w1, e.evo e1, p1⟩
/-- a op1 b op2 c -/
def dChain (r r' : D2) (ta tb tc : DE) : DE := fun τ st => (ta τ st).bind fun x st => (tb τ st).bind fun y st => (r x y st).tru.bind fun k st => if k = true then (tc τ st).bind fun z st => r' y z st else .ok (.bl false) st
theorem lift_chain {r r' : D2} {σ : L2.St} {H : Hp} {Q : VK} (h : lift X.K cl W (dChain r r' ta tb tc) σ H Q) :
    tChain (liftR X.K cl (WE W σ) r) (liftR X.K cl (WE W σ) r') (lift X.K cl W ta) (lift X.K cl W tb) (lift X.K cl W tc) σ H Q := by
  obtain ⟨as, st, τ, w, e, p⟩ := h
  refine ⟨as, st, τ, w, e, p.bind.mono fun d1 st1 as1 H1 e1 w1 p1 x rx => ⟨as1, st1, τ, w1, e.evo e1, p1.bind.mono fun d2 st2 as2 H2 e2 w2 p2 y ry => ?_⟩⟩
  refine ⟨as2, st2, d1, d2, w2, rx.evo e2, ry, p2.bind.tru.mono fun d3 st3 as3 H3 e3 w3 ⟨k, hk, p3⟩ z rz => ?_⟩
  subst hk
  cases rz
  refine ⟨k, rfl, ?_⟩
  cases k with
  | false => exact p3.here w3 _ (.bl _)
  | true =>
    show lift _ _ _ _ _ _ _
    refine ⟨as3, st3, τ, w3, ((e.evo e1).evo e2).evo e3, Post.mono (Post.bind p3) fun d4 st4 as4 H4 e4 w4 p4 z rz => ⟨as4, st4, d2, d4, w4, (ry.evo e3).evo e4, rz, p4⟩⟩
theorem pe_chainS {op op' : CmpOp} {r r' : L2.St → R2} {t1 t2 t3 : TE} (ho : ∀ σ, OpR X (compareOp op) (r σ)) (ho' : ∀ σ, OpR X (compareOp op') (r' σ)) (ha : PE X a t1) (hb : PE X b t2) (hc : PE X c t3)
    (hm : lastMarks [op, op'] [b, c] = false) : PE X (.Compare a [op, op'] [b, c] pos) (fun σ H Q => tChain (r σ) (r' σ) t1 t2 t3 σ H Q) :=
  ⟨fun pins s σ H Q I h => (pe_chain (pos := pos) (ho σ) (ho' σ) ha hb hc hm).run pins s σ H Q I h⟩
theorem pt_chainS {op op' : CmpOp} {r r' : L2.St → R2} {t1 t2 t3 : TE} (ho : ∀ σ, OpR X (compareOp op) (r σ)) (ho' : ∀ σ, OpR X (compareOp op') (r' σ)) (ha : PE X a t1) (hb : PE X b t2) (hc : PE X c t3)
    (hm : lastMarks [op, op'] [b, c] = false) : PT X (.Compare a [op, op'] [b, c] pos) (fun σ H Q => tTest (tChain (r σ) (r' σ) t1 t2 t3) σ H Q) :=
  ⟨fun pins s σ H Q I h => (pt_chain (pos := pos) (ho σ) (ho' σ) ha hb hc hm).run pins s σ H Q I h⟩
theorem j_chain {op op' : CmpOp} {r r' : D2} (ho : OpJ X cl (compareOp op) r) (ho' : OpJ X cl (compareOp op') r') (ha : JE X cl W a ta) (hb : JE X cl W b tb) (hc : JE X cl W c tc) (hm : lastMarks [op, op'] [b, c] = false := by with_unfolding_all rfl) :
    JE X cl W (.Compare a [op, op'] [b, c] pos) (dChain r r' ta tb tc) := PE.mono (pe_chainS (fun σ => ho (WE W σ)) (fun σ => ho' (WE W σ)) ha hb hc hm) fun _ _ _ h => lift_chain h
theorem j_tchain {op op' : CmpOp} {r r' : D2} (ho : OpJ X cl (compareOp op) r) (ho' : OpJ X cl (compareOp op') r') (ha : JE X cl W a ta) (hb : JE X cl W b tb) (hc : JE X cl W c tc) (hm : lastMarks [op, op'] [b, c] = false := by with_unfolding_all rfl) :
    JT X cl W (.Compare a [op, op'] [b, c] pos) (dTst (dChain r r' ta tb tc)) := by
  refine PT.mono (pt_chainS (fun σ => ho (WE W σ)) (fun σ => ho' (WE W σ)) ha hb hc hm) fun σ H Q ⟨as, st, τ, w, e, p⟩ => ?_
  show tChain _ _ _ _ _ σ H _
  refine lift_chain ⟨as, st, τ, w, e, p.tru.mono fun d st1 as1 H1 e1 w1 ⟨k, hk, p1⟩ v rv => ?_⟩
  subst hk
  cases rv
  exact ⟨k, rfl, p1⟩
end

/-! ### lists of expressions -/
def dNil : DA := fun _ st => .ok [] st
def dCons (t : DE) (u : DA) : DA := fun τ st => (t τ st).bind fun d st => (u τ st).bind fun ds st => .ok (d :: ds) st
section
variable {X : Cx} {cl : Cl} {W : WX} {pos : Pos} {e : Expr} {es : List Expr} {te : DE} {t : DA}
theorem ja_nil : JA X cl W [] dNil := PA.mono pa_nil fun σ H Q ⟨as, st, τ, w, e, p⟩ => p.here w _ .nil
theorem ja_cons (he : JE X cl W e te) (hr : JA X cl W es t) (hs : starEach (e :: es) X.env = (false, eval e X.env) :: starEach es X.env := by rfl) : JA X cl W (e :: es) (dCons te t) := by
  refine PA.mono (pa_cons he hr hs) fun σ H Q ⟨as, st, τ, w, e, p⟩ => ⟨as, st, τ, w, e, p.bind.mono fun d st1 as1 H1 e1 w1 p1 x rx => ⟨as1, st1, τ, w1, e.evo e1, p1.bind.mono fun ds st2 as2 H2 e2 w2 p2 xs rxs => ?_⟩⟩
  exact p2.here w2 _ (.cons (rx.evo e2) rxs)
def dTup (t : DA) : DE := fun τ st => (t τ st).bind fun ds st => if ds.length ≤ sizeLine then .ok (.tup ds) st else .bad
def dLst (t : DA) : DE := fun τ st => (t τ st).bind fun ds st => if ds.length ≤ sizeLine then .ok (.lst ds) st else .bad
/-- a list that will change -/
def dNew (t : DA) : DE := fun τ st => (t τ st).bind fun ds st => if ds.length ≤ sizeLine then .ok (.ref st.length) (st ++ [.lst ds]) else .bad
theorem Rep.newT {K : PySem.W.Frag} {as : Mp} {st : Sto} {H : Hp} {p : Addr} {ds : List D} {xs : List V} (w : Wd K cl as st H) (hp : H p = none) (r : Reps K as H ds xs) : Rep K as (upd H p (.tup xs)) (.tup ds) (.ref p) :=
  .tup (.inl ⟨w.nin hp, upd_same⟩) (r.evo (Evo.new w hp))
theorem Rep.newL {K : PySem.W.Frag} {as : Mp} {st : Sto} {H : Hp} {p : Addr} {ds : List D} {xs : List V} (w : Wd K cl as st H) (hp : H p = none) (r : Reps K as H ds xs) : Rep K as (upd H p (.lst xs)) (.lst ds) (.ref p) :=
  .lst (w.nin hp) upd_same (r.evo (Evo.new w hp))
theorem Rep.newRef {K : PySem.W.Frag} {as : Mp} {st : Sto} {H H2 : Hp} {p : Addr} (w : Wd K cl as st H) : Rep K (as.push p) H2 (.ref st.length) (.ref p) :=
  .ref (by rw [← w.len]; simp)
theorem j_tup {k} (h : JA X cl W es t) : JE X cl W (.Tuple es k pos) (dTup t) := by
  refine PE.mono (pe_tup h) fun σ H Q ⟨as, st, τ, w, e, p⟩ => ⟨as, st, τ, w, e, p.bind.mono fun ds st1 as1 H1 e1 w1 p1 xs rx => ?_⟩
  by_cases hl : ds.length ≤ sizeLine
  · rw [if_pos hl] at p1
    exact ⟨by rw [← rx.len]; exact hl, fun a ha => p1 as1 _ (Evo.new w1 ha) (w1.new ha) _ (Rep.newT w1 ha rx)⟩
  · rw [if_neg hl] at p1; exact p1.elim
theorem j_lst (h : JA X cl W es t) : JE X cl W (.List es pos) (dLst t) := by
  refine PE.mono (pe_lst h) fun σ H Q ⟨as, st, τ, w, e, p⟩ => ⟨as, st, τ, w, e, p.bind.mono fun ds st1 as1 H1 e1 w1 p1 xs rx => ?_⟩
  by_cases hl : ds.length ≤ sizeLine
  · rw [if_pos hl] at p1
    exact ⟨by rw [← rx.len]; exact hl, fun a ha => p1 as1 _ (Evo.new w1 ha) (w1.new ha) _ (Rep.newL w1 ha rx)⟩
  · rw [if_neg hl] at p1; exact p1.elim
theorem j_new (h : JA X cl W es t) : JE X cl W (.List es pos) (dNew t) := by
  refine PE.mono (pe_lst h) fun σ H Q ⟨as, st, τ, w, e, p⟩ => ⟨as, st, τ, w, e, p.bind.mono fun ds st1 as1 H1 e1 w1 p1 xs rx => ?_⟩
  by_cases hl : ds.length ≤ sizeLine
  · rw [if_pos hl] at p1
    exact ⟨by rw [← rx.len]; exact hl, fun a ha => p1 _ _ (Evo.push w1 ha) (w1.push ha (.lst rx)) _ (Rep.newRef w1)⟩
  · rw [if_neg hl] at p1; exact p1.elim
end

/-! ### statements -/
def dNext : DS := fun τ st => .ok (.nx, τ) st
def dSeq (t u : DS) : DS := fun τ st => (t τ st).bind fun r st => match r with
  | (.nx, τ) => u τ st
  | r => .ok r st
def dRet (t : DE) : DS := fun τ st => (t τ st).stm τ fun d st => .ok (.rt d, τ) st
def dRetN : DS := fun τ st => .ok (.rt .non, τ) st
def dDrop (t : DE) : DS := fun τ st => (t τ st).stm τ fun _ st => .ok (.nx, τ) st
def dBreak : DS := fun τ st => .ok (.bk, τ) st
def dCont : DS := fun τ st => .ok (.ct, τ) st
def dIfS (c : DT) (t u : DS) : DS := fun τ st => (c τ st).stm τ fun b st => if b = true then t τ st else u τ st
def dNever : DS := fun _ _ => .bad
section
variable {X : Cx} {cl : Cl} {W : WX} {pos : Pos} {e : Expr} {te : DE} {t u : DS} {s : Stmt} {rest body : List Stmt} {c : DT}
theorem Post.stm {α : Type} {K : PySem.W.Frag} {as : Mp} {H : Hp} {σ : L2.St} {τ : En} {r : R α} {k : α → Sto → R (Fl × En)} {M : Ends} (e : RepE K as H τ σ)
    (p : Post K cl E00 as H (r.stm τ k) fun r _ as' H' => FlOk K cl W M as' H' r.2 r.1) :
    Post K cl (WE W σ) as H r fun a st as' H' => Post K cl E00 as' H' (k a st) fun r _ as' H' => FlOk K cl W M as' H' r.2 r.1 := by
  cases r with
  | ok a st => exact fun bs J f w => Post.evo f p
  | exc x st => exact fun u dx bs J f w rx => p bs J f w σ u dx (e.evo f) rx
  | bad => exact p
theorem js_nil : JSs X cl W [] dNext := PSs.mono pss_nil fun M σ H ⟨as, st, τ, w, e, p⟩ => p.here w σ e
theorem js_cons (h1 : JS X cl W s t) (h2 : JSs X cl W rest u) : JSs X cl W (s :: rest) (dSeq t u) := by
  refine PSs.mono (pss_cons h1 h2) fun M σ H ⟨as, st, τ, w, e, p⟩ => ⟨as, st, τ, w, e, p.bind.mono fun r st1 as1 H1 e1 w1 p1 => ?_⟩
  obtain ⟨f, τ1⟩ := r
  cases f with
  | nx => exact fun σ1 r1 => ⟨as1, st1, τ1, w1, r1, p1⟩
  | rt d => exact p1.here w1
  | bk => exact p1.here w1
  | ct => exact p1.here w1
  | ex x => exact p1.here w1
theorem js_one (h1 : JS X cl W s t) : JSs X cl W [s] t := pss_one h1
theorem js_ret (he : JE X cl W e te) : JS X cl W (.Return (some e) pos) (dRet te) := by
  refine PS.mono (ps_ret he) fun M σ H ⟨as, st, τ, w, e, p⟩ => ⟨as, st, τ, w, e, (Post.stm e p).mono fun d st1 as1 H1 e1 w1 p1 v rv => ?_⟩
  exact p1.here w1 v rv
theorem js_retN : JS X cl W (.Return none pos) dRetN := PS.mono ps_retN fun M σ H ⟨as, st, τ, w, e, p⟩ => p.here w _ .non
theorem js_pass : JS X cl W (.Pass pos) dNext := PS.mono ps_pass fun M σ H ⟨as, st, τ, w, e, p⟩ => p.here w σ e
theorem js_break : JS X cl W (.Break pos) dBreak := PS.mono ps_break fun M σ H ⟨as, st, τ, w, e, p⟩ => p.here w σ e
theorem js_cont : JS X cl W (.Continue pos) dCont := PS.mono ps_continue fun M σ H ⟨as, st, τ, w, e, p⟩ => p.here w σ e
theorem js_never : JS X cl W s dNever := PS.mono ps_never fun M σ H ⟨as, st, τ, w, e, p⟩ => p.elim
theorem js_doc {x j p p'} : JS X cl W (.Expr (.Constant (.str x) j p) p') dNext := PS.mono ps_doc fun M σ H ⟨as, st, τ, w, e, p⟩ => p.here w σ e
theorem js_expr (he : JE X cl W e te) (hs : swapsWith e none pos.line X.env = pure false := by rfl) : JS X cl W (.Expr e pos) (dDrop te) := by
  refine PS.mono (ps_expr he hs) fun M σ H ⟨as, st, τ, w, e, p⟩ => ⟨as, st, τ, w, e, (Post.stm e p).mono fun d st1 as1 H1 e1 w1 p1 v rv => ?_⟩
  exact p1.here w1 σ (e.evo e1)
theorem js_if {c : Expr} {a b : List Stmt} {tc : DT} (hc : JT X cl W c tc) (ha : JSs X cl W a t) (hb : JSs X cl W b u) : JS X cl W (.If c a b pos) (dIfS tc t u) := by
  refine PS.mono (ps_if hc ha hb) fun M σ H ⟨as, st, τ, w, e, p⟩ => ⟨as, st, τ, w, e, (Post.stm e p).mono fun d st1 as1 H1 e1 w1 p1 => ?_⟩
  cases d with
  | true => exact ⟨as1, st1, τ, w1, e.evo e1, p1⟩
  | false => exact ⟨as1, st1, τ, w1, e.evo e1, p1⟩
end

/-! ### targets -/
abbrev DG := D → En → Sto → R En
def liftG (K : PySem.W.Frag) (cl : Cl) (W : WX) (t : DG) : TG := fun v σ H Q => ∃ as st τ d, Wd K cl as st H ∧ RepE K as H τ σ ∧ Rep K as H d v ∧ Post K cl (WE W σ) as H (t d τ st) fun τ' _ as' H' => ∀ σ', RepE K as' H' τ' σ' → Q σ' H'
abbrev JG (X : Cx) (cl : Cl) (W : WX) (e : Expr) (t : DG) : Prop := PG X e (liftG X.K cl W t)
def gN (i : Nat) : DG := fun d τ st => .ok (τ.set i (some d)) st
def dAsg (te : DE) (g : DG) : DS := fun τ st => (te τ st).stm τ fun d st => (g d τ st).stm τ fun τ' st => .ok (.nx, τ') st
section
variable {X : Cx} {cl : Cl} {W : WX} {pos : Pos} {e tg : Expr} {te : DE} {g : DG}
theorem jg_name {i : Nat} (h : PG X e (gName i)) : JG X cl W e (gN i) := PG.mono h fun v σ H Q ⟨as, st, τ, d, w, e, r, p⟩ => p.here w _ (e.set i r)
theorem js_asg (he : JE X cl W e te) (hg : JG X cl W tg g) (hs : swapsWithSole [tg] e pos.line X.env = pure false := by rfl) (hw : swappedStores [tg] e X.env = pure none := by rfl)
    (h1 : (assignEach [tg] X.env).map (·.2) = [assign tg X.env] := by rfl) : JS X cl W (.Assign [tg] e pos) (dAsg te g) := by
  refine PS.mono (ps_asg he hg hs hw h1) fun M σ H ⟨as, st, τ, w, e, p⟩ => ⟨as, st, τ, w, e, (Post.stm e p).mono fun d st1 as1 H1 e1 w1 p1 v rv => ?_⟩
  refine ⟨as1, st1, τ, d, w1, e.evo e1, rv, (Post.stm (e.evo e1) p1).mono fun τ' st2 as2 H2 e2 w2 p2 σ' r' => ?_⟩
  exact p2.here w2 σ' r'
/-- name = value -/
theorem js_set {i : Nat} {x : Str} {pos' : Pos} (hN : X.N.Nodup) (hi : X.N[i]? = some x) (hx : Loc X.env.scope x) (he : JE X cl W e te) (hs : swapsWith e (some (.Name x pos')) pos.line X.env = pure false := by rfl)
    (hf : X.fn x = true ∨ X.env.scope.names.lookup x = some .local := by first | exact .inl rfl | exact .inr rfl | assumption) : JS X cl W (.Assign [.Name x pos'] e pos) (dAsg te (gN i)) := by
  refine PS.mono (ps_set hN hi hx he hs hf) fun M σ H ⟨as, st, τ, w, e, p⟩ => ⟨as, st, τ, w, e, (Post.stm e p).mono fun d st1 as1 H1 e1 w1 p1 v rv => ?_⟩
  exact p1.here w1 _ ((e.evo e1).set i rv)
end
/-- several targets, for a tuple -/
abbrev DGs := List D → En → Sto → R En
def liftGs (K : PySem.W.Frag) (cl : Cl) (W : WX) (t : DGs) : TGs := fun vs σ H Q => ∃ as st τ ds, Wd K cl as st H ∧ RepE K as H τ σ ∧ Reps K as H ds vs ∧ Post K cl (WE W σ) as H (t ds τ st) fun τ' _ as' H' => ∀ σ', RepE K as' H' τ' σ' → Q σ' H'
theorem PGs.mono {X : Cx} {e : List Expr} {t t' : TGs} (h : PGs X e t) (k : ∀ v σ H Q, t' v σ H Q → t v σ H Q) : PGs X e t' := ⟨fun pins s σ H v u Q I r q => h.run pins s σ H v u Q I r (k _ _ _ _ q)⟩
abbrev JGs (X : Cx) (cl : Cl) (W : WX) (e : List Expr) (t : DGs) : Prop := PGs X e (liftGs X.K cl W t)
/-- names alone, by their places -/
def gNames : List Nat → DGs
  | [], ds, τ, st => if ds.isEmpty then .ok τ st else .bad
  | i :: is, ds, τ, st => match ds with
    | d :: ds => gNames is ds (τ.set i (some d)) st
    | [] => .bad
/-- the items of a tuple -/
def tupOf : D → Option (List D)
  | .tup ds => some ds
  | _ => none
def gTupN (is : List Nat) : DG := fun d τ st => match d with
  | .tup ds => if ds.length = is.length then gNames is ds τ st else .bad
  | _ => .bad
section
variable {X : Cx} {cl : Cl} {W : WX} {pos : Pos}
theorem jgs_nil : JGs X cl W [] (gNames []) := PGs.mono pgs_nil fun vs σ H Q ⟨as, st, τ, ds, w, e, r, p⟩ => by
  cases r with
  | nil => exact ⟨rfl, Post.here (show Post X.K cl (WE W σ) as H (.ok τ st) _ from p) w σ e⟩
  | cons _ _ => exact (show False from p).elim
theorem gNames_ok : ∀ (is : List Nat) (ds : List D) (τ : En) (st : Sto), (∃ τ', gNames is ds τ st = .ok τ' st) ∨ gNames is ds τ st = .bad
  | [], ds, τ, st => by
    cases ds with
    | nil => exact .inl ⟨τ, rfl⟩
    | cons _ _ => exact .inr rfl
  | i :: is, ds, τ, st => by
    cases ds with
    | nil => exact .inr rfl
    | cons d ds => exact gNames_ok is ds _ st
theorem jgs_cons {e : Expr} {es : List Expr} {i : Nat} {is : List Nat} (h1 : PG X e (gName i)) (h2 : JGs X cl W es (gNames is))
    (hs : (assignEach (e :: es) X.env).map (·.2) = assign e X.env :: (assignEach es X.env).map (·.2) := by rfl) : JGs X cl W (e :: es) (gNames (i :: is)) := by
  refine PGs.mono (pgs_cons h1 h2 hs) fun vs σ H Q ⟨as, st, τ, ds, w, e, r, p⟩ => ?_
  cases r with
  | nil => exact (show False from p).elim
  | @cons d v ds vs r rs =>
    refine ⟨v, vs, rfl, as, st, τ.set i (some d), ds, w, e.set i r, rs, ?_⟩
    have p : Post X.K cl (WE W σ) as H (gNames is ds (τ.set i (some d)) st) fun τ' _ as' H' => ∀ σ', RepE X.K as' H' τ' σ' → Q σ' H' := p
    rcases gNames_ok is ds (τ.set i (some d)) st with ⟨τ', h⟩ | h
    · rw [h] at p ⊢; exact p
    · rw [h] at p ⊢; exact p
theorem jg_tup {es : List Expr} {k : Nat} {is : List Nat} (hc : X.calm = true) (h : JGs X cl W es (gNames is))
    (hn : (assignEach es X.env).length = is.length := by rfl) (hst : (assignEach es X.env).findIdx? (·.1) = none := by rfl) : JG X cl W (.Tuple es k pos) (gTupN is) := by
  refine PG.mono (pg_tup hc h hn hst) fun v σ H Q ⟨as, st, τ, d, w, e, r, p⟩ => ?_
  unfold gTupN at p
  split at p
  · rename_i ds
    by_cases hl : ds.length = is.length
    · rw [if_pos hl] at p
      cases r with
      | tup s rs => exact ⟨_, _, rfl, s.t, by rw [← rs.len]; exact hl, as, st, τ, ds, w, e, rs, p⟩
    · rw [if_neg hl] at p; exact p.elim
  · exact p.elim
end

/-! ### defs -/
/-- a body's end, as its def's -/
@[reducible] def R.fin (r : R (Fl × En)) : R D := match r with
  | .ok (.nx, _) st => .ok .non st
  | .ok (.rt d, _) st => .ok d st
  | .ok (.ex x, _) st => .exc x st
  | _ => .bad
def dDef (N n : Nat) (body : DS) : DF := fun ds st => if ds.length = n then (body (startD N ds) st).fin else .bad
theorem def_go {N n : Nat} {body : DS} {ds : List D} {st : Sto} (h : ds.length = n) : dDef N n body ds st = (body (startD N ds) st).fin := if_pos h
/-- a promise by a plain function -/
def spD (K : PySem.W.Frag) (cl : Cl) (F : DF) : Sp := fun vs H Q E => ∃ as st ds, Wd K cl as st H ∧ Reps K as H ds vs ∧ Post K cl E as H (F ds st) (QV K Q)
/-- a def that keeps the promise of a plain function -/
abbrev FnD (P : Program) (w : World) (K : PySem.W.Frag) (mg : Str → Option Value) (base : Heap) (cl : Cl) (k : Nat) (f : Addr) (fd : FuncData) (ps : List Str) (F : DF) : Prop :=
  FnOk P w K mg base (L2.CX P w) k f fd ps (spD K cl F)
/-- a def's wish -/
abbrev Wk (E : XK) : WX := fun u dx _ H => E u dx H
section
variable {P : Program} {w : World} {K : PySem.W.Frag} {mg : Str → Option Value} {base : Heap} {cl : Cl}
theorem FnD.of {x qual : Str} {st : Stmt} {f : Addr} {fd : FuncData} {N ps : List Str} {k : Nat} {body : DS} (F : Fun K x qual st f fd) (S : FnScope N ps (defScope st))
    (hb : ∀ (cdv : Value) (A : Around) (outer : List Env) (s : Shared) (H : Hp) (E : XK), Room k (A.deeper (envOfC qual (defScope st) s.heap.objs.size f cdv)) →
      JSs (cxOf (L2.CX P w) P w K mg base N qual (defScope st) f cdv A outer s H E) cl (Wk E) (defBody st) body) :
    FnD P w K mg base cl (k + 1) f fd ps (dDef N.length ps.length body) := by
  refine F.okX S (fun vs H Q E h => ?_) fun cdv A outer s H vs Q E hr h => ⟨_, hb cdv A outer s H E hr, ?_⟩
  · obtain ⟨as, st, ds, wd, r, p⟩ := h
    unfold dDef at p
    split at p
    · rename_i hl
      rw [← r.len]; exact hl
    · exact p.elim
  · obtain ⟨as, st, ds, wd, r, p⟩ := h
    refine ⟨as, st, startD N.length ds, wd, RepE.start r, ?_⟩
    unfold dDef at p
    split at p
    · cases h : body (startD N.length ds) st with
      | bad => rw [h] at p; exact p.elim
      | exc x st1 => rw [h] at p; exact p.elim
      | ok r st1 =>
        rw [h] at p
        obtain ⟨fl, τ1⟩ := r
        cases fl with
        | nx => exact fun as1 H1 e1 w1 σ1 r1 => p as1 H1 e1 w1 .non .non
        | rt d => exact fun as1 H1 e1 w1 v rv => p as1 H1 e1 w1 v rv
        | bk => exact p.elim
        | ct => exact p.elim
        | ex x => exact fun as1 H1 e1 w1 σ1 u dx r1 rx => p u dx as1 H1 e1 w1 rx
    · exact p.elim
/-- another function that says the same where it says something -/
theorem FnD.imp {k : Nat} {f : Addr} {fd : FuncData} {ps : List Str} {F G : DF} (h : FnD P w K mg base cl k f fd ps F) (hg : ∀ ds st, G ds st ≠ .bad → F ds st = G ds st) : FnD P w K mg base cl k f fd ps G :=
  FnOk.imp h fun vs H Q E ⟨as, st, ds, wd, r, p⟩ => ⟨as, st, ds, wd, r, by
    rw [hg ds st (fun e => by rw [e] at p; exact p)]
    exact p⟩
end
end DL

/-! DL3: operators, calls of built-ins, subscripts, loops, comprehensions, dicts, fields, calls of defs. -/
namespace DL
open PySem PySem.Spec PyProof.Rows L2

/-! ### rows of values -/
def seqOf (d : D) (st : Sto) : Option (List D) := match d with
  | .tup ds => some ds
  | .lst ds => some ds
  | .fro ds => some ds
  | .ref n => match st[n]? with
    | some (.lst ds) => some ds
    | _ => none
  | _ => none
section
variable {K : PySem.W.Frag} {cl : Cl} {as : Mp} {st : Sto} {H : Hp}
theorem Wd.lst (w : Wd K cl as st H) {n : Nat} {a : Addr} {ds : List D} (h1 : as.m[n]? = some a) (hs : st[n]? = some (.lst ds)) : ∃ xs, H a = some (.lst xs) ∧ Reps K as H ds xs := by
  obtain ⟨ho, h2, h3⟩ := w.at h1 hs
  cases h3 with
  | lst r => exact ⟨_, h2, r⟩
theorem Wd.dK (w : Wd K cl as st H) {n : Nat} {a : Addr} {ds : List (Key × D)} (h1 : as.m[n]? = some a) (hs : st[n]? = some (.dK ds)) : ∃ xs, H a = some (.dK xs) ∧ RepF K as H ds xs := by
  obtain ⟨ho, h2, h3⟩ := w.at h1 hs
  cases h3 with
  | dK r => exact ⟨_, h2, r⟩
theorem Wd.dT (w : Wd K cl as st H) {n : Nat} {a : Addr} {ds : List (List Key × D)} (h1 : as.m[n]? = some a) (hs : st[n]? = some (.dT ds)) : ∃ xs, H a = some (.dT xs) ∧ RepF K as H ds xs := by
  obtain ⟨ho, h2, h3⟩ := w.at h1 hs
  cases h3 with
  | dT r => exact ⟨_, h2, r⟩
theorem Wd.ins (w : Wd K cl as st H) {n : Nat} {a : Addr} {c : Str} {ds : List (Str × D)} (h1 : as.m[n]? = some a) (hs : st[n]? = some (.ins c ds)) : ∃ dx xs, H a = some (.ins (cl c) dx xs) ∧ RepF K as H ds xs := by
  obtain ⟨ho, h2, h3⟩ := w.at h1 hs
  cases h3 with
  | ins r => exact ⟨_, _, h2, r⟩
theorem seqOf_ok {d : D} {v : V} {ds : List D} (w : Wd K cl as st H) (r : Rep K as H d v) (h : seqOf d st = some ds) : ∃ p xs, v = .ref p ∧ (SqL K H p xs ∨ SqT K H p xs) ∧ Reps K as H ds xs := by
  cases r with
  | tup s r => cases h; exact ⟨_, _, rfl, .inr s.t, r⟩
  | lst n h1 r => cases h; exact ⟨_, _, rfl, .inl (.of h1), r⟩
  | fro s r => cases h; exact ⟨_, _, rfl, .inl s.l, r⟩
  | @ref n a h1 =>
    have h : (match st[n]? with | some (.lst ds) => some ds | _ => none) = some ds := h
    cases hs : st[n]? with
    | none => rw [hs] at h; cases h
    | some o =>
      rw [hs] at h
      cases o with
      | lst es =>
        cases h
        obtain ⟨xs, h2, r⟩ := w.lst h1 hs
        exact ⟨_, _, rfl, .inl (.of h2), r⟩
      | _ => cases h
  | _ => cases h
/-- lists alone -/
def lstOf (d : D) (st : Sto) : Option (List D) := match d with
  | .lst ds => some ds
  | .ref n => match st[n]? with
    | some (.lst ds) => some ds
    | _ => none
  | _ => none
theorem lstOf_ok {d : D} {v : V} {ds : List D} (w : Wd K cl as st H) (r : Rep K as H d v) (h : lstOf d st = some ds) : ∃ p xs, v = .ref p ∧ H p = some (.lst xs) ∧ Reps K as H ds xs := by
  cases r with
  | lst n h1 r => cases h; exact ⟨_, _, rfl, h1, r⟩
  | @ref n a h1 =>
    have h : (match st[n]? with | some (.lst ds) => some ds | _ => none) = some ds := h
    cases hs : st[n]? with
    | none => rw [hs] at h; cases h
    | some o =>
      rw [hs] at h
      cases o with
      | lst es =>
        cases h
        obtain ⟨xs, h2, r⟩ := w.lst h1 hs
        exact ⟨_, _, rfl, h2, r⟩
      | _ => cases h
  | _ => cases h
/-- dicts by ints and texts -/
def dicOf (d : D) (st : Sto) : Option (List (Key × D)) := match d with
  | .dic ds => some ds
  | .ref n => match st[n]? with
    | some (.dK ds) => some ds
    | _ => none
  | _ => none
theorem dicOf_ok {d : D} {v : V} {ds : List (Key × D)} (w : Wd K cl as st H) (r : Rep K as H d v) (h : dicOf d st = some ds) : ∃ p xs, v = .ref p ∧ H p = some (.dK xs) ∧ RepF K as H ds xs := by
  cases r with
  | dic n h1 r => cases h; exact ⟨_, _, rfl, h1, r.f⟩
  | @ref n a h1 =>
    have h : (match st[n]? with | some (.dK ds) => some ds | _ => none) = some ds := h
    cases hs : st[n]? with
    | none => rw [hs] at h; cases h
    | some o =>
      rw [hs] at h
      cases o with
      | dK es =>
        cases h
        obtain ⟨xs, h2, r⟩ := w.dK h1 hs
        exact ⟨_, _, rfl, h2, r⟩
      | _ => cases h
  | _ => cases h

/-! ### equality of data -/
mutual
def toPy : D → Option PyData
  | .non => some .none
  | .bl b => some (.bool b)
  | .int i => some (.int i)
  | .str x => some (.str x)
  | .tup ds => (toPys ds).map .tuple
  | .lst ds => (toPys ds).map .list
  | .fro ds => (toPys ds).map .list
  | .dic _ => none
  | .ref _ => none
  | .raw _ => none
def toPys : List D → Option (List PyData)
  | [] => some []
  | d :: ds => match toPy d, toPys ds with
    | some p, some ps => some (p :: ps)
    | _, _ => none
end
mutual
theorem toPy_ok : ∀ {d : D} {v : V} {p : PyData}, Rep K as H d v → toPy d = some p → Dp K H v p
  | _, _, _, .non, h => by cases h; exact .non
  | _, _, _, .bl b, h => by cases h; exact .bl b
  | _, _, _, .int i, h => by cases h; exact .int i
  | _, _, _, .str x, h => by cases h; exact .str x
  | .tup ds, _, _, .tup s r, h => by
    have h : (toPys ds).map PyData.tuple = some _ := h
    obtain ⟨ps, h1, h2⟩ := Option.map_eq_some_iff.mp h
    subst h2
    exact .tup s.t (toPys_ok r h1)
  | .lst ds, _, _, .lst n h0 r, h => by
    have h : (toPys ds).map PyData.list = some _ := h
    obtain ⟨ps, h1, h2⟩ := Option.map_eq_some_iff.mp h
    subst h2
    exact .lst (.of h0) (toPys_ok r h1)
  | .fro ds, _, _, .fro s r, h => by
    have h : (toPys ds).map PyData.list = some _ := h
    obtain ⟨ps, h1, h2⟩ := Option.map_eq_some_iff.mp h
    subst h2
    exact .lst s.l (toPys_ok r h1)
theorem toPys_ok : ∀ {ds : List D} {vs : List V} {ps : List PyData}, Reps K as H ds vs → toPys ds = some ps → DpAll K H vs ps
  | _, _, _, .nil, h => by cases h; exact .nil
  | d :: ds, _, _, .cons r rs, h => by
    unfold toPys at h
    cases h1 : toPy d with
    | none => rw [h1] at h; cases h
    | some p =>
      cases h2 : toPys ds with
      | none => rw [h1, h2] at h; cases h
      | some ps =>
        rw [h1, h2] at h
        cases h
        exact .cons (toPy_ok r h1) (toPys_ok rs h2)
end
/-- with the store's lists -/
def topPy (d : D) (st : Sto) : Option PyData := match d with
  | .ref n => match st[n]? with
    | some (.lst ds) => (toPys ds).map .list
    | _ => none
  | d => toPy d
theorem topPy_ok {d : D} {v : V} {p : PyData} (w : Wd K cl as st H) (r : Rep K as H d v) (h : topPy d st = some p) : Dp K H v p := by
  cases d with
  | ref n =>
    have h : (match st[n]? with | some (.lst ds) => (toPys ds).map PyData.list | _ => none) = some p := h
    cases r with
    | ref h1 =>
      cases hs : st[n]? with
      | none => rw [hs] at h; cases h
      | some o =>
        rw [hs] at h
        cases o with
        | lst es =>
          obtain ⟨xs, h2, r⟩ := w.lst h1 hs
          obtain ⟨ps, h3, h4⟩ := Option.map_eq_some_iff.mp h
          subst h4
          exact .lst (.of h2) (toPys_ok r h3)
        | _ => cases h
  | _ => exact toPy_ok r h
def flatD : D → Bool
  | .non => true
  | .bl _ => true
  | .int _ => true
  | .str _ => true
  | _ => false
def eqF : D → D → Bool
  | .non, .non => true
  | .bl a, .bl b => a == b
  | .bl a, .int b => (if a then 1 else 0) == b
  | .int a, .bl b => a == (if b then 1 else 0)
  | .int a, .int b => a == b
  | .str a, .str b => a == b
  | _, _ => false
theorem flatD_ok {d : D} {v : V} (r : Rep K as H d v) (h : flatD d = true) : flatV v = true := by
  cases r <;> first | rfl | cases h
theorem eqF_ok {d e : D} {v u : V} (r : Rep K as H d v) (s : Rep K as H e u) (h : flatD d = true) (h' : flatD e = true) : eqV v u = eqF d e := by
  cases r <;> first | (cases h; done) | (cases s <;> first | (cases h'; done) | rfl)
theorem flats_ok : ∀ {ds : List D} {vs : List V}, Reps K as H ds vs → ds.all flatD = true → vs.all flatV = true
  | _, _, .nil, _ => rfl
  | d :: ds, _, .cons r rs, h => by
    rw [List.all_cons, Bool.and_eq_true_iff] at h
    rw [List.all_cons, flatD_ok r h.1, flats_ok rs h.2]
    rfl
def inD (x : D) (ds : List D) : Bool := ds.any fun y => eqF y x
theorem inD_ok {x : D} {v : V} (r : Rep K as H x v) (hx : flatD x = true) : ∀ {ds : List D} {vs : List V}, Reps K as H ds vs → ds.all flatD = true → inV v vs = inD x ds
  | _, _, .nil, _ => rfl
  | d :: ds, _, .cons q rs, h => by
    rw [List.all_cons, Bool.and_eq_true_iff] at h
    unfold inV inD
    rw [List.any_cons, List.any_cons, eqF_ok q r h.1 hx]
    congr 1
    exact inD_ok r hx rs h.2
end

/-! ### operators -/
section
variable {X : Cx} {cl : Cl}
theorem OpJ.of {f : Value → Value → Sem Value} {r : D2} {r0 : R2} (h : OpR X f r0)
    (k : ∀ (E : XK) (as : Mp) (st : Sto) (H : Hp) (x y : V) (dx dy : D) (Q : VK), Wd X.K cl as st H → Rep X.K as H dx x → Rep X.K as H dy y → Post X.K cl E as H (r dx dy st) (QV X.K Q) → r0 x y H Q) : OpJ X cl f r :=
  fun E => OpR.mono h fun x y H Q ⟨as, st, dx, dy, w, rx, ry, p⟩ => k E as st H x y dx dy Q w rx ry p
/-- the end of a step that makes nothing -/
theorem Post.val {K : PySem.W.Frag} {E : XK} {as : Mp} {st : Sto} {H : Hp} {d : D} {v : V} {Q : VK} (p : Post K cl E as H (.ok d st) (QV K Q)) (w : Wd K cl as st H) (r : Rep K as H d v) : Q v H := p as H .refl w v r

def cmpI (f : Int → Int → Bool) : D2 := fun x y st => match x, y with
  | .int i, .int j => .ok (.bl (f i j)) st
  | _, _ => .bad
def opI2 (f : Int → Int → Int) (c : Int → Int → Bool) : D2 := fun x y st => match x, y with
  | .int i, .int j => if c i j = true then .ok (.int (f i j)) st else .bad
  | _, _ => .bad
theorem oj_I0 {f : Value → Value → Sem Value} {g : Int → Int → Bool} (h : OpR X f (rI0 fun i j => .bl (g i j))) : OpJ X cl f (cmpI g) := OpJ.of h fun E as st H x y dx dy Q w rx ry p => by
  unfold cmpI at p
  split at p
  · cases rx; cases ry
    exact ⟨_, _, rfl, rfl, p.val w (.bl _)⟩
  · exact p.elim
theorem oj_I {f : Value → Value → Sem Value} {C : Int → Int → Prop} {g : Int → Int → Int} {c : Int → Int → Bool} (h : OpR X f (rI C fun i j => .int (g i j))) (hc : ∀ i j, c i j = true → C i j) : OpJ X cl f (opI2 g c) := OpJ.of h fun E as st H x y dx dy Q w rx ry p => by
  unfold opI2 at p
  split at p
  · cases rx; cases ry
    split at p
    · rename_i i j hq
      exact ⟨i, j, rfl, rfl, hc _ _ hq, p.val w (.int _)⟩
    · exact p.elim
  · exact p.elim
def dLtI : D2 := cmpI fun i j => decide (i < j)
def dLeI : D2 := cmpI fun i j => decide (i ≤ j)
def dGtI : D2 := cmpI fun i j => decide (j < i)
def dGeI : D2 := cmpI fun i j => decide (j ≤ i)
theorem oj_lt : OpJ X cl (compareOp .Lt) dLtI := oj_I0 op_lt
theorem oj_le : OpJ X cl (compareOp .LtE) dLeI := oj_I0 op_le
theorem oj_gt : OpJ X cl (compareOp .Gt) dGtI := oj_I0 op_gt
theorem oj_ge : OpJ X cl (compareOp .GtE) dGeI := oj_I0 op_ge
def dSub : D2 := opI2 (fun i j => i - j) fun _ _ => true
def dMul : D2 := opI2 (fun i j => i * j) fun i j => decide (i.natAbs.log2 + j.natAbs.log2 < 1000000)
def dDiv : D2 := opI2 (fun i j => i / j) fun i j => decide (0 < j) && decide (j.natAbs.log2 < 9000)
def dMod : D2 := opI2 (fun i j => i % j) fun _ j => decide (0 < j)
def dPow : D2 := opI2 (fun i j => i ^ j.toNat) fun i j => decide (0 ≤ j) && decide (j ≤ 1000000) && decide (i.natAbs < 2 ^ 64)
def dShl : D2 := opI2 (fun i j => i * 2 ^ j.toNat) fun i j => decide (0 ≤ j) && decide (j ≤ 1000000) && decide (i.natAbs < 2 ^ 64)
theorem op_subC : OpR X (binaryOp .Sub) (rI (fun _ _ => True) fun i j => .int (i - j)) := OpR.mono op_sub fun _ _ _ _ ⟨i, j, h1, h2, _, q⟩ => ⟨i, j, h1, h2, q⟩
theorem oj_sub : OpJ X cl (binaryOp .Sub) dSub := oj_I op_subC fun _ _ _ => trivial
theorem oj_mul : OpJ X cl (binaryOp .Mult) dMul := oj_I op_mulW fun i j h => show i.natAbs.log2 + j.natAbs.log2 < 1000000 from of_decide_eq_true h
theorem oj_div : OpJ X cl (binaryOp .FloorDiv) dDiv := oj_I op_fdivW fun _ _ h => by
  rw [Bool.and_eq_true_iff] at h
  exact ⟨of_decide_eq_true h.1, of_decide_eq_true h.2⟩
theorem oj_mod : OpJ X cl (binaryOp .Mod) dMod := oj_I op_mod fun _ _ h => of_decide_eq_true h
theorem oj_pow : OpJ X cl (binaryOp .Pow) dPow := oj_I op_pow fun _ _ h => by
  rw [Bool.and_eq_true_iff, Bool.and_eq_true_iff] at h
  exact ⟨of_decide_eq_true h.1.1, of_decide_eq_true h.1.2, of_decide_eq_true h.2⟩
theorem oj_shl : OpJ X cl (binaryOp .LShift) dShl := oj_I op_shl fun _ _ h => by
  rw [Bool.and_eq_true_iff, Bool.and_eq_true_iff] at h
  exact ⟨of_decide_eq_true h.1.1, of_decide_eq_true h.1.2, of_decide_eq_true h.2⟩
/-- +: ints, texts, tuples, lists -/
def dAdd : D2 := fun x y st => match x, y with
  | .int i, .int j => .ok (.int (i + j)) st
  | .str a, .str b => if a.length + b.length ≤ sizeLine then .ok (.str (a ++ b)) st else .bad
  | .tup a, .tup b => if a.length + b.length ≤ sizeLine then .ok (.tup (a ++ b)) st else .bad
  | x, y => match lstOf x st, lstOf y st with
    | some a, some b => if a.length + b.length ≤ sizeLine then .ok (.lst (a ++ b)) st else .bad
    | _, _ => .bad
theorem Post.newT {K : PySem.W.Frag} {E : XK} {as : Mp} {st : Sto} {H : Hp} {ds : List D} {xs : List V} {Q : VK} (p : Post K cl E as H (.ok (.tup ds) st) (QV K Q)) (w : Wd K cl as st H) (r : Reps K as H ds xs) :
    ∀ a, H a = none → Q (.ref a) (upd H a (.tup xs)) := fun a ha => p as _ (Evo.new w ha) (w.new ha) _ (Rep.newT w ha r)
theorem Post.newL {K : PySem.W.Frag} {E : XK} {as : Mp} {st : Sto} {H : Hp} {ds : List D} {xs : List V} {Q : VK} (p : Post K cl E as H (.ok (.lst ds) st) (QV K Q)) (w : Wd K cl as st H) (r : Reps K as H ds xs) :
    ∀ a, H a = none → Q (.ref a) (upd H a (.lst xs)) := fun a ha => p as _ (Evo.new w ha) (w.new ha) _ (Rep.newL w ha r)
theorem oj_add : OpJ X cl (binaryOp .Add) dAdd := OpJ.of (OpR.or (X := X) op_add (OpR.or op_add_str (OpR.or op_catA op_cat))) fun E as st H x y dx dy Q w rx ry p => by
  unfold dAdd at p
  split at p
  · cases rx; cases ry
    exact .inl ⟨_, _, rfl, rfl, p.val w (.int _)⟩
  · cases rx; cases ry
    split at p
    · rename_i hl
      exact .inr (.inl ⟨_, _, rfl, rfl, hl, p.val w (.str _)⟩)
    · exact p.elim
  · rename_i a b
    cases rx with
    | tup s1 r1 =>
      cases ry with
      | tup s2 r2 =>
        split at p
        · rename_i hl
          refine .inr (.inr (.inl ⟨_, _, _, _, rfl, rfl, s1.t, s2.t, by rw [← r1.len, ← r2.len]; exact hl, fun e => ?_, fun _ e => ?_, fun _ _ => p.newT w (r1.append r2)⟩))
          · subst e; cases r1; exact p.val w (.tup s2 r2)
          · subst e; cases r2; rw [List.append_nil] at p; exact p.val w (.tup s1 r1)
        · exact p.elim
  · cases h1 : lstOf dx st with
    | none => rw [h1] at p; exact p.elim
    | some a =>
      cases h2 : lstOf dy st with
      | none => rw [h1, h2] at p; exact p.elim
      | some b =>
        rw [h1, h2] at p
        dsimp only at p
        obtain ⟨pa, xs, rfl, ha, ra⟩ := lstOf_ok w rx h1
        obtain ⟨pb, ys, rfl, hb, rb⟩ := lstOf_ok w ry h2
        split at p
        · rename_i hl
          exact .inr (.inr (.inr ⟨pa, pb, xs, ys, rfl, rfl, ha, hb, by rw [← ra.len, ← rb.len]; exact hl, p.newL w (ra.append rb)⟩))
        · exact p.elim
/-- == and != -/
def dEq (neg : Bool) : D2 := fun x y st => match topPy x st, topPy y st with
  | some p, some q => if SeqAt.shaped p && SeqAt.shaped q then .ok (.bl (neg ^^ PyData.eqv p q)) st else .bad
  | _, _ => .bad
theorem dEq_ok {E : XK} {as : Mp} {st : Sto} {H : Hp} {x y : V} {dx dy : D} {Q : VK} {neg : Bool} (w : Wd X.K cl as st H) (rx : Rep X.K as H dx x) (ry : Rep X.K as H dy y) (p : Post X.K cl E as H (dEq neg dx dy st) (QV X.K Q)) :
    ∃ d e, Dp X.K H x d ∧ Dp X.K H y e ∧ SeqAt.shaped d = true ∧ SeqAt.shaped e = true ∧ Q (.bl (neg ^^ PyData.eqv d e)) H := by
  unfold dEq at p
  cases h1 : topPy dx st with
  | none => rw [h1] at p; exact p.elim
  | some a =>
    cases h2 : topPy dy st with
    | none => rw [h1, h2] at p; exact p.elim
    | some b =>
      rw [h1, h2] at p
      dsimp only at p
      split at p
      · rename_i hs
        rw [Bool.and_eq_true_iff] at hs
        exact ⟨a, b, topPy_ok w rx h1, topPy_ok w ry h2, hs.1, hs.2, p.val w (.bl _)⟩
      · exact p.elim
theorem oj_eq (hu : X.A.units + 64 < cLine) : OpJ X cl (compareOp .Eq) (dEq false) := OpJ.of (op_eqD hu) fun E as st H x y dx dy Q w rx ry p => by
  obtain ⟨d, e, h1, h2, h3, h4, h5⟩ := dEq_ok w rx ry p
  exact ⟨d, e, h1, h2, h3, h4, by rw [Bool.false_xor] at h5; exact h5⟩
theorem oj_ne (hu : X.A.units + 64 < cLine) : OpJ X cl (compareOp .NotEq) (dEq true) := OpJ.of (op_neD hu) fun E as st H x y dx dy Q w rx ry p => by
  obtain ⟨d, e, h1, h2, h3, h4, h5⟩ := dEq_ok w rx ry p
  exact ⟨d, e, h1, h2, h3, h4, by rw [Bool.true_xor] at h5; exact h5⟩
/-- in and not in: texts; flat rows; lists of data -/
def dIn (neg : Bool) : D2 := fun x y st => match x, y with
  | .str a, .str b => .ok (.bl (neg ^^ !(Builtin.Str.occurrences b a 0 b.length 1).isEmpty)) st
  | x, y => match seqOf y st with
    | some ds => if flatD x && ds.all flatD then .ok (.bl (neg ^^ inD x ds)) st else
      match toPy x, topPy y st with
      | some p, some (.list qs) => if SeqAt.shaped p && SeqAt.shaped (.list qs) then .ok (.bl (neg ^^ qs.any fun z => PyData.eqv z p)) st else .bad
      | _, _ => .bad
    | none => .bad
theorem dIn_ok {E : XK} {as : Mp} {st : Sto} {H : Hp} {x y : V} {dx dy : D} {Q : VK} {neg : Bool} (w : Wd X.K cl as st H) (rx : Rep X.K as H dx x) (ry : Rep X.K as H dy y) (p : Post X.K cl E as H (dIn neg dx dy st) (QV X.K Q)) :
    (∃ i j, x = .str i ∧ y = .str j ∧ Q (.bl (neg ^^ !(Builtin.Str.occurrences j i 0 j.length 1).isEmpty)) H) ∨ rIn X.K neg x y H Q ∨
    ∃ d ds, Dp X.K H x d ∧ Dp X.K H y (.list ds) ∧ SeqAt.shaped d = true ∧ SeqAt.shaped (.list ds) = true ∧ Q (.bl (neg ^^ ds.any fun z => PyData.eqv z d)) H := by
  unfold dIn at p
  split at p
  · cases rx; cases ry
    exact .inl ⟨_, _, rfl, rfl, p.val w (.bl _)⟩
  · cases h1 : seqOf dy st with
    | none => rw [h1] at p; exact p.elim
    | some ds =>
      rw [h1] at p
      dsimp only at p
      by_cases hf : (flatD dx && ds.all flatD) = true
      · rw [if_pos hf] at p
        rw [Bool.and_eq_true_iff] at hf
        obtain ⟨q, xs, rfl, hq, rs⟩ := seqOf_ok w ry h1
        refine .inr (.inl ⟨q, xs, rfl, hq, flatD_ok rx hf.1, flats_ok rs hf.2, ?_⟩)
        have e := p.val w (.bl _)
        rw [inD_ok rx hf.1 rs hf.2]
        cases neg
        · rw [Bool.false_xor] at e; exact e
        · rw [Bool.true_xor] at e; exact e
      · rw [if_neg hf] at p
        cases h2 : toPy dx with
        | none => rw [h2] at p; exact p.elim
        | some d =>
          cases h3 : topPy dy st with
          | none => rw [h2, h3] at p; exact p.elim
          | some e =>
            rw [h2, h3] at p
            cases e with
            | list qs =>
              dsimp only at p
              split at p
              · rename_i hs
                rw [Bool.and_eq_true_iff] at hs
                exact .inr (.inr ⟨d, qs, toPy_ok rx h2, topPy_ok w ry h3, hs.1, hs.2, p.val w (.bl _)⟩)
              · exact p.elim
            | _ => exact p.elim
theorem oj_in (hu : X.A.units + 65 < cLine) : OpJ X cl (compareOp .In) (dIn false) := OpJ.of (OpR.or (X := X) op_in_str (OpR.or op_in_seq (op_inD hu))) fun E as st H x y dx dy Q w rx ry p => by
  rcases dIn_ok w rx ry p with ⟨i, j, h1, h2, h3⟩ | h | ⟨d, ds, h1, h2, h3, h4, h5⟩
  · exact .inl ⟨i, j, h1, h2, by rw [Bool.false_xor] at h3; exact h3⟩
  · exact .inr (.inl h)
  · exact .inr (.inr ⟨d, ds, h1, h2, h3, h4, by rw [Bool.false_xor] at h5; exact h5⟩)
theorem oj_notIn (hu : X.A.units + 65 < cLine) : OpJ X cl (compareOp .NotIn) (dIn true) := OpJ.of (OpR.or (X := X) op_notIn_str (OpR.or op_notIn_seq (op_notInD hu))) fun E as st H x y dx dy Q w rx ry p => by
  rcases dIn_ok w rx ry p with ⟨i, j, h1, h2, h3⟩ | h | ⟨d, ds, h1, h2, h3, h4, h5⟩
  · exact .inl ⟨i, j, h1, h2, by rw [Bool.true_xor] at h3; exact h3⟩
  · exact .inr (.inl h)
  · exact .inr (.inr ⟨d, ds, h1, h2, h3, h4, by rw [Bool.true_xor] at h5; exact h5⟩)
/-- is, is not: None, truths -/
def isNon : D → Option Bool
  | .non => some true
  | .bl _ => some false
  | .int _ => some false
  | .str _ => some false
  | .tup _ => some false
  | .lst _ => some false
  | .fro _ => some false
  | .dic _ => some false
  | .ref _ => some false
  | .raw _ => none
def dIs (neg : Bool) : D2 := fun x y st => match x, y with
  | .bl a, .bl b => .ok (.bl (neg ^^ decide (a = b))) st
  | x, .non => match isNon x with
    | some b => .ok (.bl (neg ^^ b)) st
    | none => .bad
  | _, _ => .bad
theorem isNon_ok {K : PySem.W.Frag} {as : Mp} {H : Hp} {d : D} {v : V} {b : Bool} (r : Rep K as H d v) (h : isNon d = some b) : decide (v = .non) = b := by
  cases r <;> cases h <;> simp
theorem dIs_ok {E : XK} {as : Mp} {st : Sto} {H : Hp} {x y : V} {dx dy : D} {Q : VK} {neg : Bool} (w : Wd X.K cl as st H) (rx : Rep X.K as H dx x) (ry : Rep X.K as H dy y) (p : Post X.K cl E as H (dIs neg dx dy st) (QV X.K Q)) :
    (y = .non ∧ Q (.bl (neg ^^ decide (x = .non))) H) ∨ ∃ a b : Bool, x = .bl a ∧ y = .bl b ∧ Q (.bl (neg ^^ decide (a = b))) H := by
  unfold dIs at p
  split at p
  · cases rx; cases ry
    exact .inr ⟨_, _, rfl, rfl, p.val w (.bl _)⟩
  · cases ry
    split at p
    · rename_i b hb
      exact .inl ⟨rfl, by rw [isNon_ok rx hb]; exact p.val w (.bl _)⟩
    · exact p.elim
  · exact p.elim
theorem oj_is : OpJ X cl (compareOp .Is) (dIs false) := OpJ.of (OpR.or (X := X) op_isN op_isBl) fun E as st H x y dx dy Q w rx ry p => by
  rcases dIs_ok w rx ry p with ⟨h1, h2⟩ | ⟨a, b, h1, h2, h3⟩
  · exact .inl ⟨h1, by rw [Bool.false_xor] at h2; exact h2⟩
  · exact .inr ⟨a, b, h1, h2, by rw [Bool.false_xor] at h3; exact h3⟩
theorem oj_isNot : OpJ X cl (compareOp .IsNot) (dIs true) := OpJ.of (OpR.or (X := X) op_notN op_notBl) fun E as st H x y dx dy Q w rx ry p => by
  rcases dIs_ok w rx ry p with ⟨h1, h2⟩ | ⟨a, b, h1, h2, h3⟩
  · exact .inl ⟨h1, by rw [Bool.true_xor] at h2; exact h2⟩
  · exact .inr ⟨a, b, h1, h2, by rw [Bool.true_xor] at h3; exact h3⟩
end

/-! ### -a -/
def dNeg (t : DE) : DE := fun τ st => (t τ st).bind fun d st => match d with
  | .int i => .ok (.int (-i)) st
  | _ => .bad
section
variable {X : Cx} {cl : Cl} {W : WX} {pos : Pos} {a b : Expr} {ta tb : DE}
theorem j_neg (ha : JE X cl W a ta) : JE X cl W (.UnaryOp .USub a pos) (dNeg ta) := by
  refine PE.mono (pe_un un_neg ha) fun σ H Q ⟨as, st, τ, w, e, p⟩ => ⟨as, st, τ, w, e, p.bind.mono fun d st1 as1 H1 e1 w1 p1 v rv => ?_⟩
  cases d with
  | int i => cases rv; exact ⟨i, rfl, p1.val w1 (.int _)⟩
  | _ => exact p1.elim
end

/-! ### built-ins by their names -/
abbrev DC := DF
def liftC (K : PySem.W.Frag) (cl : Cl) (E : XK) (r : DC) : List V → Hp → VK → Prop := fun xs H Q => ∃ as st ds, Wd K cl as st H ∧ Reps K as H ds xs ∧ Post K cl E as H (r ds st) (QV K Q)
def CallJ (X : Cx) (cl : Cl) (f : Value) (r : DC) : Prop := ∀ E : XK, CallR X f (liftC X.K cl E r)
theorem CallR.or' {X : Cx} {f : Value} {r r' : List V → Hp → VK → Prop} (h : CallR X f r) (h' : CallR X f r') : CallR X f (fun xs H Q => r xs H Q ∨ r' xs H Q) := fun pins s σ H xs us Q I r q =>
  q.elim (h pins s σ H xs us Q I r) (h' pins s σ H xs us Q I r)
theorem CallJ.of {X : Cx} {cl : Cl} {f : Value} {r : DC} {r0 : List V → Hp → VK → Prop} (h : CallR X f r0)
    (k : ∀ (E : XK) (as : Mp) (st : Sto) (H : Hp) (xs : List V) (ds : List D) (Q : VK), Wd X.K cl as st H → Reps X.K as H ds xs → Post X.K cl E as H (r ds st) (QV X.K Q) → r0 xs H Q) : CallJ X cl f r :=
  fun E => CallR.mono h fun xs H Q ⟨as, st, ds, w, rs, p⟩ => k E as st H xs ds Q w rs p
def dApp (r : DC) (t : DA) : DE := fun τ st => (t τ st).bind fun ds st => r ds st
section
variable {X : Cx} {cl : Cl} {W : WX} {p pos : Pos} {e : Expr} {es : List Expr} {t : DA} {x : Str} {r : DC}
theorem lift_app {σ : L2.St} {H : Hp} {Q : VK} (h : lift X.K cl W (dApp r t) σ H Q) : tCB (liftC X.K cl (WE W σ) r) (liftA X.K cl W t) σ H Q := by
  obtain ⟨as, st, τ, w, e, p⟩ := h
  exact ⟨as, st, τ, w, e, p.bind.mono fun ds st1 as1 H1 e1 w1 p1 xs rx => ⟨as1, st1, ds, w1, rx, p1⟩⟩
theorem j_callB {id : String} (hc : CallJ X cl (.builtin id) r) (hg : Gl X x) (hm : X.mg x = none) (hv : bootBuiltins x = some (.builtin id)) (ha : JA X cl W (e :: es) t) (hn : x ≠ "__name__" := by decide) (hdb : (x == ("__debug__" : Str)) = false := by decide)
    (he : starEach (e :: es) X.env = (false, eval e X.env) :: starEach es X.env := by rfl) (hpl : (backTo pos (starEach es X.env)).any (·.1) = false := by rfl) : JE X cl W (.Call (.Name x p) (e :: es) [] pos) (dApp r t) :=
  ⟨fun pins s σ H Q I h => (pe_callB (hc (WE W σ)) hg hm hv ha hn hdb he hpl).run pins s σ H Q I (lift_app h)⟩
theorem j_callTy {T : String} (hc : CallJ X cl (.type T) r) (hg : Gl X x) (hm : X.mg x = none) (hv : bootBuiltins x = some (.type T)) (ha : JA X cl W (e :: es) t) (hn : x ≠ "__name__" := by decide) (hdb : (x == ("__debug__" : Str)) = false := by decide)
    (he : starEach (e :: es) X.env = (false, eval e X.env) :: starEach es X.env := by rfl) (hpl : (backTo pos (starEach es X.env)).any (·.1) = false := by rfl) : JE X cl W (.Call (.Name x p) (e :: es) [] pos) (dApp r t) :=
  ⟨fun pins s σ H Q I h => (pe_callTy (hc (WE W σ)) hg hm hv ha hn hdb he hpl).run pins s σ H Q I (lift_app h)⟩
end
section
variable {X : Cx} {cl : Cl}
theorem Reps.one {K : PySem.W.Frag} {as : Mp} {H : Hp} {d : D} : ∀ {xs : List V}, Reps K as H [d] xs → ∃ v, xs = [v] ∧ Rep K as H d v
  | _, .cons r .nil => ⟨_, rfl, r⟩
theorem Reps.two {K : PySem.W.Frag} {as : Mp} {H : Hp} {d e : D} : ∀ {xs : List V}, Reps K as H [d, e] xs → ∃ v u, xs = [v, u] ∧ Rep K as H d v ∧ Rep K as H e u
  | _, .cons r (.cons q .nil) => ⟨_, _, rfl, r, q⟩
/-- len -/
def cLen : DC := fun ds st => match ds with
  | [.str y] => if y.length ≤ sizeLine then .ok (.int y.length) st else .bad
  | [d] => match seqOf d st with
    | some xs => .ok (.int xs.length) st
    | none => match dicOf d st with
      | some kvs => .ok (.int kvs.length) st
      | none => .bad
  | _ => .bad
theorem cj_len : CallJ X cl (.builtin "len") cLen := CallJ.of (CallR.or' (X := X) call_len_str (CallR.or' call_len_seq call_lenD)) fun E as st H xs ds Q w rs p => by
  unfold cLen at p
  split at p
  · obtain ⟨v, rfl, r⟩ := rs.one
    cases r
    split at p
    · rename_i hl
      exact .inl ⟨_, rfl, hl, p.val w (.int _)⟩
    · exact p.elim
  · rename_i d _
    obtain ⟨v, rfl, r⟩ := rs.one
    cases h1 : seqOf d st with
    | some ys =>
      rw [h1] at p
      obtain ⟨q, zs, rfl, hq, rz⟩ := seqOf_ok w r h1
      exact .inr (.inl ⟨q, zs, rfl, hq, by rw [← rz.len]; exact p.val w (.int _)⟩)
    | none =>
      rw [h1] at p
      cases h2 : dicOf d st with
      | none => rw [h2] at p; exact p.elim
      | some kvs =>
        rw [h2] at p
        obtain ⟨q, zs, rfl, hq, rz⟩ := dicOf_ok w r h2
        exact .inr (.inr ⟨q, zs, rfl, hq, by rw [← rz.len]; exact p.val w (.int _)⟩)
  · exact p.elim
def cAbs : DC := fun ds st => match ds with
  | [.int i] => .ok (.int (if i < 0 then -i else i)) st
  | _ => .bad
theorem cj_abs : CallJ X cl (.builtin "abs") cAbs := CallJ.of call_abs fun E as st H xs ds Q w rs p => by
  unfold cAbs at p
  split at p
  · obtain ⟨v, rfl, r⟩ := rs.one
    cases r
    exact ⟨_, rfl, p.val w (.int _)⟩
  · exact p.elim
def cMin2 : DC := fun ds st => match ds with
  | [.int i, .int j] => .ok (.int (if j < i then j else i)) st
  | _ => .bad
theorem cj_min2 (hc : X.calm = true) : CallJ X cl (.builtin "min") cMin2 := CallJ.of (call_min2 hc) fun E as st H xs ds Q w rs p => by
  unfold cMin2 at p
  split at p
  · obtain ⟨v, u, rfl, r, q⟩ := rs.two
    cases r; cases q
    exact ⟨_, _, rfl, p.val w (.int _)⟩
  · exact p.elim
def cMax2 : DC := fun ds st => match ds with
  | [.int i, .int j] => .ok (.int (if j > i then j else i)) st
  | _ => .bad
theorem cj_max2 (hc : X.calm = true) : CallJ X cl (.builtin "max") cMax2 := CallJ.of (call_max2 hc) fun E as st H xs ds Q w rs p => by
  unfold cMax2 at p
  split at p
  · obtain ⟨v, u, rfl, r, q⟩ := rs.two
    cases r; cases q
    exact ⟨_, _, rfl, p.val w (.int _)⟩
  · exact p.elim
def cInt : DC := fun ds st => match ds with
  | [.int i] => .ok (.int i) st
  | [.bl b] => .ok (.int (if b then 1 else 0)) st
  | _ => .bad
theorem cj_int : CallJ X cl (.type "int") cInt := CallJ.of call_int1 fun E as st H xs ds Q w rs p => by
  unfold cInt at p
  split at p
  · obtain ⟨v, rfl, r⟩ := rs.one
    cases r
    exact .inl ⟨_, rfl, p.val w (.int _)⟩
  · obtain ⟨v, rfl, r⟩ := rs.one
    cases r
    exact .inr ⟨_, rfl, p.val w (.int _)⟩
  · exact p.elim
/-- tuple(xs), list(xs) -/
def cTuple : DC := fun ds st => match ds with
  | [.tup xs] => .ok (.tup xs) st
  | [d] => match seqOf d st with
    | some xs => .ok (.tup xs) st
    | none => .bad
  | _ => .bad
theorem seqOf_list {K : PySem.W.Frag} {as : Mp} {st : Sto} {H : Hp} {d : D} {v : V} {ds : List D} (w : Wd K cl as st H) (r : Rep K as H d v) (h : seqOf d st = some ds) : (d = .tup ds) ∨ ∃ p xs, v = .ref p ∧ SqL K H p xs ∧ Reps K as H ds xs := by
  cases r with
  | tup s r => cases h; exact .inl rfl
  | lst n h1 r => cases h; exact .inr ⟨_, _, rfl, .of h1, r⟩
  | fro s r => cases h; exact .inr ⟨_, _, rfl, s.l, r⟩
  | @ref n a h1 =>
    have h : (match st[n]? with | some (.lst ds) => some ds | _ => none) = some ds := h
    cases hs : st[n]? with
    | none => rw [hs] at h; cases h
    | some o =>
      rw [hs] at h
      cases o with
      | lst es =>
        cases h
        obtain ⟨xs, h2, r⟩ := w.lst h1 hs
        exact .inr ⟨_, _, rfl, .of h2, r⟩
      | _ => cases h
  | _ => cases h
theorem cj_tuple : CallJ X cl (.type "tuple") cTuple := CallJ.of call_tuple_of fun E as st H xs ds Q w rs p => by
  unfold cTuple at p
  split at p
  · obtain ⟨v, rfl, r⟩ := rs.one
    cases r with
    | tup s r => exact ⟨_, _, rfl, .inr ⟨s.t, p.val w (.tup s r)⟩⟩
  · rename_i d hd
    obtain ⟨v, rfl, r⟩ := rs.one
    cases h1 : seqOf d st with
    | none => rw [h1] at p; exact p.elim
    | some ys =>
      rw [h1] at p
      rcases seqOf_list w r h1 with e | ⟨q, zs, rfl, hq, rz⟩
      · exact (hd ys e).elim
      · exact ⟨q, zs, rfl, .inl ⟨hq, p.newT w rz⟩⟩
  · exact p.elim
def cList : DC := fun ds st => match ds with
  | [d] => match seqOf d st with
    | some xs => .ok (.lst xs) st
    | none => .bad
  | _ => .bad
theorem cj_list : CallJ X cl (.type "list") cList := CallJ.of call_list_of fun E as st H xs ds Q w rs p => by
  unfold cList at p
  split at p
  · rename_i d
    obtain ⟨v, rfl, r⟩ := rs.one
    cases h1 : seqOf d st with
    | none => rw [h1] at p; exact p.elim
    | some ys =>
      rw [h1] at p
      obtain ⟨q, zs, rfl, hq, rz⟩ := seqOf_ok w r h1
      exact ⟨q, zs, rfl, hq, p.newL w rz⟩
  · exact p.elim
/-- .. that will change -/
def cListN : DC := fun ds st => match ds with
  | [d] => match seqOf d st with
    | some xs => .ok (.ref st.length) (st ++ [.lst xs])
    | none => .bad
  | _ => .bad
theorem cj_listN : CallJ X cl (.type "list") cListN := CallJ.of call_list_of fun E as st H xs ds Q w rs p => by
  unfold cListN at p
  split at p
  · rename_i d
    obtain ⟨v, rfl, r⟩ := rs.one
    cases h1 : seqOf d st with
    | none => rw [h1] at p; exact p.elim
    | some ys =>
      rw [h1] at p
      obtain ⟨q, zs, rfl, hq, rz⟩ := seqOf_ok w r h1
      exact ⟨q, zs, rfl, hq, fun a ha => p _ _ (Evo.push w ha) (w.push ha (.lst rz)) _ (Rep.newRef w)⟩
  · exact p.elim
/-- isinstance(x, T), T a built-in type -/
def tyNm : D → Sto → Option String
  | .non, _ => some "NoneType"
  | .bl _, _ => some "bool"
  | .int _, _ => some "int"
  | .str _, _ => some "str"
  | .tup _, _ => some "tuple"
  | .lst _, _ => some "list"
  | .fro _, _ => some "list"
  | .dic _, _ => some "dict"
  | .ref n, st => match st[n]? with
    | some (.lst _) => some "list"
    | some (.dK _) => some "dict"
    | _ => none
  | .raw _, _ => none
def isTy (T : String) (n : String) : Bool := n == T || (n == "bool" && T == "int")
def cIsi (T : String) : DC := fun ds st => match ds with
  | [d, .raw (.ty U)] => if U = T then (match tyNm d st with
    | some n => .ok (.bl (isTy T n)) st
    | none => .bad) else .bad
  | _ => .bad
theorem tyNm_ok {as : Mp} {st : Sto} {H : Hp} {d : D} {v : V} {n : String} (w : Wd X.K cl as st H) (r : Rep X.K as H d v) (h : tyNm d st = some n) :
    TyX X.K H v (.type n) ∧ n ∈ ["NoneType", "bool", "int", "str", "tuple", "list", "dict"] := by
  cases r with
  | non => cases h; exact ⟨.base .non, by decide⟩
  | bl b => cases h; exact ⟨.base (.bl _), by decide⟩
  | int i => cases h; exact ⟨.base (.int _), by decide⟩
  | str x => cases h; exact ⟨.base (.str _), by decide⟩
  | tup s r =>
    cases h
    rcases s with ⟨_, s⟩ | ⟨o, its, n, h1, h2, _⟩
    · exact ⟨.base (.tup s), by decide⟩
    · exact ⟨.kTuple h1 h2, by decide⟩
  | lst n h1 r => cases h; exact ⟨.base (.lst h1), by decide⟩
  | fro s r =>
    cases h
    rcases s with ⟨_, o, s⟩ | ⟨o, its, n, h1, h2, _⟩
    · exact ⟨.base (.frz s), by decide⟩
    · exact ⟨.kList h1 h2, by decide⟩
  | dic n h1 r => cases h; exact ⟨.base (.dK h1), by decide⟩
  | @ref m a h1 =>
    have h : (match st[m]? with | some (.lst _) => some "list" | some (.dK _) => some "dict" | _ => none) = some n := h
    cases hs : st[m]? with
    | none => rw [hs] at h; cases h
    | some o =>
      rw [hs] at h
      cases o with
      | lst es =>
        cases h
        obtain ⟨xs, h2, r⟩ := w.lst h1 hs
        exact ⟨.base (.lst h2), by decide⟩
      | dK es =>
        cases h
        obtain ⟨xs, h2, r⟩ := w.dK h1 hs
        exact ⟨.base (.dK h2), by decide⟩
      | _ => cases h
  | raw => cases h
theorem cj_isi {T : String} (hT : ∀ n ∈ ["NoneType", "bool", "int", "str", "tuple", "list", "dict"], PySem.W.kitOne X.K (.type n) (.type T) = some (isTy T n)) : CallJ X cl (.builtin "isinstance") (cIsi T) := CallJ.of call_isi fun E as st H xs ds Q w rs p => by
  unfold cIsi at p
  split at p
  · rename_i d U
    by_cases hU : U = T
    · rw [if_pos hU] at p
      subst hU
      obtain ⟨v, u, rfl, r, q⟩ := rs.two
      cases q
      cases h1 : tyNm d st with
      | none => rw [h1] at p; exact p.elim
      | some n =>
        rw [h1] at p
        obtain ⟨h2, h3⟩ := tyNm_ok w r h1
        exact ⟨v, .ty U, _, _, _, rfl, .ty U, h2, hT n h3, p.val w (.bl _)⟩
    · rw [if_neg hU] at p; exact p.elim
  · exact p.elim
theorem kit_all {K : PySem.W.Frag} {T : String} (h : (["NoneType", "bool", "int", "str", "tuple", "list", "dict"].all fun n => L2.kitB n T == some (isTy T n)) = true) :
    ∀ n ∈ ["NoneType", "bool", "int", "str", "tuple", "list", "dict"], PySem.W.kitOne K (.type n) (.type T) = some (isTy T n) := fun n hn => kit_ty (by
  have := List.all_eq_true.mp h n hn
  exact beq_iff_eq.mp this)
theorem cj_isi_int : CallJ X cl (.builtin "isinstance") (cIsi "int") := cj_isi (kit_all (by decide +kernel))
theorem cj_isi_bool : CallJ X cl (.builtin "isinstance") (cIsi "bool") := cj_isi (kit_all (by decide +kernel))
theorem cj_isi_str : CallJ X cl (.builtin "isinstance") (cIsi "str") := cj_isi (kit_all (by decide +kernel))
theorem cj_isi_tuple : CallJ X cl (.builtin "isinstance") (cIsi "tuple") := cj_isi (kit_all (by decide +kernel))
theorem cj_isi_list : CallJ X cl (.builtin "isinstance") (cIsi "list") := cj_isi (kit_all (by decide +kernel))
theorem cj_isi_dict : CallJ X cl (.builtin "isinstance") (cIsi "dict") := cj_isi (kit_all (by decide +kernel))
end
end DL

/-! DL4: subscripts, slices, dicts, fields, calls of defs, loops, comprehensions, methods of lists. -/
namespace DL
open PySem PySem.Spec PyProof.Rows L2

/-! ### subscripts -/
theorem pe_ixS {X : Cx} {a b : Expr} {t1 t2 : TE} {pos : Pos} {r : L2.St → R2} (hr : ∀ σ, IxR X (r σ)) (ha : PE X a t1) (hb : PE X b t2) (hs : PlainIx b) : PE X (.Subscript a b pos) (fun σ H Q => tOp (r σ) t1 t2 σ H Q) :=
  ⟨fun pins s σ H Q I h => (pe_ix (pos := pos) (hr σ) ha hb hs).run pins s σ H Q I h⟩
def dIx : D2 := fun x y st => match x, y with
  | .str z, .int i => if z.length ≤ sizeLine then (match atI z.cps.toList i with
    | some c => .ok (.str ⟨#[c]⟩) st
    | none => .bad) else .bad
  | x, .int i => match seqOf x st with
    | some ds => (match atI ds i with
      | some d => .ok d st
      | none => .bad)
    | none => .bad
  | _, _ => .bad
section
variable {X : Cx} {cl : Cl} {W : WX} {pos : Pos} {a b : Expr} {ta tb : DE}
theorem atI_rep {K : PySem.W.Frag} {as : Mp} {H : Hp} {ds : List D} {xs : List V} {i : Int} {d : D} (r : Reps K as H ds xs) (h : atI ds i = some d) : ∃ v, atI xs i = some v ∧ Rep K as H d v := by
  unfold atI at h ⊢
  rw [← r.len]
  cases hn : ixN ds.length i with
  | none => rw [hn] at h; cases h
  | some j =>
    rw [hn] at h
    obtain ⟨v, h1, h2⟩ := r.get (i := j) (d := d) h
    exact ⟨v, h1, h2⟩
theorem IxR.or3 {r r' r'' : R2} (h : IxR X r) (h' : IxR X r') (h'' : IxR X r'') : IxR X (fun x y H Q => r x y H Q ∨ r' x y H Q ∨ r'' x y H Q) := IxR.or h (IxR.or h' h'')
theorem ix_ok (E : XK) : IxR X (liftR X.K cl E dIx) := IxR.mono (IxR.or3 (X := X) ix_str ix_list ix_tup) fun x y H Q ⟨as, st, dx, dy, w, rx, ry, p⟩ => by
  unfold dIx at p
  split at p
  · rename_i z i
    cases rx; cases ry
    split at p
    · rename_i hz
      cases h : atI z.cps.toList i with
      | none => rw [h] at p; exact p.elim
      | some c => rw [h] at p; exact .inl ⟨_, _, _, rfl, rfl, hz, h, p.val w (.str _)⟩
    · exact p.elim
  · rename_i i _
    cases ry
    cases h1 : seqOf dx st with
    | none => rw [h1] at p; exact p.elim
    | some ds =>
      rw [h1] at p
      dsimp only at p
      obtain ⟨q, xs, rfl, hq, rs⟩ := seqOf_ok w rx h1
      cases h2 : atI ds i with
      | none => rw [h2] at p; exact p.elim
      | some d =>
        rw [h2] at p
        obtain ⟨v, h3, h4⟩ := atI_rep rs h2
        rcases hq with hq | hq
        · exact .inr (.inl ⟨q, xs, i, v, rfl, rfl, hq, h3, p.val w h4⟩)
        · exact .inr (.inr ⟨q, xs, i, v, rfl, rfl, hq, h3, p.val w h4⟩)
  · exact p.elim
theorem j_ix (ha : JE X cl W a ta) (hb : JE X cl W b tb) (hs : PlainIx b := by intro _ _; rfl) : JE X cl W (.Subscript a b pos) (dBin dIx ta tb) :=
  PE.mono (pe_ixS (fun σ => ix_ok (WE W σ)) ha hb hs) fun _ _ _ h => lift_bin h
end

/-! ### slices -/
abbrev DO := En → Sto → R (Option Int)
def liftO (K : PySem.W.Frag) (cl : Cl) (W : WX) (t : DO) : TO := fun σ H Q => ∃ as st τ, Wd K cl as st H ∧ RepE K as H τ σ ∧ Post K cl (WE W σ) as H (t τ st) fun o _ _ H' => Q o H'
abbrev JO (X : Cx) (cl : Cl) (W : WX) (e : Option Expr) (t : DO) : Prop := PO X e (liftO X.K cl W t)
theorem PO.mono {X : Cx} {e : Option Expr} {t t' : TO} (h : PO X e t) (k : ∀ σ H Q, t' σ H Q → t σ H Q) : PO X e t' := ⟨fun pins s σ H Q I q => h.run pins s σ H Q I (k _ _ _ q)⟩
def dNoPart : DO := fun _ st => .ok none st
def dPart (t : DE) : DO := fun τ st => (t τ st).bind fun d st => match d with
  | .int i => .ok (some i) st
  | _ => .bad
def cutL {α : Type} (xs : List α) (lo hi : Option Int) : List α := (xs.drop (HT.sIx xs.length 0 lo)).take (HT.sIx xs.length xs.length hi - HT.sIx xs.length 0 lo)
def dCut (x : D) (lo hi : Option Int) (st : Sto) : R D := match x with
  | .str z => if z.length ≤ sizeLine then .ok (.str (cutS z lo hi)) st else .bad
  | .tup ds => .ok (.tup (cutL ds lo hi)) st
  | x => match seqOf x st with
    | some ds => .ok (.lst (cutL ds lo hi)) st
    | none => .bad
def dSl (te : DE) (tl th : DO) : DE := fun τ st => (te τ st).bind fun x st => (tl τ st).bind fun lo st => (th τ st).bind fun hi st => dCut x lo hi st
section
variable {X : Cx} {cl : Cl} {W : WX} {pos p2 : Pos} {e : Expr} {lo hi : Option Expr} {te : DE} {tl th : DO}
theorem jo_none : JO X cl W none dNoPart := PO.mono po_none fun σ H Q ⟨as, st, τ, w, e, p⟩ => p.here w
theorem jo_some (h : JE X cl W e te) : JO X cl W (some e) (dPart te) := PO.mono (po_some h) fun σ H Q ⟨as, st, τ, w, e, p⟩ => ⟨as, st, τ, w, e, p.bind.mono fun d st1 as1 H1 e1 w1 p1 v rv => by
  cases d with
  | int i => cases rv; exact ⟨i, rfl, p1.here w1⟩
  | _ => exact p1.elim⟩
theorem cutL_whole {α : Type} {xs : List α} {lo hi : Option Int} (h : HT.sIx xs.length 0 lo = 0 ∧ HT.sIx xs.length xs.length hi = xs.length) : cutL xs lo hi = xs := by
  unfold cutL
  rw [h.1, h.2, List.drop_zero, Nat.sub_zero, List.take_length]
theorem Reps.cut {K : PySem.W.Frag} {as : Mp} {H : Hp} {ds : List D} {xs : List V} (r : Reps K as H ds xs) (lo hi : Option Int) : Reps K as H (cutL ds lo hi) (cutV xs lo hi) := by
  unfold cutL cutV
  rw [r.len]
  exact (r.drop _).take _
theorem SlR.mono {r r' : V → Option Int → Option Int → Hp → VK → Prop} (h : SlR X r) (k : ∀ x lo hi H Q, r' x lo hi H Q → r x lo hi H Q) : SlR X r' := fun pins s σ H x v vl vu lo hi sl Q I rx hs pl pu q => h pins s σ H x v vl vu lo hi sl Q I rx hs pl pu (k _ _ _ _ _ q)
def rSlD (K : PySem.W.Frag) (cl : Cl) (E : XK) : V → Option Int → Option Int → Hp → VK → Prop := fun x lo hi H Q => ∃ as st d, Wd K cl as st H ∧ Rep K as H d x ∧ Post K cl E as H (dCut d lo hi st) (QV K Q)
theorem sl_ok (E : XK) : SlR X (rSlD X.K cl E) := SlR.mono (SlR.or (X := X) sl_str (SlR.or sl_tupA sl_list)) fun x lo hi H Q ⟨as, st, d, w, rx, p⟩ => by
  unfold dCut at p
  split at p
  · cases rx
    split at p
    · rename_i hz
      exact .inl ⟨_, rfl, hz, p.val w (.str _)⟩
    · exact p.elim
  · cases rx with
    | tup s r =>
      refine .inr (.inl ⟨_, _, rfl, s.t, fun hw => ?_, fun _ => p.newT w (r.cut lo hi)⟩)
      rw [cutL_whole (by rw [r.len]; exact hw)] at p
      exact p.val w (.tup s r)
  · rename_i hx1 hx2
    cases h1 : seqOf d st with
    | none => rw [h1] at p; exact p.elim
    | some ds =>
      rw [h1] at p
      rcases seqOf_list w rx h1 with e | ⟨q, xs, rfl, hq, rs⟩
      · exact (hx2 ds e).elim
      · exact .inr (.inr ⟨q, xs, rfl, hq, p.newL w (rs.cut lo hi)⟩)
theorem pe_sliceS {r : L2.St → V → Option Int → Option Int → Hp → VK → Prop} {t1 : TE} {t2 t3 : TO} (hr : ∀ σ, SlR X (r σ)) (he : PE X e t1) (hl : PO X lo t2) (hu : PO X hi t3) : PE X (.Subscript e (.Slice lo hi none p2) pos) (fun σ H Q => tSl (r σ) t1 t2 t3 σ H Q) :=
  ⟨fun pins s σ H Q I h => (pe_slice (pos := pos) (p2 := p2) (hr σ) he hl hu).run pins s σ H Q I h⟩
theorem j_slice (he : JE X cl W e te) (hl : JO X cl W lo tl) (hu : JO X cl W hi th) : JE X cl W (.Subscript e (.Slice lo hi none p2) pos) (dSl te tl th) :=
  PE.mono (pe_sliceS (fun σ => sl_ok (WE W σ)) he hl hu) fun σ H Q ⟨as, st, τ, w, e, p⟩ => ⟨as, st, τ, w, e, p.bind.mono fun d st1 as1 H1 e1 w1 p1 x rx => ⟨as1, st1, τ, w1, e.evo e1, p1.bind.mono fun l st2 as2 H2 e2 w2 p2 =>
    ⟨as2, st2, τ, w2, (e.evo e1).evo e2, p2.bind.mono fun h st3 as3 H3 e3 w3 p3 => ⟨as3, st3, d, w3, (rx.evo e2).evo e3, p3⟩⟩⟩⟩
end

/-! ### dicts -/
section
variable {κ α : Type} [DecidableEq κ]
def valD (kvs : List (κ × α)) (k : κ) : Option α := match kvs with
  | [] => none
  | (k', v) :: r => if k' = k then some v else valD r k
def setD (kvs : List (κ × α)) (k : κ) (v : α) : List (κ × α) := match kvs with
  | [] => []
  | (k', u) :: r => if k' = k then (k', v) :: setD r k v else (k', u) :: setD r k v
def putD (kvs : List (κ × α)) (k : κ) (v : α) : List (κ × α) := if (valD kvs k).isSome then setD kvs k v else kvs ++ [(k, v)]
def dropD (kvs : List (κ × α)) (k : κ) : List (κ × α) := match kvs with
  | [] => []
  | (k', u) :: r => if k' = k then dropD r k else (k', u) :: dropD r k
end
def keyOf : D → Option Key
  | .int i => some (.inl i)
  | .str x => some (.inr x)
  | _ => none
section
variable {K : PySem.W.Frag} {as : Mp} {H : Hp} {κ : Type} [DecidableEq κ]
theorem keyOf_ok {d : D} {v : V} {k : Key} (r : Rep K as H d v) (h : keyOf d = some k) : v = kV k := by
  cases r <;> cases h <;> rfl
theorem valD_ok {k : κ} : ∀ {kvs : List (κ × D)} {xs : List (κ × V)}, RepF K as H kvs xs → (valD kvs k = none ∧ valV xs k = none) ∨ ∃ d v, valD kvs k = some d ∧ valV xs k = some v ∧ Rep K as H d v
  | _, _, .nil => .inl ⟨rfl, rfl⟩
  | _, _, .cons (k := k') r t => by
    unfold valD
    by_cases e : k' = k
    · rw [if_pos e, valV_pos (p := (k', _)) e]; exact .inr ⟨_, _, rfl, rfl, r⟩
    · rw [if_neg e, valV_neg (p := (k', _)) e]; exact valD_ok t
theorem RepF.append {kvs kvs' : List (κ × D)} {xs xs' : List (κ × V)} (r : RepF K as H kvs xs) (r' : RepF K as H kvs' xs') : RepF K as H (kvs ++ kvs') (xs ++ xs') := by
  induction r with
  | nil => exact r'
  | cons q _ ih => exact .cons q ih
theorem setD_ok {k : κ} {d : D} {v : V} (q : Rep K as H d v) {kvs : List (κ × D)} {xs : List (κ × V)} (r : RepF K as H kvs xs) : RepF K as H (setD kvs k d) (xs.map fun kv => if kv.1 = k then (kv.1, v) else kv) := by
  induction r with
  | nil => exact .nil
  | @cons k' d' v' ds vs r t ih =>
    unfold setD
    rw [List.map_cons]
    by_cases e : k' = k
    · rw [if_pos e]; simp only [e, if_true]; exact .cons q ih
    · rw [if_neg e]; simp only [e, if_false]; exact .cons r ih
theorem putD_ok {k : κ} {d : D} {v : V} (q : Rep K as H d v) {kvs : List (κ × D)} {xs : List (κ × V)} (r : RepF K as H kvs xs) : RepF K as H (putD kvs k d) (putK xs k v) := by
  unfold putD putK
  rw [valV_any]
  rcases valD_ok (k := k) r with ⟨h1, h2⟩ | ⟨d', v', h1, h2, _⟩
  · rw [h1, h2]; exact r.append (.cons q .nil)
  · rw [h1, h2]; exact setD_ok q r
theorem dropD_ok {k : κ} {kvs : List (κ × D)} {xs : List (κ × V)} (r : RepF K as H kvs xs) : RepF K as H (dropD kvs k) (dropK xs k) := by
  induction r with
  | nil => exact .nil
  | @cons k' d' v' ds vs r t ih =>
    unfold dropD dropK
    rw [List.filter_cons]
    by_cases e : k' = k
    · rw [if_pos e]; simp only [e, ne_eq, not_true_eq_false, decide_false, Bool.false_eq_true, if_false]; exact ih
    · rw [if_neg e]; simp only [e, ne_eq, not_false_eq_true, decide_true, if_true]; exact .cons r ih
end
def dGetK : D2 := fun x y st => match dicOf x st, keyOf y with
  | some kvs, some k => (match valD kvs k with
    | some d => .ok d st
    | none => .bad)
  | _, _ => .bad
def dInK (neg : Bool) : D2 := fun y x st => match dicOf x st, keyOf y with
  | some kvs, some k => .ok (.bl (neg ^^ (valD kvs k).isSome)) st
  | _, _ => .bad
/-- d[k] = v for a dict of the store -/
def sPutK (x y v : D) (τ : En) (st : Sto) : R (Fl × En) := match x, keyOf y with
  | .ref n, some k => match st[n]? with
    | some (.dK kvs) => if kvs.length < sizeLine then .ok (.nx, τ) (st.set n (.dK (putD kvs k v))) else .bad
    | _ => .bad
  | _, _ => .bad
def sDelK (x y : D) (τ : En) (st : Sto) : R (Fl × En) := match x, keyOf y with
  | .ref n, some k => match st[n]? with
    | some (.dK kvs) => if (valD kvs k).isSome then .ok (.nx, τ) (st.set n (.dK (dropD kvs k))) else .bad
    | _ => .bad
  | _, _ => .bad
def dPutS (td ty tv : DE) : DS := fun τ st => (tv τ st).stm τ fun v st => (td τ st).stm τ fun x st => (ty τ st).stm τ fun y st => sPutK x y v τ st
def dDelS (td ty : DE) : DS := fun τ st => (td τ st).stm τ fun x st => (ty τ st).stm τ fun y st => sDelK x y τ st
section
variable {X : Cx} {cl : Cl} {W : WX} {pos pos' tpos : Pos} {o i value : Expr} {td ty tv : DE}
theorem j_dget (hu : X.A.units + 1 < cLine) (ho : JE X cl W o td) (hi : JE X cl W i ty) (hs : NoSl i := by intro _ _; rfl) : JE X cl W (.Subscript o i pos) (dBin dGetK td ty) := by
  refine PE.mono (pe_dget hu ho hi hs) fun σ H Q ⟨as, st, τ, w, e, p⟩ => ⟨as, st, τ, w, e, p.bind.mono fun d st1 as1 H1 e1 w1 p1 x rx => ⟨as1, st1, τ, w1, e.evo e1, p1.bind.mono fun y st2 as2 H2 e2 w2 p2 yv ry => ?_⟩⟩
  unfold dGetK at p2
  cases h1 : dicOf d st2 with
  | none => rw [h1] at p2; exact p2.elim
  | some kvs =>
    cases h2 : keyOf y with
    | none => rw [h1, h2] at p2; exact p2.elim
    | some k =>
      rw [h1, h2] at p2
      dsimp only at p2
      obtain ⟨q, xs, rfl, hq, rs⟩ := dicOf_ok w2 (rx.evo e2) h1
      have hy := keyOf_ok ry h2
      subst hy
      rcases valD_ok (k := k) rs with ⟨h3, _⟩ | ⟨d', v', h3, h4, r'⟩
      · rw [h3] at p2; exact p2.elim
      · rw [h3] at p2
        exact ⟨q, v', rfl, by rw [← h4]; exact DGet.k hq, p2.val w2 r'⟩
theorem dInK_ok {E : XK} {as : Mp} {st : Sto} {H : Hp} {x y : V} {dx dy : D} {Q : VK} {neg : Bool} (w : Wd X.K cl as st H) (ry : Rep X.K as H dy y) (rx : Rep X.K as H dx x) (p : Post X.K cl E as H (dInK neg dy dx st) (QV X.K Q)) :
    ∃ a o, x = .ref a ∧ DGet H a y o ∧ Q (.bl (neg ^^ o.isSome)) H := by
  unfold dInK at p
  cases h1 : dicOf dx st with
  | none => rw [h1] at p; exact p.elim
  | some kvs =>
    cases h2 : keyOf dy with
    | none => rw [h1, h2] at p; exact p.elim
    | some k =>
      rw [h1, h2] at p
      dsimp only at p
      obtain ⟨q, xs, rfl, hq, rs⟩ := dicOf_ok w rx h1
      have hy := keyOf_ok ry h2
      subst hy
      refine ⟨q, valV xs k, rfl, DGet.k hq, ?_⟩
      rcases valD_ok (k := k) rs with ⟨h3, h4⟩ | ⟨d', v', h3, h4, r'⟩
      · rw [h3] at p; rw [h4]; exact p.val w (.bl _)
      · rw [h3] at p; rw [h4]; exact p.val w (.bl _)
theorem lift_din {neg : Bool} {σ : L2.St} {H : Hp} {Q : VK} (h : lift X.K cl W (dBin (dInK neg) ty td) σ H Q) :
    lift X.K cl W ty σ H fun y H1 => lift X.K cl W td σ H1 fun x H2 => ∃ a o, x = .ref a ∧ DGet H2 a y o ∧ Q (.bl (neg ^^ o.isSome)) H2 := by
  obtain ⟨as, st, τ, w, e, p⟩ := h
  exact ⟨as, st, τ, w, e, p.bind.mono fun d st1 as1 H1 e1 w1 p1 x rx => ⟨as1, st1, τ, w1, e.evo e1, p1.bind.mono fun y st2 as2 H2 e2 w2 p2 yv ry => dInK_ok w2 (rx.evo e2) ry p2⟩⟩
theorem fx {b : Bool} : (false ^^ b) = b := Bool.false_xor b
theorem lift_din0 {σ : L2.St} {H : Hp} {Q : VK} (h : lift X.K cl W (dBin (dInK false) ty td) σ H Q) : tDIn (lift X.K cl W ty) (lift X.K cl W td) σ H Q := by
  have h := lift_din h
  simp only [Bool.false_xor] at h
  exact h
theorem lift_din1 {σ : L2.St} {H : Hp} {Q : VK} (h : lift X.K cl W (dBin (dInK true) ty td) σ H Q) : tDNotIn (lift X.K cl W ty) (lift X.K cl W td) σ H Q := by
  have h := lift_din h
  simp only [Bool.true_xor] at h
  exact h
theorem j_din (hu : X.A.units + 1 < cLine) (hi : JE X cl W i ty) (ho : JE X cl W o td) (hm : behindInMarks .In o = false := by rfl) : JE X cl W (.Compare i [.In] [o] pos) (dBin (dInK false) ty td) := PE.mono (pe_cmp (pc_din hu hi ho) hm) fun _ _ _ h => lift_din0 h
theorem j_dnotin (hu : X.A.units + 1 < cLine) (hi : JE X cl W i ty) (ho : JE X cl W o td) (hm : behindInMarks .NotIn o = false := by rfl) : JE X cl W (.Compare i [.NotIn] [o] pos) (dBin (dInK true) ty td) := PE.mono (pe_cmp (pc_dnotin hu hi ho) hm) fun _ _ _ h => lift_din1 h
theorem Post.ok {α : Type} {K : PySem.W.Frag} {E : XK} {as : Mp} {H : Hp} {st : Sto} {a : α} {Q : α → Sto → Mp → Hp → Prop} (p : Post K cl E as H (.ok a st) Q) {as' : Mp} {H' : Hp} (e : Evo as H as' H') (w : Wd K cl as' st H') : Q a st as' H' := p as' H' e w
theorem Rep.refAt {K : PySem.W.Frag} {as : Mp} {H : Hp} {n : Nat} {v : V} (r : Rep K as H (.ref n) v) : ∃ a, v = .ref a ∧ as.m[n]? = some a := by
  cases r with
  | ref h => exact ⟨_, rfl, h⟩
theorem js_dput (hu : X.A.units + 1 < cLine) (ho : JE X cl W o td) (hi : JE X cl W i ty) (hv : JE X cl W value tv) (hs : swapsWith value (some (.Subscript o i pos')) pos.line X.env = pure false := by rfl) :
    JS X cl W (.Assign [.Subscript o i pos'] value pos) (dPutS td ty tv) := by
  refine PS.mono (ps_dput hu ho hi hv hs) fun M σ H ⟨as, st, τ, w, e, p⟩ => ⟨as, st, τ, w, e, (Post.stm e p).mono fun d st1 as1 H1 e1 w1 p1 v rv => ?_⟩
  refine ⟨as1, st1, τ, w1, e.evo e1, (Post.stm (e.evo e1) p1).mono fun d2 st2 as2 H2 e2 w2 p2 x rx => ?_⟩
  refine ⟨as2, st2, τ, w2, (e.evo e1).evo e2, (Post.stm ((e.evo e1).evo e2) p2).mono fun d3 st3 as3 H3 e3 w3 p3 y ry => ?_⟩
  have rx3 := rx.evo e3
  unfold sPutK at p3
  split at p3
  · rename_i n k hk
    obtain ⟨a, rfl, ha⟩ := rx3.refAt
    split at p3
    · rename_i kvs hn
      split at p3
      · rename_i hl
        obtain ⟨xs, hH, rs⟩ := w3.dK ha hn
        have hy := keyOf_ok ry hk
        subst hy
        refine ⟨a, _, rfl, DPut.k hH (by rw [← rs.len]; exact hl), ?_⟩
        exact p3.ok (Evo.wr w3 ha) (w3.wr ha (.dK (putD_ok ((rv.evo e2).evo e3) rs))) σ ((((e.evo e1).evo e2).evo e3).evo (Evo.wr w3 ha))
      · exact p3.elim
    · exact p3.elim
  · exact p3.elim
theorem js_ddel (ho : JE X cl W o td) (hi : JE X cl W i ty) : JS X cl W (.Delete [.Subscript o i tpos] pos) (dDelS td ty) := by
  refine PS.mono (ps_ddel ho hi) fun M σ H ⟨as, st, τ, w, e, p⟩ => ⟨as, st, τ, w, e, (Post.stm e p).mono fun d2 st2 as2 H2 e2 w2 p2 x rx => ?_⟩
  refine ⟨as2, st2, τ, w2, e.evo e2, (Post.stm (e.evo e2) p2).mono fun d3 st3 as3 H3 e3 w3 p3 y ry => ?_⟩
  have rx3 := rx.evo e3
  unfold sDelK at p3
  split at p3
  · rename_i n k hk
    obtain ⟨a, rfl, ha⟩ := rx3.refAt
    split at p3
    · rename_i kvs hn
      split at p3
      · rename_i hl
        obtain ⟨xs, hH, rs⟩ := w3.dK ha hn
        have hy := keyOf_ok ry hk
        subst hy
        refine ⟨a, xs, k, rfl, hH, rfl, ?_, ?_⟩
        · rcases valD_ok (k := k) rs with ⟨h3, h4⟩ | ⟨d', v', h3, h4, r'⟩
          · rw [h3] at hl; cases hl
          · rw [h4]; rfl
        · exact p3.ok (Evo.wr w3 ha) (w3.wr ha (.dK (dropD_ok rs))) σ (((e.evo e2).evo e3).evo (Evo.wr w3 ha))
      · exact p3.elim
    · exact p3.elim
  · exact p3.elim
end

/-! ### dict displays -/
abbrev DPs := En → Sto → R (List (Key × D))
def dPNil : DPs := fun _ st => .ok [] st
def dPCons (tk tv : DE) (u : DPs) : DPs := fun τ st => (tk τ st).bind fun k st => (tv τ st).bind fun v st => (u τ st).bind fun r st => match keyOf k with
  | some k => .ok ((k, v) :: r) st
  | none => .bad
def mergeD (kvs : List (Key × D)) : List (Key × D) := kvs.foldl (fun acc kv => putD acc kv.1 kv.2) []
/-- a new dict of the store; one that nobody changes -/
def dDisp (t : DPs) : DE := fun τ st => (t τ st).bind fun kvs st => if kvs.length ≤ 15 then .ok (.ref st.length) (st ++ [.dK (mergeD kvs)]) else .bad
def dDispF (t : DPs) : DE := fun τ st => (t τ st).bind fun kvs st => if kvs.length ≤ 15 then .ok (.dic (mergeD kvs)) st else .bad
/-- the readings of a display's pairs -/
inductive JPs (X : Cx) (cl : Cl) (W : WX) : Pos → List (Option Expr) → List Expr → List (TE × TE) → DPs → Prop
  | nil {pos : Pos} : JPs X cl W pos [] [] [] dPNil
  | cons {pos : Pos} {k v : Expr} {ks : List (Option Expr)} {vs : List Expr} {tk tv : DE} {trs : List (TE × TE)} {u : DPs} : JE X cl W k tk → JE X cl W v tv → JPs X cl W pos ks vs trs u →
      JPs X cl W pos (some k :: ks) (v :: vs) ((lift X.K cl W tk, lift X.K cl W tv) :: trs) (dPCons tk tv u)
section
variable {X : Cx} {cl : Cl} {W : WX} {pos : Pos}
theorem JPs.pps {ks : List (Option Expr)} {vs : List Expr} {trs : List (TE × TE)} {u : DPs} (h : JPs X cl W pos ks vs trs u) : PPs X pos ks vs trs := by
  induction h with
  | nil => exact pps_nil
  | cons h1 h2 _ ih => exact pps_cons h1 h2 ih
theorem JPs.run {ks : List (Option Expr)} {vs : List Expr} {trs : List (TE × TE)} {u : DPs} (h : JPs X cl W pos ks vs trs u) : ∀ {as : Mp} {st : Sto} {τ : En} {σ : L2.St} {H : Hp} {Q : List (V × V) → Hp → Prop}, Wd X.K cl as st H → RepE X.K as H τ σ →
    Post X.K cl (WE W σ) as H (u τ st) (fun kvs st' as' H' => ∀ xs : List (Key × V), RepF X.K as' H' kvs xs → Q (xs.map fun kv => (kV kv.1, kv.2)) H') → tPairs trs σ H Q := by
  induction h with
  | nil => exact fun w e p => p.here w [] .nil
  | cons h1 h2 _ ih =>
    intro as st τ σ H Q w e p
    refine ⟨as, st, τ, w, e, p.bind.mono fun d st1 as1 H1 e1 w1 p1 x rx => ⟨as1, st1, τ, w1, e.evo e1, p1.bind.mono fun y st2 as2 H2 e2 w2 p2 yv ry => ?_⟩⟩
    refine ih w2 ((e.evo e1).evo e2) (p2.bind.mono fun r st3 as3 H3 e3 w3 p3 xs rs => ?_)
    cases hk : keyOf d with
    | none => rw [hk] at p3; exact p3.elim
    | some k =>
      rw [hk] at p3
      have hx := keyOf_ok ((rx.evo e2).evo e3) hk
      subst hx
      exact p3.here w3 ((k, yv) :: xs) (.cons (ry.evo e3) rs)
theorem mergeD_ok {K : PySem.W.Frag} {as : Mp} {H : Hp} {kvs : List (Key × D)} {xs : List (Key × V)} (r : RepF K as H kvs xs) : RepF K as H (mergeD kvs) (mergeK [] xs) := by
  unfold mergeD mergeK
  suffices h : ∀ (acc : List (Key × D)) (bcc : List (Key × V)), RepF K as H acc bcc → RepF K as H (kvs.foldl (fun acc kv => putD acc kv.1 kv.2) acc) (xs.foldl (fun acc kv => putK acc kv.1 kv.2) bcc) from h [] [] .nil
  induction r with
  | nil => exact fun _ _ h => h
  | cons q _ ih => exact fun acc bcc h => ih _ _ (putD_ok q h)
theorem RepX.mv {K : PySem.W.Frag} {cl : Cl} {as as' : Mp} {H H' : Hp} {x : Exn} {u : Value} {dx : Option Addr} (e : Mv as H as' H') (r : RepX K cl as H x u dx) : RepX K cl as' H' x u dx := by
  obtain ⟨h, r⟩ := r
  refine ⟨h, r.imp id fun ⟨d, fx, h1, h2, h3, h4⟩ => let q := e.k _ _ h3 h2; ⟨d, fx, h1, q.1, q.2, h4.mv e⟩⟩
theorem j_disp {ks : List (Option Expr)} {vs : List Expr} {trs : List (TE × TE)} {u : DPs} (h : JPs X cl W pos ks vs trs u) (hall : ks.all (·.isSome) = true := by rfl) (hl : ks.length = vs.length := by rfl) (h0 : ks ≠ [] := by decide)
    (h15 : ks.length ≤ 15 := by decide) : JE X cl W (.Dict ks vs pos) (dDisp u) := by
  refine PE.mono (pe_disp h.pps hall hl h0 h15) fun σ H Q ⟨as, st, τ, w, e, p⟩ a ha => ?_
  have m0 : Mk1 as H a (as.hide a) (upd H a (.dK [])) := Mk1.start w ha
  refine h.run (w.hide ha) (e.mv (Mv.hide ha)) ?_
  unfold dDisp at p
  cases hr : u τ st with
  | bad => rw [hr] at p; exact p.elim
  | exc x st1 =>
    rw [hr] at p
    intro c dx as1 H1 e1 w1 r1
    obtain ⟨m1, k1⟩ := m0.next e1 w
    exact p c dx _ H1 m1.evo (m1.fix w w1).1 (r1.mv m1.mv)
  | ok kvs st1 =>
    rw [hr] at p
    intro as1 H1 e1 w1 xs rs
    obtain ⟨m1, k1⟩ := m0.next e1 w
    have p : Post X.K cl (WE W σ) as H (if kvs.length ≤ 15 then .ok (.ref st1.length) (st1 ++ [.dK (mergeD kvs)]) else .bad) (QV X.K Q) := p
    split at p
    · rename_i hl
      refine ⟨k1.trans upd_same, xs, rfl, by rw [← rs.len]; exact hl, ?_⟩
      have m2 : Mk1 as H a as1 (upd H1 a (.dK (mergeK [] xs))) := m1.set w
      obtain ⟨e2, w2⟩ := m2.push w (w1.wrx m1.mem) upd_same (.dK ((mergeD_ok rs).mv (Mv.side (.inr m1.mem))))
      refine p _ _ e2 w2 _ (.ref ?_)
      show (as1.m ++ [a])[st1.length]? = some a
      rw [← w1.len]; simp
    · exact p.elim
end
end DL

/-! DL5: fields, calls of defs, loops, comprehensions, methods of lists. -/
namespace DL
open PySem PySem.Spec PyProof.Rows L2

/-! ### fields -/
def getF (fs : List (Str × D)) (f : Str) : Option D := valD fs f
def fldV (f : Str) (cs : List Str) (d : D) (st : Sto) : R D := match d with
  | .ref n => match st[n]? with
    | some (.ins c fs) => if c ∈ cs then (match valD fs f with
      | some d => .ok d st
      | none => .bad) else .bad
    | _ => .bad
  | _ => .bad
def dFld (f : Str) (cs : List Str) (t : DE) : DE := fun τ st => (t τ st).bind fun d st => fldV f cs d st
def putFD (f : Str) (v : D) : List (Str × D) → List (Str × D)
  | [] => [(f, v)]
  | (g, x) :: r => if g = f then (g, v) :: r else (g, x) :: putFD f v r
def setF (f : Str) (cs : List Str) (d v : D) (τ : En) (st : Sto) : R (Fl × En) := match d with
  | .ref n => match st[n]? with
    | some (.ins c fs) => if c ∈ cs ∧ fs.length < 1000 then .ok (.nx, τ) (st.set n (.ins c (putFD f v fs))) else .bad
    | _ => .bad
  | _ => .bad
def dFldS (f : Str) (cs : List Str) (to tv : DE) : DS := fun τ st => (tv τ st).stm τ fun v st => (to τ st).stm τ fun d st => setF f cs d v τ st
/-- the classes' facts for a field -/
def FldOk (K : PySem.W.Frag) (cl : Cl) (f : Str) (cs : List Str) : Prop := ∀ c ∈ cs, Cls K (cl c) ∧ NoAttr K (cl c) f
section
variable {K : PySem.W.Frag} {as : Mp} {H : Hp}
theorem lookup_rep {f : Str} : ∀ {fs : List (Str × D)} {fx : List (Str × V)} {d : D}, RepF K as H fs fx → valD fs f = some d → ∃ v, fx.lookup f = some v ∧ Rep K as H d v
  | _, _, _, .nil, h => by cases h
  | _, _, d, .cons (k := k) r t, h => by
    unfold valD at h
    by_cases e : k = f
    · rw [if_pos e] at h; cases h
      refine ⟨_, ?_, r⟩
      rw [e, List.lookup_cons, beq_self_eq_true]
    · rw [if_neg e] at h
      obtain ⟨v, h1, h2⟩ := lookup_rep t h
      refine ⟨v, ?_, h2⟩
      rw [List.lookup_cons, show (f == k) = false from beq_eq_false_iff_ne.mpr (Ne.symm e)]
      exact h1
theorem lookup_none {f : Str} : ∀ {fs : List (Str × D)} {fx : List (Str × V)}, RepF K as H fs fx → valD fs f = none → fx.lookup f = none
  | _, _, .nil, _ => rfl
  | _, _, .cons (k := k) r t, h => by
    unfold valD at h
    by_cases e : k = f
    · rw [if_pos e] at h; cases h
    · rw [if_neg e] at h
      rw [List.lookup_cons, show (f == k) = false from beq_eq_false_iff_ne.mpr (Ne.symm e)]
      exact lookup_none t h
end
section
variable {K : PySem.W.Frag} {as : Mp} {H : Hp}
theorem putFD_ok {f : Str} {d : D} {v : V} (q : Rep K as H d v) : ∀ {fs : List (Str × D)} {fx : List (Str × V)}, RepF K as H fs fx → RepF K as H (putFD f d fs) (putF f v fx)
  | _, _, .nil => .cons q .nil
  | _, _, .cons (k := k) r t => by
    unfold putFD putF
    by_cases e : k = f
    · rw [if_pos e, if_pos e]; exact .cons q t
    · rw [if_neg e, if_neg e]; exact .cons r (putFD_ok q t)
end
section
variable {X : Cx} {cl : Cl} {W : WX} {pos pos' : Pos} {e o value : Expr} {te to tv : DE} {f : Str} {cs : List Str}
theorem j_fld (hf : FldOk X.K cl f cs) (he : JE X cl W e te) (hb : attributeBase e f X.env (eval e X.env) = eval e X.env := by rfl) : JE X cl W (.Attribute e f pos) (dFld f cs te) := by
  refine PE.mono (pe_fld he hb) fun σ H Q ⟨as, st, τ, w, e, p⟩ => ⟨as, st, τ, w, e, p.bind.mono fun d st1 as1 H1 e1 w1 p1 v rv => ?_⟩
  unfold fldV at p1
  split at p1
  · rename_i n
    obtain ⟨a, rfl, ha⟩ := rv.refAt
    split at p1
    · rename_i c fs hn
      split at p1
      · rename_i hc
        obtain ⟨dx, fx, hH, rs⟩ := w1.ins ha hn
        cases hv : valD fs f with
        | none => rw [hv] at p1; exact p1.elim
        | some d =>
          rw [hv] at p1
          obtain ⟨v, h1, h2⟩ := lookup_rep rs hv
          exact ⟨a, cl c, dx, fx, v, rfl, hH, (hf c hc).1, (hf c hc).2, h1, p1.val w1 h2⟩
      · exact p1.elim
    · exact p1.elim
  · exact p1.elim
theorem js_fld (hf : FldOk X.K cl f cs) (ho : JE X cl W o to) (hv : JE X cl W value tv) (hs : swapsWith value (some (.Attribute o f pos')) pos.line X.env = pure false := by rfl) : JS X cl W (.Assign [.Attribute o f pos'] value pos) (dFldS f cs to tv) := by
  refine PS.mono (ps_fld ho hv hs) fun M σ H ⟨as, st, τ, w, e, p⟩ => ⟨as, st, τ, w, e, (Post.stm e p).mono fun d st1 as1 H1 e1 w1 p1 y ry => ?_⟩
  refine ⟨as1, st1, τ, w1, e.evo e1, (Post.stm (e.evo e1) p1).mono fun d2 st2 as2 H2 e2 w2 p2 x rx => ?_⟩
  unfold setF at p2
  split at p2
  · rename_i n
    obtain ⟨a, rfl, ha⟩ := rx.refAt
    split at p2
    · rename_i c fs hn
      split at p2
      · rename_i hc
        obtain ⟨dx, fx, hH, rs⟩ := w2.ins ha hn
        refine ⟨a, cl c, dx, fx, rfl, hH, (hf c hc.1).1, (hf c hc.1).2, by rw [← rs.len]; exact hc.2, ?_⟩
        exact p2.ok (Evo.wr w2 ha) (w2.wr ha (.ins (putFD_ok (ry.evo e2) rs))) σ (((e.evo e1).evo e2).evo (Evo.wr w2 ha))
      · exact p2.elim
    · exact p2.elim
  · exact p2.elim
/-- o.f op= e -/
def dFldAug (f : Str) (cs : List Str) (to tv : DE) (r : D2) : DS := fun τ st => (to τ st).stm τ fun d st => (fldV f cs d st).stm τ fun x st => (tv τ st).stm τ fun y st => (r x y st).stm τ fun z st => setF f cs d z τ st
theorem fldV_ok {K : PySem.W.Frag} {as : Mp} {H : Hp} {st : Sto} {d : D} {v : V} {E : XK} {Q : D → Sto → Mp → Hp → Prop} (w : Wd K cl as st H) (rv : Rep K as H d v) (p : Post K cl E as H (fldV f cs d st) Q) :
    ∃ a n c fs dx fx d' v', d = .ref n ∧ st[n]? = some (.ins c fs) ∧ c ∈ cs ∧ v = .ref a ∧ as.m[n]? = some a ∧ H a = some (.ins (cl c) dx fx) ∧ RepF K as H fs fx ∧ fx.lookup f = some v' ∧ Rep K as H d' v' ∧ fldV f cs d st = .ok d' st := by
  unfold fldV at p ⊢
  split at p
  · rename_i n
    obtain ⟨a, rfl, ha⟩ := rv.refAt
    split at p
    · rename_i c fs hn
      split at p
      · rename_i hc
        obtain ⟨dx, fx, hH, rs⟩ := w.ins ha hn
        cases hv : valD fs f with
        | none => rw [hv] at p; exact p.elim
        | some d =>
          obtain ⟨v, h1, h2⟩ := lookup_rep rs hv
          refine ⟨a, n, c, fs, dx, fx, d, v, rfl, hn, hc, rfl, ha, hH, rs, h1, h2, ?_⟩
          simp only [hn, hc, if_true, hv]
      · exact p.elim
    · exact p.elim
  · exact p.elim
theorem js_fldaug {op : Operator} {r : D2} {k : Str} (hf : FldOk X.K cl f [k]) (ho : JE X cl W o to) (hv : JE X cl W value tv) (hop : OpJ X cl (inplaceOp op) r) : JS X cl W (.AugAssign (.Attribute o f pos') op value pos) (dFldAug f [k] to tv r) := by
  have hop' : ∀ E, InOp X op (liftR X.K cl E r) := fun E pins s σ H x y v u Q I r1 r2 q => hop E pins s σ H x y v u Q I r1 r2 q
  refine ⟨fun pins s σ H M I ⟨as, st, τ, w, e, p⟩ => (ps_fldaug (tpos := pos') (pos := pos) ho hv (hop' (WE W σ))).run pins s σ H M I ⟨as, st, τ, w, e, (Post.stm e p).mono fun d st1 as1 H1 e1 w1 p1 x rx => ?_⟩⟩
  obtain ⟨a, n, c, fs, dx, fx, d', v', rfl, hn, hc, rfl, ha, hH, rs, h1, h2, h3⟩ := fldV_ok w1 rx (Post.stm (W := W) (e.evo e1) p1)
  refine ⟨a, cl c, dx, fx, v', rfl, hH, (hf c hc).1, (hf c hc).2, h1, ?_⟩
  rw [h3] at p1
  replace p1 : Post X.K cl E00 as1 H1 ((tv τ st1).stm τ fun y st => (r d' y st).stm τ fun z st => setF f [k] (.ref n) z τ st) _ := p1
  refine ⟨as1, st1, τ, w1, e.evo e1, (Post.stm (e.evo e1) p1).mono fun d2 st2 as2 H2 e2 w2 p2 y ry => ?_⟩
  refine ⟨as2, st2, d', d2, w2, h2.evo e2, ry, (Post.stm ((e.evo e1).evo e2) p2).mono fun d3 st3 as3 H3 e3 w3 p3 z rz => ?_⟩
  unfold setF at p3
  dsimp only at p3
  split at p3
  · rename_i c' fs' hn'
    split at p3
    · rename_i hc'
      have ha3 := (e2.trans e3).get ha
      obtain ⟨dx', fx', hH', rs'⟩ := w3.ins ha3 hn'
      have hcc : cl c' = cl c := by rw [List.mem_singleton.mp hc'.1, List.mem_singleton.mp hc]
      refine ⟨dx', fx', by rw [hH', hcc], by rw [← rs'.len]; exact hc'.2, ?_⟩
      rw [← hcc]
      exact p3.ok (Evo.wr w3 ha3) (w3.wr ha3 (.ins (putFD_ok rz rs'))) σ ((((e.evo e1).evo e2).evo e3).evo (Evo.wr w3 ha3))
    · exact p3.elim
  · exact p3.elim
end

/-! ### calls of defs -/
/-- what the rules ask of a context -/
structure CxOk (X : Cx) (W : WX) : Prop where
  calm : X.calm = true
  pass : ∀ σ, PassesAt (L2.CX X.prog X.w) X σ (WE W σ)
  own : PassesOwn (model X.prog X.w) X.A X.env X.xe
section
variable {X : Cx} {cl : Cl} {W : WX} {x m : Str} {p pos apos : Pos} {e o : Expr} {es : List Expr} {t : DA} {F : DF} {k : Nat} {f : Addr} {fd : FuncData} {ps : List Str} {dvs : List V} {dfs : List Value} {dds : List D} {to : DE}
theorem lift_call {σ : L2.St} {H : Hp} {Q : VK} (hd : ∀ as H, Reps X.K as H dds dvs) (h : lift X.K cl W (dApp (fun ds st => F (ds ++ dds) st) t) σ H Q) : tCallSD (spD X.K cl F) dvs (WE W) (liftA X.K cl W t) σ H Q := by
  obtain ⟨as, st, τ, w, e, p⟩ := h
  exact ⟨as, st, τ, w, e, p.bind.mono fun ds st1 as1 H1 e1 w1 p1 xs rx => ⟨as1, st1, ds ++ dds, w1, rx.append (hd _ _), p1⟩⟩
/-- f(e, ..), with defaults -/
theorem j_callD (hx : ∀ σ, PassesAt (L2.CX X.prog X.w) X σ (WE W σ)) (G : FnD X.prog X.w X.K X.mg X.base cl k f fd ps F) (hr : Room k X.A) (hg : Gl X x) (hm : X.mg x = some (.ref f)) (hk : PySem.W.keepIn X.K (.ref f) = true) (hb : Binds X.K fd ps dfs) (hv : Vals dvs dfs)
    (hd : ∀ as H, Reps X.K as H dds dvs) (ha : JA X cl W (e :: es) t) (hdb : (x == ("__debug__" : Str)) = false := by decide) (he : starEach (e :: es) X.env = (false, eval e X.env) :: starEach es X.env := by rfl) (hpl : (backTo pos (starEach es X.env)).any (·.1) = false := by rfl) :
    JE X cl W (.Call (.Name x p) (e :: es) [] pos) (dApp (fun ds st => F (ds ++ dds) st) t) :=
  PE.mono (pe_callSD G hr hg hm hk hb hv hx ha hdb he hpl) fun _ _ _ h => lift_call hd h
theorem j_call (hx : ∀ σ, PassesAt (L2.CX X.prog X.w) X σ (WE W σ)) (G : FnD X.prog X.w X.K X.mg X.base cl k f fd ps F) (hr : Room k X.A) (hg : Gl X x) (hm : X.mg x = some (.ref f)) (hk : PySem.W.keepIn X.K (.ref f) = true) (hb : Binds X.K fd ps [])
    (ha : JA X cl W (e :: es) t) (hdb : (x == ("__debug__" : Str)) = false := by decide) (he : starEach (e :: es) X.env = (false, eval e X.env) :: starEach es X.env := by rfl) (hpl : (backTo pos (starEach es X.env)).any (·.1) = false := by rfl) :
    JE X cl W (.Call (.Name x p) (e :: es) [] pos) (dApp F t) :=
  PE.mono (j_callD (dds := []) (dvs := []) hx G hr hg hm hk hb .nil (fun _ _ => .nil) ha hdb he hpl) fun σ H Q h => by
    simp only [List.append_nil]
    exact h
theorem pe_callS0 (G : FnD X.prog X.w X.K X.mg X.base cl k f fd ps F) (hx : ∀ σ, PassesAt (L2.CX X.prog X.w) X σ (WE W σ)) (hr : Room k X.A) (hg : Gl X x) (hm : X.mg x = some (.ref f)) (hk : PySem.W.keepIn X.K (.ref f) = true) (hb : Binds X.K fd ps [])
    (hdb : (x == ("__debug__" : Str)) = false := by decide) : PE X (.Call (.Name x p) [] [] pos) (fun σ H Q => spD X.K cl F [] H Q (WE W σ)) := by
  refine ⟨fun pins s σ H Q I h => ?_⟩
  refine wpAny_Call_Name_kw (ld_glob I hg hm ?_ hdb)
  exact PySem.W.callWith_K0 I.kIn hk (run_fnSD (us := []) (vs := []) (dvs := []) (ds := []) (E := WE W) G hr hb .nil (hx σ) I .nil h)
theorem j_call0 (hx : ∀ σ, PassesAt (L2.CX X.prog X.w) X σ (WE W σ)) (G : FnD X.prog X.w X.K X.mg X.base cl k f fd ps F) (hr : Room k X.A) (hg : Gl X x) (hm : X.mg x = some (.ref f)) (hk : PySem.W.keepIn X.K (.ref f) = true) (hb : Binds X.K fd ps [])
    (hdb : (x == ("__debug__" : Str)) = false := by decide) : JE X cl W (.Call (.Name x p) [] [] pos) (dApp F dNil) :=
  PE.mono (pe_callS0 G hx hr hg hm hk hb hdb) fun σ H Q ⟨as, st, τ, w, e, p⟩ => ⟨as, st, [], w, .nil, p⟩
/-- o.m(e, ..) -/
def dMeth (c m : Str) (F : DF) (to : DE) (t : DA) : DE := fun τ st => (to τ st).bind fun d st => match d with
  | .ref n => match st[n]? with
    | some (.ins c' fs) => if c' = c ∧ valD fs m = none then (t τ st).bind fun ds st => F (d :: ds) st else .bad
    | _ => .bad
  | _ => .bad
theorem pe_methS {pl : Sem Bool} {ta : TE} {tt : TA} {C : Addr} {sp : Sp} {E : L2.St → XK} (he : PE X o ta) (c : Cls X.K C) (hm : Meth X.K C m f) (G : FnOk X.prog X.w X.K X.mg X.base (L2.CX X.prog X.w) k f fd ps sp) (hr : Room k X.A) (hb : Binds X.K fd ps dfs) (hd : Vals dvs dfs)
    (hx : ∀ σ, PassesAt (L2.CX X.prog X.w) X σ (E σ)) (ha : PA X (e :: es) tt)
    (hst : starEach (e :: es) X.env = (false, eval e X.env) :: starEach es X.env := by rfl) (hpl : (backTo pos (starEach es X.env)).any (·.1) = false := by rfl)
    (ht : eval (.Call (.Attribute o m apos) (e :: es) [] pos) X.env = (do
      let ov ← eval o X.env
      standAt apos.atName
      let (f, first) ← holding [ov] (getMethod ov m pl)
      callWith pos f first (backTo pos (starEach (e :: es) X.env)) (backToKw pos (keywordEach [] X.env))) := by rfl) :
    PE X (.Call (.Attribute o m apos) (e :: es) [] pos) (fun σ H Q => tMeth C m sp dvs (E σ) ta tt σ H Q) := by
  refine ⟨fun pins s σ H Q I h => ?_⟩
  refine PySem.W.methodCall_KW (pl := pl) (thn (he.run pins s σ H _ I h) fun u s1 ⟨x, H1, I1, rx, a, dx, fs, ex, ea, l, q⟩ => ?_) ht
  subst ex
  obtain rfl : u = Value.ref a := rx
  refine getmeth_ok I1 ea c hm l ?_
  refine PySem.W.callWith_K (first := [.ref a]) (h₀ := X.base) I.ok.mod.kin hm.kp (thn (ha.run pos pins s1 σ H1 _ I1 q) fun us s2 ⟨vs, H2, I2, r, q2⟩ => ⟨I2.kIn, ?_⟩) hst hpl
  exact run_fnSD (us := .ref a :: us) (vs := .ref a :: vs) G hr hb hd (hx σ) I2 (.cons rfl r) q2
theorem pe_methS0 {pl : Sem Bool} {ta : TE} {C : Addr} {sp : Sp} {E : L2.St → XK} (he : PE X o ta) (c : Cls X.K C) (hm : Meth X.K C m f) (G : FnOk X.prog X.w X.K X.mg X.base (L2.CX X.prog X.w) k f fd ps sp) (hr : Room k X.A) (hb : Binds X.K fd ps dfs) (hd : Vals dvs dfs)
    (hx : ∀ σ, PassesAt (L2.CX X.prog X.w) X σ (E σ))
    (ht : eval (.Call (.Attribute o m apos) [] [] pos) X.env = (do
      let ov ← eval o X.env
      standAt apos.atName
      let (f, first) ← holding [ov] (getMethod ov m pl)
      callWith pos f first (backTo pos (starEach [] X.env)) (backToKw pos (keywordEach [] X.env))) := by rfl) :
    PE X (.Call (.Attribute o m apos) [] [] pos) (fun σ H Q => tMeth C m sp dvs (E σ) ta tNil σ H Q) := by
  refine ⟨fun pins s σ H Q I h => ?_⟩
  refine PySem.W.methodCall_KW (pl := pl) (thn (he.run pins s σ H _ I h) fun u s1 ⟨x, H1, I1, rx, a, dx, fs, ex, ea, l, q⟩ => ?_) ht
  subst ex
  obtain rfl : u = Value.ref a := rx
  refine getmeth_ok I1 ea c hm l ?_
  exact PySem.W.callWith_K0 (first := [.ref a]) I1.kIn hm.kp (run_fnSD (us := [.ref a]) (vs := [.ref a]) G hr hb hd (hx σ) I1 (.cons rfl .nil) q)
theorem lift_meth {c : Str} {σ : L2.St} {H : Hp} {Q : VK} (h : lift X.K cl W (dMeth c m (fun ds st => F (ds ++ dds) st) to t) σ H Q) (hd : ∀ as H, Reps X.K as H dds dvs) : tMeth (cl c) m (spD X.K cl F) dvs (WE W σ) (lift X.K cl W to) (liftA X.K cl W t) σ H Q := by
  obtain ⟨as, st, τ, w, e, p⟩ := h
  refine ⟨as, st, τ, w, e, p.bind.mono fun d st1 as1 H1 e1 w1 p1 v rv => ?_⟩
  split at p1
  · rename_i n
    obtain ⟨a, rfl, ha⟩ := rv.refAt
    split at p1
    · rename_i c' fs hn
      split at p1
      · rename_i hc
        obtain ⟨rfl, hc⟩ := hc
        obtain ⟨dx, fx, hH, rs⟩ := w1.ins ha hn
        refine ⟨a, dx, fx, rfl, hH, lookup_none rs hc, as1, st1, τ, w1, e.evo e1, p1.bind.mono fun ds st2 as2 H2 e2 w2 p2 xs rxs => ⟨as2, st2, _, w2, .cons (rv.evo e2) (rxs.append (hd _ _)), p2⟩⟩
      · exact p1.elim
    · exact p1.elim
  · exact p1.elim
theorem j_methD {c : Str} {pl : Sem Bool} (hx : ∀ σ, PassesAt (L2.CX X.prog X.w) X σ (WE W σ)) (hc : Cls X.K (cl c)) (hm : Meth X.K (cl c) m f) (G : FnD X.prog X.w X.K X.mg X.base cl k f fd ps F) (hr : Room k X.A) (hb : Binds X.K fd ps dfs) (hv : Vals dvs dfs) (hd : ∀ as H, Reps X.K as H dds dvs)
    (ho : JE X cl W o to) (ha : JA X cl W (e :: es) t)
    (hst : starEach (e :: es) X.env = (false, eval e X.env) :: starEach es X.env := by rfl) (hpl : (backTo pos (starEach es X.env)).any (·.1) = false := by rfl)
    (ht : eval (.Call (.Attribute o m apos) (e :: es) [] pos) X.env = (do
      let ov ← eval o X.env
      standAt apos.atName
      let (f, first) ← holding [ov] (getMethod ov m pl)
      callWith pos f first (backTo pos (starEach (e :: es) X.env)) (backToKw pos (keywordEach [] X.env))) := by rfl) :
    JE X cl W (.Call (.Attribute o m apos) (e :: es) [] pos) (dMeth c m (fun ds st => F (ds ++ dds) st) to t) :=
  PE.mono (pe_methS ho hc hm G hr hb hv hx ha hst hpl ht) fun _ _ _ h => lift_meth h hd
theorem j_meth {c : Str} {pl : Sem Bool} (hx : ∀ σ, PassesAt (L2.CX X.prog X.w) X σ (WE W σ)) (hc : Cls X.K (cl c)) (hm : Meth X.K (cl c) m f) (G : FnD X.prog X.w X.K X.mg X.base cl k f fd ps F) (hr : Room k X.A) (hb : Binds X.K fd ps [])
    (ho : JE X cl W o to) (ha : JA X cl W (e :: es) t)
    (hst : starEach (e :: es) X.env = (false, eval e X.env) :: starEach es X.env := by rfl) (hpl : (backTo pos (starEach es X.env)).any (·.1) = false := by rfl)
    (ht : eval (.Call (.Attribute o m apos) (e :: es) [] pos) X.env = (do
      let ov ← eval o X.env
      standAt apos.atName
      let (f, first) ← holding [ov] (getMethod ov m pl)
      callWith pos f first (backTo pos (starEach (e :: es) X.env)) (backToKw pos (keywordEach [] X.env))) := by rfl) :
    JE X cl W (.Call (.Attribute o m apos) (e :: es) [] pos) (dMeth c m F to t) :=
  PE.mono (j_methD (dds := []) (dvs := []) hx hc hm G hr hb .nil (fun _ _ => .nil) ho ha hst hpl ht) fun σ H Q h => by
    simp only [List.append_nil]
    exact h
theorem j_methD0 {c : Str} {pl : Sem Bool} (hx : ∀ σ, PassesAt (L2.CX X.prog X.w) X σ (WE W σ)) (hc : Cls X.K (cl c)) (hm : Meth X.K (cl c) m f) (G : FnD X.prog X.w X.K X.mg X.base cl k f fd ps F) (hr : Room k X.A) (hb : Binds X.K fd ps dfs) (hv : Vals dvs dfs) (hd : ∀ as H, Reps X.K as H dds dvs)
    (ho : JE X cl W o to)
    (ht : eval (.Call (.Attribute o m apos) [] [] pos) X.env = (do
      let ov ← eval o X.env
      standAt apos.atName
      let (f, first) ← holding [ov] (getMethod ov m pl)
      callWith pos f first (backTo pos (starEach [] X.env)) (backToKw pos (keywordEach [] X.env))) := by rfl) :
    JE X cl W (.Call (.Attribute o m apos) [] [] pos) (dMeth c m (fun ds st => F (ds ++ dds) st) to dNil) :=
  PE.mono (pe_methS0 ho hc hm G hr hb hv hx ht) fun σ H Q h => by
    have h := lift_meth (t := dNil) h hd
    refine (show tMeth (cl c) m (spD X.K cl F) dvs (WE W σ) (lift X.K cl W to) tNil σ H Q from ?_)
    obtain ⟨as, st, τ, w, e, p⟩ := h
    refine ⟨as, st, τ, w, e, p.mono fun d st1 as1 H1 e1 w1 p1 v rv => ?_⟩
    obtain ⟨a, dx, fs, h1, h2, h3, as2, st2, τ2, w2, e2, p2⟩ := p1 v rv
    exact ⟨a, dx, fs, h1, h2, h3, p2.here w2 [] .nil⟩
theorem j_meth0 {c : Str} {pl : Sem Bool} (hx : ∀ σ, PassesAt (L2.CX X.prog X.w) X σ (WE W σ)) (hc : Cls X.K (cl c)) (hm : Meth X.K (cl c) m f) (G : FnD X.prog X.w X.K X.mg X.base cl k f fd ps F) (hr : Room k X.A) (hb : Binds X.K fd ps [])
    (ho : JE X cl W o to)
    (ht : eval (.Call (.Attribute o m apos) [] [] pos) X.env = (do
      let ov ← eval o X.env
      standAt apos.atName
      let (f, first) ← holding [ov] (getMethod ov m pl)
      callWith pos f first (backTo pos (starEach [] X.env)) (backToKw pos (keywordEach [] X.env))) := by rfl) :
    JE X cl W (.Call (.Attribute o m apos) [] [] pos) (dMeth c m F to dNil) :=
  PE.mono (j_methD0 (dds := []) (dvs := []) hx hc hm G hr hb .nil (fun _ _ => .nil) ho ht) fun σ H Q h => by
    simp only [List.append_nil]
    exact h
/-- C(..) -/
def dMake (c : Str) (F : DF) (t : DA) : DE := fun τ st => (t τ st).bind fun ds st => (F (.ref st.length :: ds) (st ++ [.ins c []])).bind fun r st' => match r with
  | .non => .ok (.ref st.length) st'
  | _ => .bad
theorem Evo.push2 {K : PySem.W.Frag} {as : Mp} {st : Sto} {H : Hp} (w : Wd K cl as st H) {x dx : Addr} {c : Str} (hx : H x = none) (hd : H dx = none) (hne : dx ≠ x) :
    Evo as H (as.push x) (upd (upd H dx (.own x)) x (.ins (cl c) dx [])) ∧ Wd K cl (as.push x) (st ++ [.ins c []]) (upd (upd H dx (.own x)) x (.ins (cl c) dx [])) := by
  have w1 := w.new (o := .own x) hd
  have hx1 : upd H dx (.own x) x = none := by rw [upd_ne (Ne.symm hne)]; exact hx
  exact ⟨(Evo.new w hd).trans (Evo.push w1 hx1), w1.push hx1 (.ins .nil)⟩
theorem run_makeS {C : Addr} {sp : Sp} {E : L2.St → XK} {pins : List (Addr × Obj)} {σ : L2.St} {H : Hp} {s : Shared} {Q : VK} {us : List Value} {vs : List V} (M : Mk X.K C f) (G : FnOk X.prog X.w X.K X.mg X.base (L2.CX X.prog X.w) k f fd ps sp) (hr : Room (k + 1) X.A) (hb : Binds X.K fd ps dfs) (hd : Vals dvs dfs)
    (hx : PassesAt (L2.CX X.prog X.w) X σ (E σ)) (I : Inv X pins σ H s) (r : Vals vs us)
    (h : ∀ x dx, H x = none → H dx = none → dx ≠ x → sp (.ref x :: (vs ++ dvs)) (upd (upd H dx (.own x)) x (.ins C dx [])) (fun v H2 => v = .non ∧ Q (.ref x) H2) (E σ)) :
    wpAny (model X.prog X.w) X.A (call (.ref C) us) (EP X pins σ Q) X.xe s := by
  have hq := h (s.heap.objs.size + 1) s.heap.objs.size (I.hok.fresh (Nat.le_succ _)) (I.hok.fresh (Nat.le_refl _)) (Nat.ne_of_lt (Nat.lt_succ_self _))
  have I2 := Inv.made (C := C) I
  have r2 : Vals (V.ref (s.heap.objs.size + 1) :: (vs ++ dvs)) (Value.ref (s.heap.objs.size + 1) :: (us ++ dfs)) := .cons rfl (r.append hd)
  have hl : (Value.ref (s.heap.objs.size + 1) :: us ++ dfs).length = ps.length := by
    have e := r2.length
    rw [G.len _ _ _ _ hq] at e
    exact e.symm
  refine wpAny_call (make_map (f := f) I.kIn M.makes M.init (beq_iff_eq.mp M.fn) (codeAny_mono (G.run _ X.stack _ _ ⟨Value.ref (s.heap.objs.size + 1) :: us, []⟩ (Value.ref (s.heap.objs.size + 1) :: (us ++ dfs)) _ _ (E σ) (hr.make C us [])
    (I2.env0.make C us []) (hb _ (Value.ref (s.heap.objs.size + 1) :: us) I2.kIn hl) r2 hq) fun r s' hq' => ?_))
  cases r with
  | error e => exact hx pins _ _ e s' I2 hq'
  | ok fl =>
    cases fl with
    | ret u =>
      obtain ⟨v, H', I3, rv, ev, q3⟩ := I2.after hq'
      subst ev
      exact ⟨rv, ⟨V.ref (s.heap.objs.size + 1), H', I3, rfl, q3⟩⟩
    | next => exact False.elim hq'
    | brk => exact False.elim hq'
    | cont => exact False.elim hq'
theorem make_lift {c : Str} {E : XK} {as : Mp} {st : Sto} {H : Hp} {ds : List D} {vs : List V} {Q : VK} (w : Wd X.K cl as st H) (rs : Reps X.K as H ds vs)
    (p : Post X.K cl E as H ((F (.ref st.length :: ds) (st ++ [.ins c []])).bind fun r st' => match r with | .non => .ok (.ref st.length) st' | _ => .bad) (QV X.K Q)) :
    ∀ x dx, H x = none → H dx = none → dx ≠ x → spD X.K cl F (.ref x :: (vs ++ [])) (upd (upd H dx (.own x)) x (.ins (cl c) dx [])) (fun v H2 => v = .non ∧ Q (.ref x) H2) E := by
  intro x dx hx hd hne
  obtain ⟨e1, w1⟩ := Evo.push2 (c := c) w hx hd hne
  rw [List.append_nil]
  refine ⟨_, _, .ref st.length :: ds, w1, .cons (Rep.newRef w) (rs.evo e1), (Post.evo e1 p).bind.mono fun d st2 as2 H2 e2 w2 p2 v rv => ?_⟩
  cases d with
  | non => cases rv; exact ⟨rfl, p2.here w2 _ ((Rep.newRef w).evo e2)⟩
  | _ => exact p2.elim
theorem j_make {c : Str} (hx : ∀ σ, PassesAt (L2.CX X.prog X.w) X σ (WE W σ)) (M : Mk X.K (cl c) f) (G : FnD X.prog X.w X.K X.mg X.base cl k f fd ps F) (hr : Room (k + 1) X.A) (hg : Gl X x) (hm : X.mg x = some (.ref (cl c))) (hb : Binds X.K fd ps [])
    (ha : JA X cl W (e :: es) t) (hdb : (x == ("__debug__" : Str)) = false := by decide) (he : starEach (e :: es) X.env = (false, eval e X.env) :: starEach es X.env := by rfl) (hpl : (backTo pos (starEach es X.env)).any (·.1) = false := by rfl) :
    JE X cl W (.Call (.Name x p) (e :: es) [] pos) (dMake c F t) := by
  refine ⟨fun pins s σ H Q I ⟨as, st, τ, w, e, p⟩ => ?_⟩
  refine wpAny_Call_Name_kw (ld_glob I hg hm ?_ hdb)
  have hA := ha.run pos pins s σ H (fun xs H1 => ∀ x dx, H1 x = none → H1 dx = none → dx ≠ x → spD X.K cl F (.ref x :: (xs ++ [])) (upd (upd H1 dx (.own x)) x (.ins (cl c) dx [])) (fun v H2 => v = .non ∧ Q (.ref x) H2) (WE W σ)) I
    ⟨as, st, τ, w, e, p.bind.mono fun ds st1 as1 H1 e1 w1 p1 xs rx => make_lift w1 rx p1⟩
  refine PySem.W.callWith_K (h₀ := X.base) I.ok.mod.kin M.kp (thn hA fun us s1 ⟨vs, H1, I1, r, q⟩ => ⟨I1.kIn, ?_⟩) he hpl
  exact run_makeS (E := WE W) M G hr hb .nil (hx σ) I1 r q
theorem j_make0 {c : Str} (hx : ∀ σ, PassesAt (L2.CX X.prog X.w) X σ (WE W σ)) (M : Mk X.K (cl c) f) (G : FnD X.prog X.w X.K X.mg X.base cl k f fd ps F) (hr : Room (k + 1) X.A) (hg : Gl X x) (hm : X.mg x = some (.ref (cl c))) (hb : Binds X.K fd ps [])
    (hdb : (x == ("__debug__" : Str)) = false := by decide) : JE X cl W (.Call (.Name x p) [] [] pos) (dMake c F dNil) := by
  refine ⟨fun pins s σ H Q I ⟨as, st, τ, w, e, p⟩ => ?_⟩
  refine wpAny_Call_Name_kw (ld_glob I hg hm ?_ hdb)
  exact PySem.W.callWith_K0 I.kIn M.kp (run_makeS (us := []) (vs := []) (E := WE W) M G hr hb .nil (hx σ) I .nil (make_lift w .nil p))
end
end DL

/-! DL6: loops, comprehensions, methods of lists. -/
namespace DL
open PySem PySem.Spec PyProof.Rows L2

/-! ### what is walked -/
abbrev DI := En → Sto → R (List D)
structure Walk (K : PySem.W.Frag) (cl : Cl) (as : Mp) (H : Hp) (J : It) (ds : List D) : Prop where
  go : ∀ i as' H', Mv as H as' H' → i < ds.length → J.go i H'
  yld : ∀ i as' st' H' x H'', i < ds.length → Mv as H as' H' → Wd K cl as' st' H' → J.yld i H' x H'' → ∃ d, ds[i]? = some d ∧ (H'' = H' ∨ ∃ p o, H' p = none ∧ H'' = upd H' p o) ∧ Rep K as' H'' d x
  stop : ∀ i as' H', Mv as H as' H' → ds.length ≤ i → J.stop i H'
theorem Walk.evo {K : PySem.W.Frag} {cl : Cl} {as' : Mp} {st' : Sto} {H' H'' : Hp} (h : H'' = H' ∨ ∃ p o, H' p = none ∧ H'' = upd H' p o) (w : Wd K cl as' st' H') : Evo as' H' as' H'' ∧ Wd K cl as' st' H'' := by
  rcases h with h | ⟨p, o, h1, h2⟩
  · subst h; exact ⟨.refl, w⟩
  · subst h2; exact ⟨Evo.new w h1, w.new h1⟩
def liftI (K : PySem.W.Frag) (cl : Cl) (W : WX) (t : DI) : TI := fun σ H Q => ∃ as st τ, Wd K cl as st H ∧ RepE K as H τ σ ∧ Post K cl (WE W σ) as H (t τ st) fun ds _ as' H' => ∀ J, Walk K cl as' H' J ds → Q J H'
abbrev JI (X : Cx) (cl : Cl) (W : WX) (tg e : Expr) (t : DI) : Prop := PI X tg e (liftI X.K cl W t)
/-- a tuple's items; a list's (nobody changes it meanwhile) -/
def iSeq (t : DE) : DI := fun τ st => (t τ st).bind fun d st => match d with
  | .lst ds => .ok ds st
  | .fro ds => .ok ds st
  | _ => .bad
def iTupD (t : DE) : DI := fun τ st => (t τ st).bind fun d st => match d with
  | .tup ds => .ok ds st
  | _ => .bad
def iStrD (t : DE) : DI := fun τ st => (t τ st).bind fun d st => match d with
  | .str x => .ok (x.cps.toList.map fun c => .str ⟨#[c]⟩) st
  | _ => .bad
def rng (lo hi : Int) : List D := (List.range (hi - lo).toNat).map fun (k : Nat) => D.int (lo + (k : Int))
def iRng1D (t : DA) : DI := fun τ st => (t τ st).bind fun ds st => match ds with
  | [.int n] => if -(2 ^ 62) ≤ n ∧ n < 2 ^ 62 then .ok (rng 0 n) st else .bad
  | _ => .bad
def iRng2D (t : DA) : DI := fun τ st => (t τ st).bind fun ds st => match ds with
  | [.int a, .int n] => if (-(2 ^ 62) ≤ a ∧ a < 2 ^ 62) ∧ (-(2 ^ 62) ≤ n ∧ n < 2 ^ 62) then .ok (rng a n) st else .bad
  | _ => .bad
section
variable {X : Cx} {cl : Cl} {W : WX} {tg e : Expr} {es : List Expr} {te : DE} {t : DA} {p pos : Pos}
theorem walk_list {K : PySem.W.Frag} {as : Mp} {H : Hp} {a : Addr} {xs : List V} {ds : List D} (hq : ∀ as' H', Mv as H as' H' → SqL K H' a xs) (hr : Reps K as H ds xs) : Walk K cl as H (Itl K a) ds where
  go := fun i as' H' e hi => by
    obtain ⟨v, h1, _⟩ := hr.get (List.getElem?_eq_getElem hi)
    exact ⟨xs, v, hq _ _ e, h1⟩
  yld := fun i as' st' H' x H'' hi e w ⟨h1, h2⟩ => by
    subst h1
    have h3 := h2 xs (hq _ _ e)
    obtain ⟨v, h4, h5⟩ := hr.get (List.getElem?_eq_getElem hi)
    rw [h3] at h4; cases h4
    exact ⟨_, List.getElem?_eq_getElem hi, .inl rfl, h5.mv e⟩
  stop := fun i as' H' e hi => ⟨xs, hq _ _ e, by rw [← hr.len]; exact hi⟩
theorem walk_tup {K : PySem.W.Frag} {as : Mp} {H : Hp} {a : Addr} {xs : List V} {ds : List D} (hq : ∀ as' H', Mv as H as' H' → SqT K H' a xs) (hr : Reps K as H ds xs) : Walk K cl as H (Itt K a) ds where
  go := fun i as' H' e hi => by
    obtain ⟨v, h1, _⟩ := hr.get (List.getElem?_eq_getElem hi)
    exact ⟨xs, v, hq _ _ e, h1⟩
  yld := fun i as' st' H' x H'' hi e w ⟨h1, h2⟩ => by
    subst h1
    have h3 := h2 xs (hq _ _ e)
    obtain ⟨v, h4, h5⟩ := hr.get (List.getElem?_eq_getElem hi)
    rw [h3] at h4; cases h4
    exact ⟨_, List.getElem?_eq_getElem hi, .inl rfl, h5.mv e⟩
  stop := fun i as' H' e hi => ⟨xs, hq _ _ e, by rw [← hr.len]; exact hi⟩
theorem StF.mvl {K : PySem.W.Frag} {as as' : Mp} {H H' : Hp} (e : Mv as H as' H') {a : Addr} {xs : List V} (h : StF K as H a xs) : SqL K H' a xs := (h.mv e).l
theorem ji_seq (he : JE X cl W e te) : JI X cl W tg e (iSeq te) := by
  refine PI.mono (pi_list he) fun σ H Q ⟨as, st, τ, w, e, p⟩ => ⟨as, st, τ, w, e, p.bind.mono fun d st1 as1 H1 e1 w1 p1 v rv => ?_⟩
  split at p1
  · cases rv with
    | lst n h r => exact ⟨_, rfl, ⟨_, .of h⟩, p1.here w1 _ (walk_list (fun as' H' f => .of (f.k _ _ h n).2) r)⟩
  · cases rv with
    | fro s r => exact ⟨_, rfl, ⟨_, s.l⟩, p1.here w1 _ (walk_list (fun as' H' f => s.mvl f) r)⟩
  · exact p1.elim
theorem ji_tup (he : JE X cl W e te) : JI X cl W tg e (iTupD te) := by
  refine PI.mono (pi_tup he) fun σ H Q ⟨as, st, τ, w, e, p⟩ => ⟨as, st, τ, w, e, p.bind.mono fun d st1 as1 H1 e1 w1 p1 v rv => ?_⟩
  split at p1
  · cases rv with
    | tup s r => exact ⟨_, rfl, ⟨_, s.t⟩, p1.here w1 _ (walk_tup (fun as' H' f => (s.mv f).t) r)⟩
  · exact p1.elim
theorem ji_str (he : JE X cl W e te) : JI X cl W tg e (iStrD te) := by
  refine PI.mono (pi_str he) fun σ H Q ⟨as, st, τ, w, e, p⟩ => ⟨as, st, τ, w, e, p.bind.mono fun d st1 as1 H1 e1 w1 p1 v rv => ?_⟩
  split at p1
  · rename_i x
    cases rv
    refine ⟨x, rfl, p1.here w1 _ ⟨fun i as' H' _ hi => ?_, fun i as' st' H' v H'' _ _ w' ⟨h1, c, h2, h3⟩ => ?_, fun i as' H' _ hi => ?_⟩⟩
    · show i < x.cps.size
      simpa using hi
    · subst h1; subst h3
      exact ⟨_, by rw [List.getElem?_map, Array.getElem?_toList, h2]; rfl, .inl rfl, .str _⟩
    · show x.cps.size ≤ i
      simpa using hi
  · exact p1.elim
theorem rng_get {lo hi : Int} {i : Nat} (h : i < (hi - lo).toNat) : (rng lo hi)[i]? = some (.int (lo + (i : Int))) := by
  unfold rng
  rw [List.getElem?_map, List.getElem?_range h]
  rfl
theorem rng_len {lo hi : Int} : (rng lo hi).length = (hi - lo).toNat := by unfold rng; simp
theorem walk_rng {K : PySem.W.Frag} {as : Mp} {H : Hp} {lo hi : Int} : Walk K cl as H (Itr lo (hi - lo).toNat) (rng lo hi) where
  go := fun i as' H' e h => by rw [rng_len] at h; exact h
  yld := fun i as' st' H' x H'' hi e w ⟨h1, h2⟩ => by
    subst h1; subst h2
    rw [rng_len] at hi
    exact ⟨_, rng_get hi, .inl rfl, .int _⟩
  stop := fun i as' H' e h => by rw [rng_len] at h; exact h
theorem ji_rng1 {a : Expr} (hg : Gl X "range") (hm : X.mg "range" = none) (ha : JA X cl W [a] t) (hs : starEach [a] X.env = [(false, eval a X.env)] := by rfl) : JI X cl W tg (.Call (.Name "range" p) [a] [] pos) (iRng1D t) := by
  refine PI.mono (pi_range1 hg hm ha hs) fun σ H Q ⟨as, st, τ, w, e, p⟩ => ⟨as, st, τ, w, e, p.bind.mono fun ds st1 as1 H1 e1 w1 p1 vs rv => ?_⟩
  split at p1
  · obtain ⟨v, rfl, r⟩ := rv.one
    cases r
    split at p1
    · rename_i n hn
      refine ⟨n, rfl, hn.1, hn.2, p1.here w1 _ ?_⟩
      have q := walk_rng (cl := cl) (K := X.K) (as := as1) (H := H1) (lo := 0) (hi := n)
      rw [Int.sub_zero] at q
      exact q
    · exact p1.elim
  · exact p1.elim
theorem ji_rng2 {a b : Expr} (hg : Gl X "range") (hm : X.mg "range" = none) (ha : JA X cl W [a, b] t) (hs : starEach [a, b] X.env = [(false, eval a X.env), (false, eval b X.env)] := by rfl) (hs2 : starEach [b] X.env = [(false, eval b X.env)] := by rfl) :
    JI X cl W tg (.Call (.Name "range" p) [a, b] [] pos) (iRng2D t) := by
  refine PI.mono (pi_range2 hg hm ha hs hs2) fun σ H Q ⟨as, st, τ, w, e, p⟩ => ⟨as, st, τ, w, e, p.bind.mono fun ds st1 as1 H1 e1 w1 p1 vs rv => ?_⟩
  split at p1
  · obtain ⟨v, u, rfl, r, q⟩ := rv.two
    cases r; cases q
    split at p1
    · rename_i hn
      exact ⟨_, _, rfl, ⟨hn.1.1, hn.1.2, hn.2.1, hn.2.2⟩, p1.here w1 _ walk_rng⟩
    · exact p1.elim
  · exact p1.elim
end

/-! ### for -/
/-- behind a turn -/
@[reducible] def R.turn (r : R (Fl × En)) (k : En → Sto → R (Fl × En)) : R (Fl × En) := r.bind fun r st => match r with
  | (.nx, τ) => k τ st
  | (.ct, τ) => k τ st
  | (.bk, τ) => .ok (.nx, τ) st
  | r => .ok r st
def forL (g : DG) (body : DS) : List D → DS
  | [], τ, st => .ok (.nx, τ) st
  | d :: ds, τ, st => (g d τ st).stm τ fun τ st => (body τ st).turn fun τ st => forL g body ds τ st
def dFor (it : DI) (g : DG) (body : DS) : DS := fun τ st => (it τ st).stm τ fun ds st => forL g body ds τ st
section
variable {X : Cx} {cl : Cl} {W : WX} {tg e c : Expr} {body : List Stmt} {it : DI} {g : DG} {t : DS} {pos : Pos}
theorem turn_ok {as : Mp} {st : Sto} {σ : L2.St} {τ : En} {H : Hp} {M : Ends} {N : L2.St → Hp → Prop} {k : En → Sto → R (Fl × En)} (w : Wd X.K cl as st H) (e : RepE X.K as H τ σ)
    (p : Post X.K cl E00 as H ((t τ st).turn k) fun r _ as' H' => FlOk X.K cl W M as' H' r.2 r.1)
    (hN : ∀ as' H' τ' st' σ', Evo as H as' H' → Wd X.K cl as' st' H' → RepE X.K as' H' τ' σ' → (Post X.K cl E00 as' H' (k τ' st') fun r _ as' H' => FlOk X.K cl W M as' H' r.2 r.1) → N σ' H') :
    liftS X.K cl W t { M with nx := N, ct := N, bk := M.nx } σ H := by
  refine ⟨as, st, τ, w, e, p.bind.mono fun r st1 as1 H1 e1 w1 p1 => ?_⟩
  obtain ⟨f, τ1⟩ := r
  cases f with
  | nx => exact fun σ1 r1 => hN as1 H1 τ1 st1 σ1 e1 w1 r1 p1
  | ct => exact fun σ1 r1 => hN as1 H1 τ1 st1 σ1 e1 w1 r1 p1
  | bk => exact p1.here w1
  | rt d => exact p1.here w1
  | ex x => exact p1.here w1
theorem js_for (hx : CxOk X W) (hi : JI X cl W tg e it) (hg : JG X cl W tg g) (hb : JSs X cl W body t) (hs : ∀ x, foldedSetIterable e X.env x = pure x := by intro _; rfl) : JS X cl W (.For tg e body [] pos) (dFor it g t) := by
  refine PS.mono (ps_for hx.own hx.calm hi hg hb hs) fun M σ H ⟨as, st, τ, w, e, p⟩ => ⟨as, st, τ, w, e, (Post.stm e p).mono fun ds st1 as1 H1 e1 w1 p1 J Wk => ?_⟩
  refine ⟨fun i m σ' H' => m = ds.length - i ∧ i ≤ ds.length ∧ ∃ as' st' τ', Evo as1 H1 as' H' ∧ Wd X.K cl as' st' H' ∧ RepE X.K as' H' τ' σ' ∧ Post X.K cl E00 as' H' (forL g t (ds.drop i) τ' st') (fun r _ as' H' => FlOk X.K cl W M as' H' r.2 r.1),
    ⟨ds.length, by simp, by simp, as1, st1, τ, .refl, w1, e.evo e1, p1⟩, ?_⟩
  rintro i m σ' H' ⟨rfl, hi, as', st', τ', e2, w2, r2, p2⟩
  by_cases hlt : i < ds.length
  · refine .inr ⟨Wk.go i as' H' e2.mv hlt, _, fun σ'' H'' n => n, fun x H'' y => ?_⟩
    obtain ⟨d, hd, hn, r3⟩ := Wk.yld i as' st' H' x H'' hlt e2.mv w2 y
    obtain ⟨e3, w3⟩ := Walk.evo hn w2
    have hdr : ds.drop i = d :: ds.drop (i + 1) := by
      rw [List.drop_eq_getElem_cons hlt]
      rw [List.getElem?_eq_getElem hlt] at hd
      rw [Option.some.inj hd]
    rw [hdr] at p2
    have p2 : Post X.K cl E00 as' H' ((g d τ' st').stm τ' fun τ st => (t τ st).turn fun τ st => forL g t (ds.drop (i + 1)) τ st) (fun r _ as' H' => FlOk X.K cl W M as' H' r.2 r.1) := p2
    refine ⟨as', st', τ', d, w3, r2.evo e3, r3, (Post.stm (r2.evo e3) (p2.evo e3)).mono fun τ4 st4 as4 H4 e4 w4 p4 σ4 r4 => ?_⟩
    refine turn_ok w4 r4 p4 fun as5 H5 τ5 st5 σ5 e5 w5 r5 p5 => ⟨ds.length - (i + 1), by omega, rfl, hlt, as5, st5, τ5, ((e2.trans e3).trans e4).trans e5, w5, r5, p5⟩
  · refine .inl ⟨Wk.stop i as' H' e2.mv (by omega), ?_⟩
    rw [List.drop_eq_nil_of_le (by omega)] at p2
    exact p2.here w2 σ' r2
/-! ### while -/
def whileN (c : DT) (body : DS) : Nat → DS
  | 0, _, _ => .bad
  | n + 1, τ, st => (c τ st).stm τ fun b st => if b = true then (body τ st).turn fun τ st => whileN c body n τ st else .ok (.nx, τ) st
def fuel : Nat := 1000000000
def dWhile (c : DT) (body : DS) : DS := whileN c body fuel
theorem js_while {uc : DT} (hx : CxOk X W) (hc : JT X cl W c uc) (hb : JSs X cl W body t) : JS X cl W (.While c body [] pos) (dWhile uc t) := by
  refine PS.mono (ps_while hx.own hc hb) fun M σ H ⟨as, st, τ, w, e, p⟩ => ?_
  refine ⟨fun m σ' H' => ∃ as' st' τ', Wd X.K cl as' st' H' ∧ RepE X.K as' H' τ' σ' ∧ Post X.K cl E00 as' H' (whileN uc t m τ' st') (fun r _ as' H' => FlOk X.K cl W M as' H' r.2 r.1), ⟨fuel, as, st, τ, w, e, p⟩, ?_⟩
  rintro m σ' H' ⟨as', st', τ', w1, e1, p1⟩
  cases m with
  | zero => exact p1.elim
  | succ m =>
    have p1 : Post X.K cl E00 as' H' ((uc τ' st').stm τ' fun b st => if b = true then (t τ' st).turn fun τ st => whileN uc t m τ st else .ok (.nx, τ') st) (fun r _ as' H' => FlOk X.K cl W M as' H' r.2 r.1) := p1
    refine ⟨as', st', τ', w1, e1, (Post.stm e1 p1).mono fun b st2 as2 H2 e2 w2 p2 => ?_⟩
    cases b with
    | true => exact ⟨_, fun σ'' H'' n => n, turn_ok w2 (e1.evo e2) p2 fun as5 H5 τ5 st5 σ5 e5 w5 r5 p5 => ⟨m, Nat.lt_succ_self m, as5, st5, τ5, w5, r5, p5⟩⟩
    | false => exact p2.here w2 σ' (e1.evo e2)
end

/-! ### comprehensions -/
/-- the targets: names, by their places -/
inductive Tgt where
  | one (i : Nat)
  | tup (is : List Nat)
def Tgt.put : Tgt → D → En → Option En
  | .one i, d, τ => some (τ.set i (some d))
  | .tup is, .tup ds, τ => if ds.length = is.length then some (go is ds τ) else none
  | .tup _, _, _ => none
where go : List Nat → List D → En → En
  | i :: is, d :: ds, τ => go is ds (τ.set i (some d))
  | _, _, τ => τ
def Tgt.names : Tgt → List Nat
  | .one i => [i]
  | .tup is => is
def gNamesR : List Nat → TGs
  | [] => gNil
  | i :: is => gCons (gName i) (gNamesR is)
/-- its reading -/
def Tgt.raw (K : PySem.W.Frag) : Tgt → TG
  | .one i => gName i
  | .tup is => gTup K is.length (gNamesR is)
def compL (tg : Tgt) (tt : DT) (te : DE) (τ : En) : List D → List D → Sto → R (List D)
  | [], acc, st => .ok acc st
  | d :: ds, acc, st => match tg.put d τ with
    | none => .bad
    | some τ1 => match tt τ1 st with
      | .ok b st => if b = true then (match te τ1 st with
        | .ok y st => if acc.length < sizeLine then compL tg tt te τ ds (acc ++ [y]) st else .bad
        | _ => .bad) else compL tg tt te τ ds acc st
      | _ => .bad
def dComp (it : DI) (tg : Tgt) (tt : DT) (te : DE) (vs : List Nat) : DE := fun τ st => (it τ st).bind fun ds st => (compL tg tt te (wipeD τ vs) ds [] st).bind fun out st => .ok (.lst out) st
/-- .. a list that will change -/
def dCompN (it : DI) (tg : Tgt) (tt : DT) (te : DE) (vs : List Nat) : DE := fun τ st => (it τ st).bind fun ds st => (compL tg tt te (wipeD τ vs) ds [] st).bind fun out st => .ok (.ref st.length) (st ++ [.lst out])
def dYes : DT := fun _ st => .ok true st
theorem wipe_set {σ : L2.St} {i : Nat} {x : Option V} : ∀ {vs : List Nat}, i ∈ vs → L2.wipe (σ.set i x) vs = L2.wipe σ vs
  | [], h => by cases h
  | v :: vs, h => by
    unfold L2.wipe
    by_cases e : i ∈ vs
    · rw [wipe_set e]
    · rcases List.mem_cons.mp h with rfl | h
      · -- the wiped rest keeps the place
        have go : ∀ (us : List Nat), i ∉ us → (L2.wipe (σ.set i x) us) = (L2.wipe σ us).set i x := fun us => by
          induction us with
          | nil => exact fun _ => rfl
          | cons u us ih =>
            intro hn
            rw [List.mem_cons, not_or] at hn
            unfold L2.wipe
            rw [ih hn.2, List.set_comm _ _ hn.1]
        rw [go vs e, List.set_set]
      · exact absurd h e
theorem wipe_wipe (σ : L2.St) : ∀ (vs : List Nat) (us : List Nat), (∀ v ∈ vs, v ∈ us) → L2.wipe (L2.wipe σ vs) us = L2.wipe σ us
  | [], _, _ => rfl
  | v :: vs, us, h => by
    show L2.wipe ((L2.wipe σ vs).set v none) us = _
    rw [wipe_set (h v List.mem_cons_self), wipe_wipe σ vs us fun u hu => h u (List.mem_cons_of_mem _ hu)]
section
variable {X : Cx} {cl : Cl} {W : WX}
theorem Tgt.go_ok {K : PySem.W.Frag} {as : Mp} {H : Hp} {vs : List Nat} {Q : L2.St → Hp → Prop} : ∀ {is : List Nat} {ds : List D} {xs : List V} {τ : En} {σ : L2.St}, (∀ i ∈ is, i ∈ vs) → Reps K as H ds xs → ds.length = is.length → RepE K as H τ σ →
    (∀ σ1, RepE K as H (Tgt.put.go is ds τ) σ1 → L2.wipe σ1 vs = L2.wipe σ vs → Q σ1 H) → gNamesR is xs σ H Q
  | [], _, _, τ, σ, hv, .nil, hl, e, q => ⟨rfl, q σ e rfl⟩
  | [], _, _, τ, σ, hv, .cons _ _, hl, e, q => by simp at hl
  | i :: is, _, _, τ, σ, hv, .nil, hl, e, q => by simp at hl
  | i :: is, _, _, τ, σ, hv, .cons r rs, hl, e, q => by
    refine ⟨_, _, rfl, ?_⟩
    exact Tgt.go_ok (fun j hj => hv j (List.mem_cons_of_mem _ hj)) rs (by simpa using hl) (e.set i r) fun σ1 h1 h2 => q σ1 h1 (by rw [h2, wipe_set (hv i List.mem_cons_self)])
/-- a target stores: what is wanted behind it -/
theorem Tgt.run {K : PySem.W.Frag} {as : Mp} {H : Hp} {d : D} {v : V} {τ τ1 : En} {σ : L2.St} {vs : List Nat} {Q : L2.St → Hp → Prop} (tg : Tgt) (hv : ∀ i ∈ tg.names, i ∈ vs) (e : RepE K as H τ σ) (r : Rep K as H d v) (h : tg.put d τ = some τ1)
    (q : ∀ σ1, RepE K as H τ1 σ1 → L2.wipe σ1 vs = L2.wipe σ vs → Q σ1 H) : tg.raw K v σ H Q := by
  cases tg with
  | one i =>
    cases h
    exact q _ (e.set i r) (wipe_set (hv i (by simp [Tgt.names])))
  | tup is =>
    cases d with
    | tup ds =>
      have h : (if ds.length = is.length then some (Tgt.put.go is ds τ) else none) = some τ1 := h
      split at h
      · rename_i hl
        cases h
        cases r with
        | tup s rs => exact ⟨_, _, rfl, s.t, by rw [← rs.len]; exact hl, Tgt.go_ok hv rs hl e q⟩
      · cases h
    | _ => cases h
theorem Mk1.mvs {as as' : Mp} {H H' : Hp} {p : Addr} (e : Mk1 as H p as' H') : Mv as H as' H' := ⟨let ⟨bs, h, _⟩ := e.evo.ext; ⟨bs, h⟩, fun a o h n => ⟨fun z => by
  rcases z with z | z
  · exact e.evo.out h n (.inl z)
  · rw [e.x] at z
    rcases List.mem_cons.mp z with z | z
    · exact ne_of_none h e.free z
    · exact n (.inr z), e.evo.keep a o h n⟩⟩
/-- the list in the making, as it is walked -/
theorem comp_core {as : Mp} {st : Sto} {σ : L2.St} {τ : En} {H : Hp} {J : It} {ds : List D} {tg : Tgt} {tt : DT} {te : DE} {vs : List Nat} {A : Addr} {Qf : Hp → Prop} {out : List D} {stf : Sto}
    (hv : ∀ i ∈ tg.names, i ∈ vs) (w : Wd X.K cl as st H) (e : RepE X.K as H τ σ) (Wk : Walk X.K cl as H J ds) (ha : H A = none) (hr : compL tg tt te (wipeD τ vs) ds [] st = .ok out stf)
    (hq : ∀ as' H' xs, Mk1 as H A as' H' → Wd X.K cl as' stf H' → H' A = some (.lst xs) → Reps X.K as' H' out xs → Qf H') :
    ∃ Wv : Nat → Nat → Hp → Prop, (∃ m, Wv 0 m (upd H A (.lst []))) ∧ ∀ i m H, Wv i m H →
      (J.stop i H ∧ Qf H) ∨ (J.go i H ∧ ∃ Nx : Hp → Prop, (∀ H', Nx H' → ∃ m', m' < m ∧ Wv (i + 1) m' H') ∧ ∀ x H', J.yld i H x H' → (tg.raw X.K) x (L2.wipe σ vs) H' fun σ2 H2 => L2.wipe σ2 vs = L2.wipe σ vs ∧ liftT X.K cl W0 tt σ2 H2 fun b H3 =>
        if b = true then lift X.K cl W0 te σ2 H3 fun y H4 => ∃ acc, H4 A = some (.lst acc) ∧ acc.length < sizeLine ∧ Nx (upd H4 A (.lst (acc ++ [y]))) else Nx H3) := by
  refine ⟨fun i m H' => m = ds.length - i ∧ i ≤ ds.length ∧ ∃ as' st' acc xs, Mk1 as H A as' H' ∧ Wd X.K cl as' st' H' ∧ H' A = some (.lst xs) ∧ Reps X.K as' H' acc xs ∧ compL tg tt te (wipeD τ vs) (ds.drop i) acc st' = .ok out stf,
    ⟨ds.length, by simp, by simp, as.hide A, st, [], [], Mk1.start w ha, w.hide ha, upd_same, .nil, hr⟩, ?_⟩
  rintro i m H' ⟨rfl, hi, as', st', acc, xs, m1, w1, hA, ra, hc⟩
  by_cases hlt : i < ds.length
  · have hdr : ds.drop i = ds[i] :: ds.drop (i + 1) := List.drop_eq_getElem_cons hlt
    rw [hdr] at hc
    unfold compL at hc
    refine .inr ⟨Wk.go i as' H' m1.mvs hlt, _, fun H'' n => n, fun x H'' y => ?_⟩
    obtain ⟨d, hd, hn, r3⟩ := Wk.yld i as' st' H' x H'' hlt m1.mvs w1 y
    obtain ⟨e3, w3⟩ := Walk.evo hn w1
    rw [List.getElem?_eq_getElem hlt] at hd
    cases hd
    cases hp : tg.put ds[i] (wipeD τ vs) with
    | none => rw [hp] at hc; cases hc
    | some τ1 =>
      rw [hp] at hc
      dsimp only at hc
      obtain ⟨m3, k3⟩ := m1.next e3 w
      refine tg.run hv ((e.mv m3.mvs).wipe vs) r3 hp fun σ1 q1 q2 => ⟨q2.trans (wipe_wipe σ vs vs fun _ h => h), as', st', τ1, w3, q1, ?_⟩
      cases ht : tt τ1 st' with
      | bad => rw [ht] at hc; cases hc
      | exc _ _ => rw [ht] at hc; cases hc
      | ok b st4 =>
        rw [ht] at hc
        dsimp only at hc
        intro as4 H4 e4 w4
        obtain ⟨m4, k4⟩ := m3.next e4 w
        cases b with
        | false => exact ⟨ds.length - (i + 1), by omega, rfl, hlt, as4, st4, acc, xs, m4, w4, k4.trans (k3.trans hA), (ra.evo e3).evo e4, hc⟩
        | true =>
          rw [if_pos rfl] at hc
          show lift X.K cl W0 te σ1 H4 _
          refine ⟨as4, st4, τ1, w4, q1.evo e4, ?_⟩
          cases hy : te τ1 st4 with
          | bad => rw [hy] at hc; cases hc
          | exc _ _ => rw [hy] at hc; cases hc
          | ok z st5 =>
            rw [hy] at hc
            dsimp only at hc
            intro as5 H5 e5 w5 v rv
            obtain ⟨m5, k5⟩ := m4.next e5 w
            split at hc
            · rename_i hl
              have ra5 := ((ra.evo e3).evo e4).evo e5
              refine ⟨xs, k5.trans (k4.trans (k3.trans hA)), by rw [← ra5.len]; exact hl, ?_⟩
              have sd : Mv as5 H5 as5 (upd H5 A (.lst (xs ++ [v]))) := Mv.side (.inr m5.mem)
              exact ⟨ds.length - (i + 1), by omega, rfl, hlt, as5, st5, acc ++ [z], xs ++ [v], m5.set w, w5.wrx m5.mem, upd_same, (ra5.append (.cons rv .nil)).mv sd, hc⟩
            · cases hc
  · rw [List.drop_eq_nil_of_le (by omega)] at hc
    unfold compL at hc
    cases hc
    exact .inl ⟨Wk.stop i as' H' m1.mvs (by omega), hq as' H' xs m1 w1 hA ra⟩
theorem lift_comp {it : DI} {tg : Tgt} {tt : DT} {te : DE} {vs : List Nat} (hv : ∀ i ∈ tg.names, i ∈ vs) {σ : L2.St} {H : Hp} {Q : VK} (h : lift X.K cl W (dComp it tg tt te vs) σ H Q) :
    tLc (liftI X.K cl W it) (tg.raw X.K) (liftT X.K cl W0 tt) (lift X.K cl W0 te) vs σ H Q := by
  obtain ⟨as, st, τ, w, e, p⟩ := h
  refine ⟨as, st, τ, w, e, p.bind.mono fun ds st1 as1 H1 e1 w1 p1 J Wk A ha => ?_⟩
  have he : ∀ x stx, compL tg tt te (wipeD τ vs) ds [] st1 ≠ .exc x stx := by
    suffices q : ∀ ds acc st x stx, compL tg tt te (wipeD τ vs) ds acc st ≠ .exc x stx from q ds [] st1
    intro ds
    induction ds with
    | nil => intro acc st x stx h; cases h
    | cons d ds ih =>
      intro acc st x stx h
      unfold compL at h
      split at h
      · cases h
      · split at h
        · split at h
          · split at h
            · split at h
              · exact ih _ _ _ _ h
              · cases h
            · cases h
          · exact ih _ _ _ _ h
        · cases h
  cases hc : compL tg tt te (wipeD τ vs) ds [] st1 with
  | bad => rw [hc] at p1; exact p1.elim
  | exc x stx => exact (he x stx hc).elim
  | ok out stf =>
    rw [hc] at p1
    refine comp_core hv w1 (e.evo e1) Wk ha hc fun as' H' xs m w' hA ra => ?_
    obtain ⟨w2, n2⟩ := m.fix w1 w'
    exact Post.ok p1 m.evo w2 _ (.lst n2 hA (ra.mv m.mv))
theorem lift_compN {it : DI} {tg : Tgt} {tt : DT} {te : DE} {vs : List Nat} (hv : ∀ i ∈ tg.names, i ∈ vs) {σ : L2.St} {H : Hp} {Q : VK} (h : lift X.K cl W (dCompN it tg tt te vs) σ H Q) :
    tLc (liftI X.K cl W it) (tg.raw X.K) (liftT X.K cl W0 tt) (lift X.K cl W0 te) vs σ H Q := by
  obtain ⟨as, st, τ, w, e, p⟩ := h
  refine ⟨as, st, τ, w, e, p.bind.mono fun ds st1 as1 H1 e1 w1 p1 J Wk A ha => ?_⟩
  have he : ∀ x stx, compL tg tt te (wipeD τ vs) ds [] st1 ≠ .exc x stx := by
    suffices q : ∀ ds acc st x stx, compL tg tt te (wipeD τ vs) ds acc st ≠ .exc x stx from q ds [] st1
    intro ds
    induction ds with
    | nil => intro acc st x stx h; cases h
    | cons d ds ih =>
      intro acc st x stx h
      unfold compL at h
      split at h
      · cases h
      · split at h
        · split at h
          · split at h
            · split at h
              · exact ih _ _ _ _ h
              · cases h
            · cases h
          · exact ih _ _ _ _ h
        · cases h
  cases hc : compL tg tt te (wipeD τ vs) ds [] st1 with
  | bad => rw [hc] at p1; exact p1.elim
  | exc x stx => exact (he x stx hc).elim
  | ok out stf =>
    rw [hc] at p1
    refine comp_core hv w1 (e.evo e1) Wk ha hc fun as' H' xs m w' hA ra => ?_
    obtain ⟨e2, w2⟩ := m.push w1 w' hA (.lst ra)
    refine Post.ok p1 e2 w2 _ (.ref ?_)
    show (as'.m ++ [A])[stf.length]? = some A
    rw [← w'.len]; simp
variable {elt tge iter : Expr} {ifs : List Expr} {scope : Scope} {own : List (Str × Nat)} {pos spos : Pos} {it : DI} {tg : Tgt} {tt : DT} {te : DE}
abbrev JTs (X : Cx) (cl : Cl) (ifs : List Expr) (t : DT) : Prop := PTs X ifs (liftT X.K cl W0 t)
theorem jts_nil : JTs X cl [] dYes := ⟨fun pins s σ H Q I ⟨as, st, τ, w, e, p⟩ => pts_nil.run pins s σ H Q I (p.here w)⟩
theorem jts_one {c : Expr} {t : DT} (h : JT X cl W0 c t) : JTs X cl [c] t := pts_one h
theorem j_lc (hc : X.calm = true) (hN : X.N.Nodup) (hi : JI X cl W tge iter it) (ok : BlkOk X.N X.env.scope scope own) (hv : ∀ i ∈ tg.names, i ∈ own.map (·.2))
    (hg : ∀ (s : Shared) (H : Hp) (C : Addr) (cl : List (Str × Addr)) (fp : List Addr), PG (X.blk s H scope (compEnvC scope cl C X.env) fp) tge (tg.raw X.K))
    (ht : ∀ (s : Shared) (H : Hp) (C : Addr) (cl' : List (Str × Addr)) (fp : List Addr), JTs (X.blk s H scope (compEnvC scope cl' C X.env) fp) cl ifs tt)
    (he : ∀ (s : Shared) (H : Hp) (C : Addr) (cl' : List (Str × Addr)) (fp : List Addr), JE (X.blk s H scope (compEnvC scope cl' C X.env) fp) cl W0 elt te) (hs : ∀ x, foldedSetIterable iter X.env x = pure x := by intro _; rfl) :
    JE X cl W (.ListComp elt [⟨tge, iter, ifs, 0⟩] scope pos) (dComp it tg tt te (own.map (·.2))) :=
  PE.mono (pe_lc hc hN hi ok hg ht he hs) fun _ _ _ h => lift_comp hv h
theorem j_lcN (hc : X.calm = true) (hN : X.N.Nodup) (hi : JI X cl W tge iter it) (ok : BlkOk X.N X.env.scope scope own) (hv : ∀ i ∈ tg.names, i ∈ own.map (·.2))
    (hg : ∀ (s : Shared) (H : Hp) (C : Addr) (cl : List (Str × Addr)) (fp : List Addr), PG (X.blk s H scope (compEnvC scope cl C X.env) fp) tge (tg.raw X.K))
    (ht : ∀ (s : Shared) (H : Hp) (C : Addr) (cl' : List (Str × Addr)) (fp : List Addr), JTs (X.blk s H scope (compEnvC scope cl' C X.env) fp) cl ifs tt)
    (he : ∀ (s : Shared) (H : Hp) (C : Addr) (cl' : List (Str × Addr)) (fp : List Addr), JE (X.blk s H scope (compEnvC scope cl' C X.env) fp) cl W0 elt te) (hs : ∀ x, foldedSetIterable iter X.env x = pure x := by intro _; rfl) :
    JE X cl W (.ListComp elt [⟨tge, iter, ifs, 0⟩] scope pos) (dCompN it tg tt te (own.map (·.2))) :=
  PE.mono (pe_lc hc hN hi ok hg ht he hs) fun _ _ _ h => lift_compN hv h
/-- y = [..], y a plain local -/
theorem js_setLc {i : Nat} {y : Str} {py : Pos} (hc : X.calm = true) (hN : X.N.Nodup) (hy : X.N[i]? = some y) (hyl : X.env.scope.names.lookup y = some .local)
    (hsw : swapsWith (.ListComp elt [⟨tge, iter, ifs, 0⟩] scope pos) (some (.Name y py)) spos.line X.env = pure true) (hi : JI X cl W tge iter it) (ok : BlkOk X.N X.env.scope scope own) (hv : ∀ i ∈ tg.names, i ∈ own.map (·.2))
    (hg : ∀ (s : Shared) (H : Hp) (C : Addr) (cl : List (Str × Addr)) (fp : List Addr), PG (X.blk s H scope (compEnvC scope cl C X.env) fp) tge (tg.raw X.K))
    (ht : ∀ (s : Shared) (H : Hp) (C : Addr) (cl' : List (Str × Addr)) (fp : List Addr), JTs (X.blk s H scope (compEnvC scope cl' C X.env) fp) cl ifs tt)
    (he : ∀ (s : Shared) (H : Hp) (C : Addr) (cl' : List (Str × Addr)) (fp : List Addr), JE (X.blk s H scope (compEnvC scope cl' C X.env) fp) cl W0 elt te) (hs : ∀ x, foldedSetIterable iter X.env x = pure x := by intro _; rfl) :
    JS X cl W (.Assign [.Name y py] (.ListComp elt [⟨tge, iter, ifs, 0⟩] scope pos) spos) (dAsg (dComp it tg tt te (own.map (·.2))) (gN i)) := by
  refine PS.mono (ps_setLc (tt := liftT X.K cl W0 tt) (te := lift X.K cl W0 te) hc hN hy hyl hsw hi ok hg ht he hs) fun M σ H ⟨as, st, τ, w, e, p⟩ => ?_
  show tLc _ _ _ _ _ σ H _
  refine lift_comp hv ⟨as, st, τ, w, e, (Post.stm e p).mono fun d st1 as1 H1 e1 w1 p1 v rv => ?_⟩
  exact p1.here w1 _ ((e.evo e1).set i rv)
theorem js_setLcN {i : Nat} {y : Str} {py : Pos} (hc : X.calm = true) (hN : X.N.Nodup) (hy : X.N[i]? = some y) (hyl : X.env.scope.names.lookup y = some .local)
    (hsw : swapsWith (.ListComp elt [⟨tge, iter, ifs, 0⟩] scope pos) (some (.Name y py)) spos.line X.env = pure true) (hi : JI X cl W tge iter it) (ok : BlkOk X.N X.env.scope scope own) (hv : ∀ i ∈ tg.names, i ∈ own.map (·.2))
    (hg : ∀ (s : Shared) (H : Hp) (C : Addr) (cl : List (Str × Addr)) (fp : List Addr), PG (X.blk s H scope (compEnvC scope cl C X.env) fp) tge (tg.raw X.K))
    (ht : ∀ (s : Shared) (H : Hp) (C : Addr) (cl' : List (Str × Addr)) (fp : List Addr), JTs (X.blk s H scope (compEnvC scope cl' C X.env) fp) cl ifs tt)
    (he : ∀ (s : Shared) (H : Hp) (C : Addr) (cl' : List (Str × Addr)) (fp : List Addr), JE (X.blk s H scope (compEnvC scope cl' C X.env) fp) cl W0 elt te) (hs : ∀ x, foldedSetIterable iter X.env x = pure x := by intro _; rfl) :
    JS X cl W (.Assign [.Name y py] (.ListComp elt [⟨tge, iter, ifs, 0⟩] scope pos) spos) (dAsg (dCompN it tg tt te (own.map (·.2))) (gN i)) := by
  refine PS.mono (ps_setLc (tt := liftT X.K cl W0 tt) (te := lift X.K cl W0 te) hc hN hy hyl hsw hi ok hg ht he hs) fun M σ H ⟨as, st, τ, w, e, p⟩ => ?_
  show tLc _ _ _ _ _ σ H _
  refine lift_compN hv ⟨as, st, τ, w, e, (Post.stm e p).mono fun d st1 as1 H1 e1 w1 p1 v rv => ?_⟩
  exact p1.here w1 _ ((e.evo e1).set i rv)
end

/-! ### methods of lists -/
/-- a method of a built-in: the receiver, the arguments -/
abbrev DM := D → List D → Sto → R D
def dBM (r : DM) (to : DE) (t : DA) : DE := fun τ st => (to τ st).bind fun x st => (t τ st).bind fun ds st => r x ds st
section
variable {X : Cx} {cl : Cl} {W : WX}
def liftM (K : PySem.W.Frag) (cl : Cl) (E : XK) (r : DM) : V → List V → Hp → VK → Prop := fun x xs H Q => ∃ as st d ds, Wd K cl as st H ∧ Rep K as H d x ∧ Reps K as H ds xs ∧ Post K cl E as H (r d ds st) (QV K Q)
theorem MtR.mono {id : String} {r r' : V → List V → Hp → VK → Prop} (h : MtR X id r) (k : ∀ x xs H Q, r' x xs H Q → r x xs H Q) : MtR X id r' := fun pins s σ H x xs v us Q I r1 r2 q => h pins s σ H x xs v us Q I r1 r2 (k _ _ _ _ q)
/-- a method's rule: what kind of value the receiver must be is told by T -/
def MtJ (X : Cx) (cl : Cl) (id : String) (r : DM) : Prop := ∀ E : XK, MtR X id (liftM X.K cl E r)
def isT (T : String) (d : D) (st : Sto) : Bool := match d with
  | .str _ => T == "str"
  | .int _ => T == "int"
  | .lst _ => T == "list"
  | .fro _ => T == "list"
  | .dic _ => T == "dict"
  | .ref n => match st[n]? with
    | some (.lst _) => T == "list"
    | some (.dK _) => T == "dict"
    | some (.dT _) => T == "dict"
    | _ => false
  | _ => false
theorem isT_ok {T : String} {as : Mp} {st : Sto} {H : Hp} {d : D} {v : V} (w : Wd X.K cl as st H) (r : Rep X.K as H d v) (h : isT T d st = true) : tyV X.K T v H := by
  cases r with
  | str x => exact beq_iff_eq.mp h
  | int i => exact beq_iff_eq.mp h
  | lst n h1 r => exact .inl ⟨beq_iff_eq.mp h, _, .of h1⟩
  | fro s r => exact .inl ⟨beq_iff_eq.mp h, _, s.l⟩
  | dic n h1 r => exact .inr (.inr (.inl ⟨beq_iff_eq.mp h, .inl ⟨_, h1⟩⟩))
  | @ref n a h1 =>
    have h : (match st[n]? with | some (.lst _) => T == "list" | some (.dK _) => T == "dict" | some (.dT _) => T == "dict" | _ => false) = true := h
    cases hs : st[n]? with
    | none => rw [hs] at h; cases h
    | some o =>
      rw [hs] at h
      cases o with
      | lst es =>
        obtain ⟨xs, h2, r⟩ := w.lst h1 hs
        exact .inl ⟨beq_iff_eq.mp h, _, .of h2⟩
      | dK es =>
        obtain ⟨xs, h2, r⟩ := w.dK h1 hs
        exact .inr (.inr (.inl ⟨beq_iff_eq.mp h, .inl ⟨_, h2⟩⟩))
      | dT es =>
        obtain ⟨xs, h2, r⟩ := w.dT h1 hs
        exact .inr (.inr (.inl ⟨beq_iff_eq.mp h, .inr ⟨_, h2⟩⟩))
      | ins _ _ => cases h
  | _ => cases h
def dBMT (T : String) (r : DM) (to : DE) (t : DA) : DE := fun τ st => (to τ st).bind fun x st => if isT T x st = true then (t τ st).bind fun ds st => r x ds st else .bad
variable {o e : Expr} {es : List Expr} {to : DE} {t : DA} {name : Str} {apos cpos : Pos} {T id : String} {r : DM}
theorem j_bm (pa : PlainAttrs T) (slot : Slot T name id) (hty : typeOf (.builtin id) = pure (.type "method_descriptor")) (hm : MtJ X cl id r) (ho : JE X cl W o to) (ha : JA X cl W (e :: es) t)
    (hbase : attributeBase o name X.env (eval o X.env) = eval o X.env := by rfl)
    (hfew : ((backTo cpos (starEach (e :: es) X.env)).all (fun x => !x.1) && (backToKw cpos (keywordEach [] X.env)).all (fun x => x.1.isSome)
      && decide ((e :: es).length + ([] : List Keyword).length + (if ([] : List Keyword).isEmpty then 0 else 1) < 30)) = true := by rfl)
    (hline : (apos.endLine == cpos.line) = true := by rfl) (hs : starEach (e :: es) X.env = (false, eval e X.env) :: starEach es X.env := by rfl) (hplain : (backTo cpos (starEach es X.env)).any (·.1) = false := by rfl) :
    JE X cl W (.Call (.Attribute o name apos) (e :: es) [] cpos) (dBMT T r to t) := by
  refine ⟨fun pins s σ H Q I ⟨as, st, τ, w, e, p⟩ => (pe_bm pa slot hty (hm (WE W σ)) ho ha hbase hfew hline hs hplain).run pins s σ H Q I ⟨as, st, τ, w, e, p.bind.mono fun d st1 as1 H1 e1 w1 p1 x rx => ?_⟩⟩
  split at p1
  · rename_i hT
    exact ⟨isT_ok w1 rx hT, as1, st1, τ, w1, e.evo e1, p1.bind.mono fun ds st2 as2 H2 e2 w2 p2 xs rxs => ⟨as2, st2, d, ds, w2, rx.evo e2, rxs, p2⟩⟩
  · exact p1.elim
theorem j_bm0 (pa : PlainAttrs T) (slot : Slot T name id) (hty : typeOf (.builtin id) = pure (.type "method_descriptor")) (hm : MtJ X cl id r) (ho : JE X cl W o to)
    (hbase : attributeBase o name X.env (eval o X.env) = eval o X.env := by rfl) (hline : (apos.endLine == cpos.line) = true := by rfl) : JE X cl W (.Call (.Attribute o name apos) [] [] cpos) (dBMT T r to dNil) := by
  refine ⟨fun pins s σ H Q I ⟨as, st, τ, w, e, p⟩ => (pe_bm0 pa slot hty (hm (WE W σ)) ho hbase hline).run pins s σ H Q I ⟨as, st, τ, w, e, p.bind.mono fun d st1 as1 H1 e1 w1 p1 x rx => ?_⟩⟩
  split at p1
  · rename_i hT
    exact ⟨isT_ok w1 rx hT, as1, st1, d, [], w1, rx, .nil, p1⟩
  · exact p1.elim
theorem MtJ.of {r0 : V → List V → Hp → VK → Prop} (h : MtR X id r0)
    (k : ∀ (E : XK) (as : Mp) (st : Sto) (H : Hp) (x : V) (xs : List V) (d : D) (ds : List D) (Q : VK), Wd X.K cl as st H → Rep X.K as H d x → Reps X.K as H ds xs → Post X.K cl E as H (r d ds st) (QV X.K Q) → r0 x xs H Q) : MtJ X cl id r :=
  fun E => MtR.mono h fun x xs H Q ⟨as, st, d, ds, w, rx, rs, p⟩ => k E as st H x xs d ds Q w rx rs p
def mAppend : DM := fun x ds st => match x, ds with
  | .ref n, [d] => match st[n]? with
    | some (.lst xs) => if xs.length < sizeLine then .ok .non (st.set n (.lst (xs ++ [d]))) else .bad
    | _ => .bad
  | _, _ => .bad
theorem mj_append : MtJ X cl "list.append" mAppend := MtJ.of mt_append fun E as st H x xs d ds Q w rx rs p => by
  unfold mAppend at p
  split at p
  · rename_i n d
    obtain ⟨a, rfl, ha⟩ := rx.refAt
    obtain ⟨v, rfl, rv⟩ := rs.one
    split at p
    · rename_i ys hn
      split at p
      · rename_i hl
        obtain ⟨zs, hH, rz⟩ := w.lst ha hn
        exact ⟨a, zs, v, rfl, rfl, hH, by rw [← rz.len]; exact hl, p.ok (Evo.wr w ha) (w.wr ha (.lst (rz.append (.cons rv .nil)))) _ .non⟩
      · exact p.elim
    · exact p.elim
  · exact p.elim
def mExtend : DM := fun x ds st => match x, ds with
  | .ref n, [d] => match st[n]?, lstOf d st with
    | some (.lst xs), some ys => if xs.length + ys.length ≤ sizeLine then .ok .non (st.set n (.lst (xs ++ ys))) else .bad
    | _, _ => .bad
  | _, _ => .bad
theorem mj_extend : MtJ X cl "list.extend" mExtend := MtJ.of mt_extend fun E as st H x xs d ds Q w rx rs p => by
  unfold mExtend at p
  split at p
  · rename_i n d
    obtain ⟨a, rfl, ha⟩ := rx.refAt
    obtain ⟨v, rfl, rv⟩ := rs.one
    split at p
    · rename_i ys us hn hd
      split at p
      · rename_i hl
        obtain ⟨zs, hH, rz⟩ := w.lst ha hn
        obtain ⟨b, ws, rfl, hB, rw'⟩ := lstOf_ok w rv hd
        exact ⟨a, b, zs, ws, rfl, rfl, hH, hB, by rw [← rz.len, ← rw'.len]; exact hl, p.ok (Evo.wr w ha) (w.wr ha (.lst (rz.append rw'))) _ .non⟩
      · exact p.elim
    · exact p.elim
  · exact p.elim
def mPop : DM := fun x ds st => match x, ds with
  | .ref n, [] => match st[n]? with
    | some (.lst xs) => (match xs[xs.length - 1]? with
      | some d => .ok d (st.set n (.lst xs.dropLast))
      | none => .bad)
    | _ => .bad
  | _, _ => .bad
theorem Reps.dropLast {K : PySem.W.Frag} {as : Mp} {H : Hp} {ds : List D} {vs : List V} (r : Reps K as H ds vs) : Reps K as H ds.dropLast vs.dropLast := by
  rw [List.dropLast_eq_take, List.dropLast_eq_take, r.len]
  exact r.take _
theorem mj_pop : MtJ X cl "list.pop" mPop := MtJ.of mt_pop fun E as st H x xs d ds Q w rx rs p => by
  unfold mPop at p
  split at p
  · rename_i n
    obtain ⟨a, rfl, ha⟩ := rx.refAt
    cases rs
    split at p
    · rename_i ys hn
      obtain ⟨zs, hH, rz⟩ := w.lst ha hn
      cases hd : ys[ys.length - 1]? with
      | none => rw [hd] at p; exact p.elim
      | some d =>
        rw [hd] at p
        obtain ⟨v, h1, h2⟩ := rz.get hd
        exact ⟨a, zs, v, rfl, rfl, hH, by rw [← rz.len]; exact h1, Post.ok p (Evo.wr w ha) (w.wr ha (.lst rz.dropLast)) _ (h2.evo (Evo.wr w ha))⟩
    · exact p.elim
  · exact p.elim
end
end DL

/-! DL7: rules that look at the values; what a def leaves behind is forgotten; the law's end. -/
namespace DL
open PySem PySem.Spec PyProof.Rows L2

theorem PE.or {X : Cx} {e : Expr} {t t' : TE} (h : PE X e t) (h' : PE X e t') : PE X e (fun σ H Q => t σ H Q ∨ t' σ H Q) := ⟨fun pins s σ H Q I q => q.elim (h.run pins s σ H Q I) (h'.run pins s σ H Q I)⟩
theorem PS.or {X : Cx} {e : Stmt} {t t' : TS} (h : PS X e t) (h' : PS X e t') : PS X e (fun M σ H => t M σ H ∨ t' M σ H) := ⟨fun pins s σ H M I q => q.elim (h.run pins s σ H M I) (h'.run pins s σ H M I)⟩
theorem PI.or {X : Cx} {tg e : Expr} {t t' : TI} (h : PI X tg e t) (h' : PI X tg e t') : PI X tg e (fun σ H R => t σ H R ∨ t' σ H R) := ⟨fun pins s σ H R I q => q.elim (h.run pins s σ H R I) (h'.run pins s σ H R I)⟩
section
variable {X : Cx} {cl : Cl} {W : WX} {e : Expr} {ta tb : DE}
/-- one of two rules, as the run goes -/
theorem JE.or {t t1 t2 : DE} (h1 : JE X cl W e t1) (h2 : JE X cl W e t2) (h : ∀ τ st, t τ st = t1 τ st ∨ t τ st = t2 τ st ∨ t τ st = .bad) : JE X cl W e t :=
  PE.mono (PE.or h1 h2) fun σ H Q ⟨as, st, τ, w, e, p⟩ => by
    rcases h τ st with q | q | q
    · exact .inl ⟨as, st, τ, w, e, by rw [← q]; exact p⟩
    · exact .inr ⟨as, st, τ, w, e, by rw [← q]; exact p⟩
    · rw [q] at p; exact p.elim
theorem JI.or {tg : Expr} {t t1 t2 : DI} (h1 : JI X cl W tg e t1) (h2 : JI X cl W tg e t2) (h : ∀ τ st, t τ st = t1 τ st ∨ t τ st = t2 τ st ∨ t τ st = .bad) : JI X cl W tg e t :=
  PI.mono (PI.or h1 h2) fun σ H Q ⟨as, st, τ, w, e, p⟩ => by
    rcases h τ st with q | q | q
    · exact .inl ⟨as, st, τ, w, e, by rw [← q]; exact p⟩
    · exact .inr ⟨as, st, τ, w, e, by rw [← q]; exact p⟩
    · rw [q] at p; exact p.elim
theorem JS.or {s : Stmt} {t t1 t2 : DS} (h1 : JS X cl W s t1) (h2 : JS X cl W s t2) (h : ∀ τ st, t τ st = t1 τ st ∨ t τ st = t2 τ st ∨ t τ st = .bad) : JS X cl W s t :=
  PS.mono (PS.or h1 h2) fun M σ H ⟨as, st, τ, w, e, p⟩ => by
    rcases h τ st with q | q | q
    · exact .inl ⟨as, st, τ, w, e, by rw [← q]; exact p⟩
    · exact .inr ⟨as, st, τ, w, e, by rw [← q]; exact p⟩
    · rw [q] at p; exact p.elim
end
/-- x[i], of a dict or of a row -/
def dIxA : D2 := fun x y st => if (dicOf x st).isSome = true then dGetK x y st else dIx x y st
def dInA (neg : Bool) : D2 := fun y x st => if (dicOf x st).isSome = true then dInK neg y x st else dIn neg y x st
theorem bin_or {r r1 r2 : D2} (h : ∀ x y st, r x y st = r1 x y st ∨ r x y st = r2 x y st) (ta tb : DE) (τ : En) (st : Sto) :
    dBin r ta tb τ st = dBin r1 ta tb τ st ∨ dBin r ta tb τ st = dBin r2 ta tb τ st ∨ dBin r ta tb τ st = .bad := by
  unfold dBin
  cases ta τ st with
  | bad => exact .inr (.inr rfl)
  | exc x st => exact .inl rfl
  | ok x st1 =>
    show (tb τ st1).bind _ = (tb τ st1).bind _ ∨ (tb τ st1).bind _ = (tb τ st1).bind _ ∨ (tb τ st1).bind _ = _
    cases tb τ st1 with
    | bad => exact .inr (.inr rfl)
    | exc x st => exact .inl rfl
    | ok y st2 =>
      rcases h x y st2 with q | q
      · exact .inl q
      · exact .inr (.inl q)
theorem ite_or {α : Type} {c : Prop} [Decidable c] (a b : α) : (if c then a else b) = a ∨ (if c then a else b) = b := by
  by_cases h : c
  · exact .inl (if_pos h)
  · exact .inr (if_neg h)
section
variable {X : Cx} {cl : Cl} {W : WX} {pos pos' : Pos} {a b o i value : Expr} {ta tb td ty tv : DE}
theorem j_ixA (hu : X.A.units + 1 < cLine) (ha : JE X cl W a ta) (hb : JE X cl W b tb) (hs : PlainIx b := by intro _ _; rfl) : JE X cl W (.Subscript a b pos) (dBin dIxA ta tb) :=
  JE.or (j_dget hu ha hb hs) (j_ix ha hb hs) (bin_or (fun _ _ _ => ite_or _ _) ta tb)
theorem j_inA (hu : X.A.units + 65 < cLine) (ha : JE X cl W a ta) (hb : JE X cl W b tb) (hm : behindInMarks .In b = false := by rfl) : JE X cl W (.Compare a [.In] [b] pos) (dBin (dInA false) ta tb) :=
  JE.or (j_din (by omega) ha hb hm) (j_cmp (oj_in hu) ha hb hm) (bin_or (fun _ _ _ => ite_or _ _) ta tb)
theorem j_notInA (hu : X.A.units + 65 < cLine) (ha : JE X cl W a ta) (hb : JE X cl W b tb) (hm : behindInMarks .NotIn b = false := by rfl) : JE X cl W (.Compare a [.NotIn] [b] pos) (dBin (dInA true) ta tb) :=
  JE.or (j_dnotin (by omega) ha hb hm) (j_cmp (oj_notIn hu) ha hb hm) (bin_or (fun _ _ _ => ite_or _ _) ta tb)
/-- an expression that gives a truth, as a test -/
theorem j_tst {e : Expr} {t : DE} (h : JE X cl W e t) (he : ∀ whole, isTrue e X.env whole = (do let v ← whole; standAt e.pos; holding [v] (truthy v)) := by intro _; rfl) : JT X cl W e (dTst t) := by
  refine PT.mono (pt_val h he) fun σ H Q ⟨as, st, τ, w, e, p⟩ => ⟨as, st, τ, w, e, p.tru.mono fun d st1 as1 H1 e1 w1 ⟨k, hk, p1⟩ v rv => ?_⟩
  subst hk
  cases rv
  exact ⟨k, rfl, p1⟩
/-- a comparison's value is a truth whatever it compares: as a test -/
theorem PT.or {e : Expr} {t t' : TT} (h : PT X e t) (h' : PT X e t') : PT X e (fun σ H Q => t σ H Q ∨ t' σ H Q) := ⟨fun pins s σ H Q I q => q.elim (h.run pins s σ H Q I) (h'.run pins s σ H Q I)⟩
theorem JT.or {e : Expr} {t t1 t2 : DT} (h1 : JT X cl W e t1) (h2 : JT X cl W e t2) (h : ∀ τ st, t τ st = t1 τ st ∨ t τ st = t2 τ st ∨ t τ st = .bad) : JT X cl W e t :=
  PT.mono (PT.or h1 h2) fun σ H Q ⟨as, st, τ, w, e, p⟩ => by
    rcases h τ st with q | q | q
    · exact .inl ⟨as, st, τ, w, e, by rw [← q]; exact p⟩
    · exact .inr ⟨as, st, τ, w, e, by rw [← q]; exact p⟩
    · rw [q] at p; exact p.elim
theorem lift_tst {t : DE} {σ : L2.St} {H : Hp} {Q : Bool → Hp → Prop} (h : liftT X.K cl W (dTst t) σ H Q) : lift X.K cl W t σ H fun x H1 => ∃ c, x = .bl c ∧ Q c H1 := by
  obtain ⟨as, st, τ, w, e, p⟩ := h
  refine ⟨as, st, τ, w, e, p.tru.mono fun d st1 as1 H1 e1 w1 ⟨k, hk, p1⟩ v rv => ?_⟩
  subst hk
  cases rv
  exact ⟨k, rfl, p1⟩
theorem j_tdin (hu : X.A.units + 1 < cLine) (hi : JE X cl W i ty) (ho : JE X cl W o td) (hm : behindInMarks .In o = false := by rfl) : JT X cl W (.Compare i [.In] [o] pos) (dTst (dBin (dInK false) ty td)) :=
  PT.mono (pt_cmp (pc_din hu hi ho) hm) fun _ _ _ h => lift_din0 (lift_tst h)
theorem j_tdnotin (hu : X.A.units + 1 < cLine) (hi : JE X cl W i ty) (ho : JE X cl W o td) (hm : behindInMarks .NotIn o = false := by rfl) : JT X cl W (.Compare i [.NotIn] [o] pos) (dTst (dBin (dInK true) ty td)) :=
  PT.mono (pt_cmp (pc_dnotin hu hi ho) hm) fun _ _ _ h => lift_din1 (lift_tst h)
theorem tst_or {t t1 t2 : DE} (h : ∀ τ st, t τ st = t1 τ st ∨ t τ st = t2 τ st ∨ t τ st = .bad) (τ : En) (st : Sto) : dTst t τ st = dTst t1 τ st ∨ dTst t τ st = dTst t2 τ st ∨ dTst t τ st = .bad := by
  unfold dTst
  rcases h τ st with q | q | q
  · exact .inl (by rw [q])
  · exact .inr (.inl (by rw [q]))
  · exact .inr (.inr (by rw [q]))
theorem j_tinA (hu : X.A.units + 65 < cLine) (ha : JE X cl W a ta) (hb : JE X cl W b tb) (hm : behindInMarks .In b = false := by rfl) : JT X cl W (.Compare a [.In] [b] pos) (dTst (dBin (dInA false) ta tb)) :=
  JT.or (j_tdin (by omega) ha hb hm) (j_tcmp (oj_in hu) ha hb hm) (tst_or (bin_or (fun _ _ _ => ite_or _ _) ta tb))
theorem j_tnotInA (hu : X.A.units + 65 < cLine) (ha : JE X cl W a ta) (hb : JE X cl W b tb) (hm : behindInMarks .NotIn b = false := by rfl) : JT X cl W (.Compare a [.NotIn] [b] pos) (dTst (dBin (dInA true) ta tb)) :=
  JT.or (j_tdnotin (by omega) ha hb hm) (j_tcmp (oj_notIn hu) ha hb hm) (tst_or (bin_or (fun _ _ _ => ite_or _ _) ta tb))
/-- xs[i] = v, of a list of the store -/
def sSetL (x y v : D) (τ : En) (st : Sto) : R (Fl × En) := match x, y with
  | .ref n, .int i => match st[n]? with
    | some (.lst xs) => (match ixN xs.length i with
      | some j => .ok (.nx, τ) (st.set n (.lst (xs.set j v)))
      | none => .bad)
    | _ => .bad
  | _, _ => .bad
def dSetL (td ty tv : DE) : DS := fun τ st => (tv τ st).stm τ fun v st => (td τ st).stm τ fun x st => (ty τ st).stm τ fun y st => sSetL x y v τ st
def sPutA (x y v : D) (τ : En) (st : Sto) : R (Fl × En) := if (dicOf x st).isSome = true then sPutK x y v τ st else sSetL x y v τ st
def dPutA (td ty tv : DE) : DS := fun τ st => (tv τ st).stm τ fun v st => (td τ st).stm τ fun x st => (ty τ st).stm τ fun y st => sPutA x y v τ st
theorem js_setL (ho : JE X cl W o td) (hi : JE X cl W i ty) (hv : JE X cl W value tv) (ha : ∀ v, assign (.Subscript o i pos') X.env v = (do
      let ov ← holding [v] (eval o X.env)
      let iv ← holding [v, ov] (eval i X.env)
      standAt pos'
      holding [v, ov, iv] (setItem ov iv v)
      release [v, ov, iv] []) := by intro _; rfl) (hs : swapsWithSole [.Subscript o i pos'] value pos.line X.env = pure false := by rfl) (hw : swappedStores [.Subscript o i pos'] value X.env = pure none := by rfl)
    (h1 : (assignEach [.Subscript o i pos'] X.env).map (·.2) = [assign (.Subscript o i pos') X.env] := by rfl) : JS X cl W (.Assign [.Subscript o i pos'] value pos) (dSetL td ty tv) := by
  refine PS.mono (ps_asg hv (pg_sub ho hi set_list ha) hs hw h1) fun M σ H ⟨as, st, τ, w, e, p⟩ => ⟨as, st, τ, w, e, (Post.stm e p).mono fun d st1 as1 H1 e1 w1 p1 v rv => ?_⟩
  refine ⟨as1, st1, τ, w1, e.evo e1, (Post.stm (e.evo e1) p1).mono fun d2 st2 as2 H2 e2 w2 p2 x rx => ?_⟩
  refine ⟨as2, st2, τ, w2, (e.evo e1).evo e2, (Post.stm ((e.evo e1).evo e2) p2).mono fun d3 st3 as3 H3 e3 w3 p3 y ry => ?_⟩
  have rx3 := rx.evo e3
  unfold sSetL at p3
  split at p3
  · rename_i n i
    obtain ⟨q, rfl, hq⟩ := rx3.refAt
    cases ry
    split at p3
    · rename_i xs hn
      obtain ⟨zs, hH, rz⟩ := w3.lst hq hn
      cases hj : ixN xs.length i with
      | none => rw [hj] at p3; exact p3.elim
      | some j =>
        rw [hj] at p3
        exact ⟨q, zs, i, j, rfl, rfl, hH, by rw [← rz.len]; exact hj, Post.ok p3 (Evo.wr w3 hq) (w3.wr hq (.lst (rz.set ((rv.evo e2).evo e3) j))) σ ((((e.evo e1).evo e2).evo e3).evo (Evo.wr w3 hq))⟩
    · exact p3.elim
  · exact p3.elim
theorem js_putA (hu : X.A.units + 1 < cLine) (ho : JE X cl W o td) (hi : JE X cl W i ty) (hv : JE X cl W value tv) (hs : swapsWith value (some (.Subscript o i pos')) pos.line X.env = pure false := by rfl) (ha : ∀ v, assign (.Subscript o i pos') X.env v = (do
      let ov ← holding [v] (eval o X.env)
      let iv ← holding [v, ov] (eval i X.env)
      standAt pos'
      holding [v, ov, iv] (setItem ov iv v)
      release [v, ov, iv] []) := by intro _; rfl) (hs' : swapsWithSole [.Subscript o i pos'] value pos.line X.env = pure false := by rfl) (hw : swappedStores [.Subscript o i pos'] value X.env = pure none := by rfl)
    (h1 : (assignEach [.Subscript o i pos'] X.env).map (·.2) = [assign (.Subscript o i pos') X.env] := by rfl) : JS X cl W (.Assign [.Subscript o i pos'] value pos) (dPutA td ty tv) := by
  refine JS.or (js_dput hu ho hi hv hs) (js_setL ho hi hv ha hs' hw h1) fun τ st => ?_
  unfold dPutA dPutS dSetL
  cases tv τ st with
  | bad => exact .inr (.inr rfl)
  | exc x st => exact .inl rfl
  | ok v st1 =>
    show (td τ st1).stm _ _ = (td τ st1).stm _ _ ∨ (td τ st1).stm _ _ = (td τ st1).stm _ _ ∨ (td τ st1).stm _ _ = _
    cases td τ st1 with
    | bad => exact .inr (.inr rfl)
    | exc x st => exact .inl rfl
    | ok x st2 =>
      show (ty τ st2).stm _ _ = (ty τ st2).stm _ _ ∨ (ty τ st2).stm _ _ = (ty τ st2).stm _ _ ∨ (ty τ st2).stm _ _ = _
      cases ty τ st2 with
      | bad => exact .inr (.inr rfl)
      | exc x st => exact .inl rfl
      | ok y st3 =>
        rcases ite_or (c := (dicOf x st3).isSome = true) (sPutK x y v τ st3) (sSetL x y v τ st3) with q | q
        · exact .inl q
        · exact .inr (.inl q)
/-- what a for walks: a list, a tuple, a text -/
def iAny (t : DE) : DI := fun τ st => (t τ st).bind fun d st => match d with
  | .lst ds => .ok ds st
  | .fro ds => .ok ds st
  | .tup ds => .ok ds st
  | .str x => .ok (x.cps.toList.map fun c => .str ⟨#[c]⟩) st
  | _ => .bad
theorem ji_any {tg e : Expr} {te : DE} (he : JE X cl W e te) : JI X cl W tg e (iAny te) := by
  refine JI.or (t2 := fun τ st => if (match te τ st with | .ok (.tup _) _ => true | _ => false) = true then iTupD te τ st else iStrD te τ st) (ji_seq he) (JI.or (ji_tup he) (ji_str he) fun τ st => (ite_or _ _).elim .inl fun h => .inr (.inl h)) fun τ st => ?_
  unfold iAny iSeq iTupD iStrD
  cases te τ st with
  | bad => exact .inl rfl
  | exc x st => exact .inl rfl
  | ok d st1 =>
    cases d with
    | tup ds => exact .inr (.inl rfl)
    | str x => exact .inr (.inl rfl)
    | _ => exact .inl rfl
end

/-! ### what a def has left behind -/
mutual
def D.wf (n : Nat) : D → Bool
  | .ref k => decide (k < n)
  | .tup ds => wfs n ds
  | .lst ds => wfs n ds
  | .fro ds => wfs n ds
  | .dic kvs => wfk n kvs
  | _ => true
def wfs (n : Nat) : List D → Bool
  | [] => true
  | d :: ds => d.wf n && wfs n ds
def wfk (n : Nat) : List (Key × D) → Bool
  | [] => true
  | (_, d) :: ds => d.wf n && wfk n ds
end
def wff {κ : Type} (n : Nat) : List (κ × D) → Bool
  | [] => true
  | (_, d) :: ds => d.wf n && wff n ds
def Ob.wf (n : Nat) : Ob → Bool
  | .lst ds => wfs n ds
  | .dK kvs => wff n kvs
  | .dT kvs => wff n kvs
  | .ins _ fs => wff n fs
section
variable {K : PySem.W.Frag} {cl : Cl} {as as' : Mp} {H : Hp} {n : Nat}
mutual
theorem Rep.wf : ∀ {d : D} {v : V}, Rep K as H d v → d.wf as.m.length = true
  | _, _, .non => rfl
  | _, _, .bl b => rfl
  | _, _, .int i => rfl
  | _, _, .str x => rfl
  | _, _, .tup s r => Reps.wf r
  | _, _, .lst m h r => Reps.wf r
  | _, _, .fro s r => Reps.wf r
  | _, _, .dic m h r => RepK.wf r
  | _, _, .ref h => decide_eq_true (List.getElem?_eq_some_iff.mp h).1
  | _, _, .raw v => rfl
theorem Reps.wf : ∀ {ds : List D} {vs : List V}, Reps K as H ds vs → wfs as.m.length ds = true
  | _, _, .nil => rfl
  | _, _, .cons r t => by unfold wfs; rw [Rep.wf r, Reps.wf t]; rfl
theorem RepK.wf : ∀ {ds : List (Key × D)} {vs : List (Key × V)}, RepK K as H ds vs → wfk as.m.length ds = true
  | _, _, .nil => rfl
  | _, _, .cons r t => by unfold wfk; rw [Rep.wf r, RepK.wf t]; rfl
end
theorem RepF.wf {κ : Type} : ∀ {ds : List (κ × D)} {vs : List (κ × V)}, RepF K as H ds vs → wff as.m.length ds = true
  | _, _, .nil => rfl
  | _, _, .cons r t => by unfold wff; rw [r.wf, RepF.wf t]; rfl
theorem RepO.wf : ∀ {o : Ob} {h : HO}, RepO K cl as H o h → o.wf as.m.length = true
  | _, _, .lst r => r.wf
  | _, _, .dK r => r.wf
  | _, _, .dT r => r.wf
  | _, _, .ins r => r.wf
/-- the first n of the store -/
structure CutM (as' as : Mp) (n : Nat) : Prop where
  m : as'.m = as.m.take n
  x : as'.x = as.x
theorem CutM.out (c : CutM as' as n) {a : Addr} (h : a ∉ as) : a ∉ as' := fun z => z.elim (fun z => h (.inl (by rw [c.m] at z; exact List.mem_of_mem_take z))) fun z => h (.inr (by rw [← c.x]; exact z))
theorem StT.cut (c : CutM as' as n) {a : Addr} {xs : List V} (h : StT K as H a xs) : StT K as' H a xs := h.imp (fun z => ⟨c.out z.1, z.2⟩) id
theorem StF.cut (c : CutM as' as n) {a : Addr} {xs : List V} (h : StF K as H a xs) : StF K as' H a xs := h.imp (fun z => ⟨c.out z.1, z.2⟩) id
mutual
theorem Rep.cut (c : CutM as' as n) : ∀ {d : D} {v : V}, Rep K as H d v → d.wf n = true → Rep K as' H d v
  | _, _, .non, _ => .non
  | _, _, .bl b, _ => .bl b
  | _, _, .int i, _ => .int i
  | _, _, .str x, _ => .str x
  | _, _, .tup s r, h => .tup (s.cut c) (Reps.cutW c r h)
  | _, _, .lst m q r, h => .lst (c.out m) q (Reps.cutW c r h)
  | _, _, .fro s r, h => .fro (s.cut c) (Reps.cutW c r h)
  | _, _, .dic m q r, h => .dic (c.out m) q (RepK.cut c r h)
  | _, _, .ref q, h => .ref (by rw [c.m, List.getElem?_take_of_lt (of_decide_eq_true h)]; exact q)
  | _, _, .raw v, _ => .raw v
theorem Reps.cutW (c : CutM as' as n) : ∀ {ds : List D} {vs : List V}, Reps K as H ds vs → wfs n ds = true → Reps K as' H ds vs
  | _, _, .nil, _ => .nil
  | _, _, .cons r t, h => by
    unfold wfs at h
    rw [Bool.and_eq_true_iff] at h
    exact .cons (Rep.cut c r h.1) (Reps.cutW c t h.2)
theorem RepK.cut (c : CutM as' as n) : ∀ {ds : List (Key × D)} {vs : List (Key × V)}, RepK K as H ds vs → wfk n ds = true → RepK K as' H ds vs
  | _, _, .nil, _ => .nil
  | _, _, .cons r t, h => by
    unfold wfk at h
    rw [Bool.and_eq_true_iff] at h
    exact .cons (Rep.cut c r h.1) (RepK.cut c t h.2)
end
theorem RepF.cut {κ : Type} (c : CutM as' as n) : ∀ {ds : List (κ × D)} {vs : List (κ × V)}, RepF K as H ds vs → wff n ds = true → RepF K as' H ds vs
  | _, _, .nil, _ => .nil
  | _, _, .cons r t, h => by
    unfold wff at h
    rw [Bool.and_eq_true_iff] at h
    exact .cons (r.cut c h.1) (RepF.cut c t h.2)
theorem RepO.cut (c : CutM as' as n) : ∀ {o : Ob} {h : HO}, RepO K cl as H o h → o.wf n = true → RepO K cl as' H o h
  | _, _, .lst r, h => .lst (r.cutW c h)
  | _, _, .dK r, h => .dK (r.cut c h)
  | _, _, .dT r, h => .dT (r.cut c h)
  | _, _, .ins r, h => .ins (r.cut c h)
end
/-- the result as it is handed on -/
inductive Cut (n : Nat) (st : Sto) : D → D → Prop
  | same {d : D} : d.wf n = true → Cut n st d d
  | fix {k : Nat} {ds : List D} : n ≤ k → st[k]? = some (.lst ds) → wfs n ds = true → Cut n st (.ref k) (.lst ds)
  | fixK {k : Nat} {kvs : List (Key × D)} : n ≤ k → st[k]? = some (.dK kvs) → wfk n kvs = true → Cut n st (.ref k) (.dic kvs)
/-- the store keeps what stood there, or things that lean on nothing that is forgotten -/
def Kept (st st' : Sto) : Prop := st.length ≤ st'.length ∧ ∀ (i : Nat) (o : Ob), st'[i]? = some o → st[i]? = some o ∨ o.wf st'.length = true
theorem Kept.refl (st : Sto) : Kept st st := ⟨Nat.le_refl _, fun _ _ h => .inl h⟩
section
variable {P : Program} {w : World} {K : PySem.W.Frag} {mg : Str → Option Value} {base : Heap} {cl : Cl}
theorem Wd.cut {as as1 : Mp} {st st' g : Sto} {H H1 : Hp} (k : Kept st st') (w0 : Wd K cl as st H) (e : Evo as H as1 H1) (w1 : Wd K cl as1 (st' ++ g) H1) :
    CutM ⟨as1.m.take st'.length, as1.x⟩ as1 st'.length ∧ Evo as H ⟨as1.m.take st'.length, as1.x⟩ H1 ∧ Wd K cl ⟨as1.m.take st'.length, as1.x⟩ st' H1 := by
  have c : CutM ⟨as1.m.take st'.length, as1.x⟩ as1 st'.length := ⟨rfl, rfl⟩
  have hl : as1.m.length = st'.length + g.length := by rw [w1.len, List.length_append]
  obtain ⟨bs, h1, h2⟩ := e.ext
  have h0 : as.m.length = st.length := w0.len
  have hk := k.1
  refine ⟨c, ⟨⟨bs.take (st'.length - st.length), ?_, fun b hb => h2 b (List.mem_of_mem_take hb)⟩, e.exx, e.kx, e.keep, e.live⟩, ?_, ?_, ?_, ?_, ?_⟩
  · show as1.m.take st'.length = _
    rw [h1, List.take_append, h0, List.take_of_length_le (by omega)]
  · show (as1.m.take st'.length).length = _
    rw [List.length_take]; omega
  · exact w1.nd.sublist (List.take_sublist _ _)
  · exact fun a ha => w1.sep a (List.mem_of_mem_take ha)
  · exact w1.lv
  · intro n o hn
    have hlt : n < st'.length := (List.getElem?_eq_some_iff.mp hn).1
    obtain ⟨a, u, q1, q2, q3⟩ := w1.ob n o (by rw [List.getElem?_append_left hlt]; exact hn)
    refine ⟨a, u, by show (as1.m.take st'.length)[n]? = _; rw [List.getElem?_take_of_lt hlt]; exact q1, q2, q3.cut c ?_⟩
    rcases k.2 n o hn with z | z
    · obtain ⟨b, v, r1, r2, r3⟩ := w0.ob n o z
      have := r3.wf
      have mono : ∀ {m : Nat}, m ≤ st'.length → o.wf m = true → o.wf st'.length = true := by
        intro m hm
        have D1 : ∀ d : D, d.wf m = true → d.wf st'.length = true := by
          intro d
          apply D.rec (motive_1 := fun d => d.wf m = true → d.wf st'.length = true) (motive_2 := fun ds => wfs m ds = true → wfs st'.length ds = true) (motive_3 := fun ks => wfk m ks = true → wfk st'.length ks = true) (motive_4 := fun kd => kd.2.wf m = true → kd.2.wf st'.length = true)
          case non => exact fun h => h
          case bl => exact fun b h => h
          case int => exact fun b h => h
          case str => exact fun b h => h
          case tup => exact fun ds ih h => ih h
          case lst => exact fun ds ih h => ih h
          case fro => exact fun ds ih h => ih h
          case dic => exact fun ds ih h => ih h
          case ref => exact fun k h => decide_eq_true (Nat.lt_of_lt_of_le (of_decide_eq_true h) hm)
          case raw => exact fun v h => h
          case nil => exact fun h => h
          case cons =>
            intro d ds i1 i2 h
            unfold wfs at h ⊢
            rw [Bool.and_eq_true_iff] at h ⊢
            exact ⟨i1 h.1, i2 h.2⟩
          case nil => exact fun h => h
          case cons =>
            intro d ds i1 i2 h
            obtain ⟨k, d⟩ := d
            unfold wfk at h ⊢
            rw [Bool.and_eq_true_iff] at h ⊢
            exact ⟨i1 h.1, i2 h.2⟩
          case mk => exact fun k d ih h => ih h
        have Ds : ∀ ds : List D, wfs m ds = true → wfs st'.length ds = true := by
          intro ds
          induction ds with
          | nil => exact fun h => h
          | cons d ds ih =>
            intro h
            unfold wfs at h ⊢
            rw [Bool.and_eq_true_iff] at h ⊢
            exact ⟨D1 d h.1, ih h.2⟩
        have Df : ∀ {κ : Type} (ds : List (κ × D)), wff m ds = true → wff st'.length ds = true := by
          intro κ ds
          induction ds with
          | nil => exact fun h => h
          | cons d ds ih =>
            obtain ⟨k, d⟩ := d
            intro h
            unfold wff at h ⊢
            rw [Bool.and_eq_true_iff] at h ⊢
            exact ⟨D1 d h.1, ih h.2⟩
        cases o with
        | lst ds => exact Ds ds
        | dK ds => exact Df ds
        | dT ds => exact Df ds
        | ins c fs => exact Df fs
      exact mono (by omega) this
    · exact z
theorem wfk_f {n : Nat} : ∀ {ds : List (Key × D)}, wfk n ds = true → wff n ds = true
  | [], _ => rfl
  | (_, d) :: ds, h => by
    unfold wfk at h
    unfold wff
    rw [Bool.and_eq_true_iff] at h ⊢
    exact ⟨h.1, wfk_f h.2⟩
/-- a def's promise by a plain function that forgets what was made on the way -/
theorem FnD.trim {k : Nat} {f : Addr} {fd : FuncData} {ps : List Str} {F G : DF} (h : FnD P w K mg base cl k f fd ps F)
    (hg : ∀ ds st, (∀ d st', G ds st = .ok d st' → ∃ d0 g, F ds st = .ok d0 (st' ++ g) ∧ Cut st'.length (st' ++ g) d0 d ∧ Kept st st') ∧
      (∀ x st', G ds st = .exc x st' → ∃ g, F ds st = .exc x (st' ++ g) ∧ wff st'.length x.fs = true ∧ Kept st st')) : FnD P w K mg base cl k f fd ps G :=
  FnOk.imp h fun vs H Q E ⟨as, st, ds, wd, r, p⟩ => ⟨as, st, ds, wd, r, by
    cases hG : G ds st with
    | bad => rw [hG] at p; exact p.elim
    | exc x st' =>
      rw [hG] at p
      obtain ⟨g, h1, h2, h3⟩ := (hg ds st).2 x st' hG
      rw [h1]
      intro u dx as1 H1 e1 w1 rx
      obtain ⟨c, e2, w2⟩ := Wd.cut h3 wd e1 w1
      refine p u dx _ H1 e2 w2 ?_
      obtain ⟨q1, q2⟩ := rx
      exact ⟨q1, q2.imp id fun ⟨d, fx, z1, z2, z3, z4⟩ => ⟨d, fx, z1, c.out z2, z3, z4.cut c h2⟩⟩
    | ok d st' =>
      rw [hG] at p
      obtain ⟨d0, g, h1, h2, h3⟩ := (hg ds st).1 d st' hG
      rw [h1]
      intro as1 H1 e1 w1 v rv
      obtain ⟨c, e2, w2⟩ := Wd.cut h3 wd e1 w1
      refine p _ H1 e2 w2 v ?_
      cases h2 with
      | same hw => exact rv.cut c hw
      | fix hk hs hw =>
        obtain ⟨a, rfl, ha⟩ := rv.refAt
        obtain ⟨xs, hH, rs⟩ := w1.lst ha hs
        refine .lst (fun z => ?_) hH (rs.cutW c hw)
        rcases z with z | z
        · obtain ⟨i, hi, e⟩ := List.getElem_of_mem z
          have hi' : i < st'.length := by
            have := hi
            simp only [List.length_take] at this
            omega
          have ei : as1.m[i]? = some a := by
            rw [← e]
            simp only [List.getElem_take]
            rw [List.getElem?_eq_getElem]
          have := nd_ix w1.nd ei ha
          omega
        · exact w1.sep a (List.mem_of_getElem? ha) z
      | fixK hk hs hw =>
        obtain ⟨a, rfl, ha⟩ := rv.refAt
        obtain ⟨xs, hH, rs⟩ := w1.dK ha hs
        refine .dic (fun z => ?_) hH ((rs.cut c (wfk_f hw)).k)
        rcases z with z | z
        · obtain ⟨i, hi, e⟩ := List.getElem_of_mem z
          have hi' : i < st'.length := by
            have := hi
            simp only [List.length_take] at this
            omega
          have ei : as1.m[i]? = some a := by
            rw [← e]
            simp only [List.getElem_take]
            rw [List.getElem?_eq_getElem]
          have := nd_ix w1.nd ei ha
          omega
        · exact w1.sep a (List.mem_of_getElem? ha) z⟩
end

/-! ### the law's end -/
/-- the law hands back True -/
def LawOk (F : DF) : Prop := ∀ ns : List Int, ns.length ≤ 63 → (∀ z ∈ ns, Builtin.Int.intBits z ≤ 1048576) → ∃ st, F [.fro (ns.map .int)] [] = .ok (.bl true) st
theorem reps_ints {K : PySem.W.Frag} {as : Mp} {H : Hp} : ∀ ns : List Int, Reps K as H (ns.map D.int) (ns.map V.int)
  | [] => .nil
  | n :: ns => .cons (.int n) (reps_ints ns)
theorem walk_dl {l : PySem.W.OpenLaw} {k : Nat} {q : Program} {loose : List Str} {XP : (Str → Option Value) → Heap → Prop} {YP : World → Heap → Prop} {d : DefRec} {K : Params → PySem.W.Frag} {x : Str} {F : DF}
    (hn : l.most = some 63) (hdf : d.params.defaults = []) (hr : Room k callerA) (hY : ∀ (w : World) (h : Heap), YP w h → (K w.params).In h)
    (hF : ∀ (w : World) (mg : Str → Option Value) (fa : Addr) (h : Heap), (K w.params).In h → h.Ns mainGlobals mg → mg d.name = some (.ref fa) →
      ∃ (fd : FuncData) (cl : Cl), (∀ (s : Shared) (u : Value), BindsTo s fd ⟨[u], []⟩ [(x, u)]) ∧
        ∀ base : Heap, (K w.params).In base → base.Ns mainGlobals mg → FnD l.prog w (K w.params) mg base cl k fa fd [x] F)
    (hl : LawOk F) : PySem.W.WalkO q loose XP YP l.row.toRowW d [] (fun f vs => PySem.call f vs) := by
  refine L2.walk_ofB (n := 63) (k := k) (x := x) (CX := fun w => L2.CX l.prog w) (sp := fun w => fun vs H Q E => ∃ (a : Addr) (ns : List Int), vs = [.ref a] ∧ ns.length ≤ 63 ∧ (∀ z ∈ ns, Builtin.Int.intBits z ≤ 1048576) ∧ Only H ∧ SqL (K w.params) H a (ns.map V.int) ∧ ∀ H', Q (.bl true) H') hn (by decide) hdf hr hY
    (fun w mg fa h KX G hm => ?_) (fun w H a ns h1 h2 h3 h4 => ⟨a, ns, rfl, h1, h2, h3, h4, fun _ => rfl⟩) fun w H s e s' hc => by
      obtain ⟨_, _, _, _, _, _, _, _, _, _, _, _, z⟩ := hc
      exact z.elim
  obtain ⟨fd, cl, hb, G2⟩ := hF w mg fa h KX G hm
  refine ⟨fd, hb, fun base hB hN => FnOk.imp (G2 base hB hN) fun vs H Q E hv => ?_⟩
  obtain ⟨a, ns, rfl, h1, h2, h3, h4, q⟩ := hv
  obtain ⟨st, hst⟩ := hl ns h1 h2
  refine ⟨⟨[], []⟩, [], [.fro (ns.map .int)], ⟨rfl, List.nodup_nil, (fun a z => by cases z), (fun a z => by cases z), fun n o z => by simp at z⟩, .cons (.fro ?_ (reps_ints ns)) .nil, ?_⟩
  · rcases h4 with (z | ⟨o, z⟩) | z
    · rcases h3 a with y | ⟨o, xs, y⟩
      · rw [y] at z; cases z
      · rw [y] at z; cases z
    · exact .inl ⟨(fun y => by rcases y with y | y <;> (simp at y)), o, z⟩
    · exact .inr z
  · rw [hst]
    intro as' H' _ _ v rv
    cases rv
    exact q H'
end DL

/-! DL8: contexts, names of built-ins, zip and enumerate, what a printed proof leans on. -/
namespace DL
open PySem PySem.Spec PyProof.Rows L2

/-! ### contexts -/
section
variable {P : Program} {w : World} {K : PySem.W.Frag} {mg : Str → Option Value} {base : Heap} {N : List Str} {qual : Str} {sc : Scope} {f : Addr} {cdv : Value} {A : Around} {outer : List Env} {s : Shared} {H : Hp} {E : XK}
theorem pass_def : ∀ σ, PassesAt (L2.CX P w) (cxOf (L2.CX P w) P w K mg base N qual sc f cdv A outer s H E) σ (WE (Wk E) σ) := fun σ => passAt (X := cxOf (L2.CX P w) P w K mg base N qual sc f cdv A outer s H E) (takes_of rfl rfl rfl rfl) σ
theorem cx_def : CxOk (cxOf (L2.CX P w) P w K mg base N qual sc f cdv A outer s H E) (Wk E) := ⟨rfl, pass_def, passes_of rfl⟩
end
section
variable {X : Cx} {s : Shared} {H : Hp} {scope : Scope} {cenv : Env} {fp : List Addr}
theorem pass_blk : ∀ σ, PassesAt (L2.CX X.prog X.w) (X.blk s H scope cenv fp) σ (WE W0 σ) := fun σ _ _ _ _ _ _ h => by
  obtain ⟨_, _, _, _, _, _, _, _, _, _, _, _, z⟩ := h
  exact z.elim
theorem cx_blk (h : X.calm = true) : CxOk (X.blk s H scope cenv fp) W0 := ⟨h, pass_blk, PassesOwn.never⟩
end
theorem Room.u65 {k : Nat} {A : Around} (h : Room k A) : A.units + 65 < cLine := by have := h.un; omega
theorem Room.u64 {k : Nat} {A : Around} (h : Room k A) : A.units + 64 < cLine := by have := h.un; omega
theorem Room.u1 {k : Nat} {A : Around} (h : Room k A) : A.units + 1 < cLine := by have := h.un; omega

/-! ### names -/
theorem bb_len : bootBuiltins "len" = some (.builtin "len") := by decide +kernel
theorem bb_abs : bootBuiltins "abs" = some (.builtin "abs") := by decide +kernel
theorem bb_min : bootBuiltins "min" = some (.builtin "min") := by decide +kernel
theorem bb_max : bootBuiltins "max" = some (.builtin "max") := by decide +kernel
theorem bb_sum : bootBuiltins "sum" = some (.builtin "sum") := by decide +kernel
theorem bb_any : bootBuiltins "any" = some (.builtin "any") := by decide +kernel
theorem bb_all : bootBuiltins "all" = some (.builtin "all") := by decide +kernel
theorem bb_sorted : bootBuiltins "sorted" = some (.builtin "sorted") := by decide +kernel
theorem bb_isinstance : bootBuiltins "isinstance" = some (.builtin "isinstance") := by decide +kernel
theorem bb_int : bootBuiltins "int" = some (.type "int") := by decide +kernel
theorem bb_bool : bootBuiltins "bool" = some (.type "bool") := by decide +kernel
theorem bb_str : bootBuiltins "str" = some (.type "str") := by decide +kernel
theorem bb_tuple : bootBuiltins "tuple" = some (.type "tuple") := by decide +kernel
theorem bb_list : bootBuiltins "list" = some (.type "list") := by decide +kernel
theorem bb_dict : bootBuiltins "dict" = some (.type "dict") := by decide +kernel
theorem bb_set : bootBuiltins "set" = some (.type "set") := by decide +kernel
/-- a def of the text, as callers see it -/
structure DefAt (K : PySem.W.Frag) (mg : Str → Option Value) (x : Str) (f : Addr) (fd : FuncData) (ps : List Str) : Prop where
  mgf : mg x = some (.ref f)
  kp : PySem.W.keepIn K (.ref f) = true
  bi : Binds K fd ps []
section
variable {X : Cx} {cl : Cl} {W : WX}
/-- a built-in type as a value -/
theorem j_ty {x : Str} {pos : Pos} {T : String} (hg : Gl X x) (hm : X.mg x = none) (hv : bootBuiltins x = some (.type T)) (hn : x ≠ "__name__" := by decide) (hd : (x == ("__debug__" : Str)) = false := by decide) : JE X cl W (.Name x pos) (dC (.raw (.ty T))) :=
  j_c (pe_bltn (v := .ty T) hg hm hv rfl hn hd) fun _ _ => .raw _
/-- a name of the module that holds a thing written there -/
structure ConstAt (K : PySem.W.Frag) (mg : Str → Option Value) (x : Str) (d : D) : Prop where
  ex : ∃ (u : Value) (v : V), mg x = some u ∧ RelV v u ∧ ∀ as H, Rep K as H d v
theorem j_const {x : Str} {pos : Pos} {d : D} (hg : Gl X x) (c : ConstAt X.K X.mg x d) (hd : (x == ("__debug__" : Str)) = false := by decide) : JE X cl W (.Name x pos) (dC d) := by
  obtain ⟨u, v, h1, h2, h3⟩ := c.ex
  exact j_c (pe_glob hg h1 h2 hd) h3
theorem ConstAt.int {K : PySem.W.Frag} {mg : Str → Option Value} {x : Str} {i : Int} {t : Tok} (h : mg x = some (.int i t)) : ConstAt K mg x (.int i) := ⟨_, .int i, h, ⟨t, rfl⟩, fun _ _ => .int i⟩
theorem ConstAt.str {K : PySem.W.Frag} {mg : Str → Option Value} {x : Str} {i : Str} {t : Tok} (h : mg x = some (.str i t)) : ConstAt K mg x (.str i) := ⟨_, .str i, h, ⟨t, rfl⟩, fun _ _ => .str i⟩
end
mutual
/-- how a thing of the text lies in its written part -/
inductive KRep (K : PySem.W.Frag) : D → Value → Prop
  | non : KRep K .non .none
  | bl (b : Bool) : KRep K (.bl b) (.bool b)
  | int (i : Int) (t : Tok) : KRep K (.int i) (.int i t)
  | str (x : Str) (t : Tok) : KRep K (.str x) (.str x t)
  | tup {a : Addr} {ds : List D} {o : Obj} {its : List Value} {n : Nat} : K.lookup a = some o → o.cls = .type "tuple" → o.data = .seq its.toArray n → its.length ≤ sizeLine → KReps K ds its → KRep K (.tup ds) (.ref a)
inductive KReps (K : PySem.W.Frag) : List D → List Value → Prop
  | nil : KReps K [] []
  | cons {d : D} {u : Value} {ds : List D} {us : List Value} : KRep K d u → KReps K ds us → KReps K (d :: ds) (u :: us)
end
mutual
theorem KRep.go {K : PySem.W.Frag} : ∀ {d : D} {u : Value}, KRep K d u → ∃ v, RelV v u ∧ ∀ as H, Rep K as H d v
  | _, _, .non => ⟨.non, rfl, fun _ _ => .non⟩
  | _, _, .bl b => ⟨.bl b, rfl, fun _ _ => .bl b⟩
  | _, _, .int i t => ⟨.int i, ⟨t, rfl⟩, fun _ _ => .int i⟩
  | _, _, .str x t => ⟨.str x, ⟨t, rfl⟩, fun _ _ => .str x⟩
  | _, _, .tup (a := a) (its := its) h1 h2 h3 h4 h5 => by
    obtain ⟨xs, r, hr⟩ := KReps.go h5
    exact ⟨.ref a, rfl, fun as H => .tup (.inr ⟨_, its.toArray, _, h1, h2, h3, by simpa using h4, by simpa using r⟩) (hr as H)⟩
theorem KReps.go {K : PySem.W.Frag} : ∀ {ds : List D} {us : List Value}, KReps K ds us → ∃ xs, Vals xs us ∧ ∀ as H, Reps K as H ds xs
  | _, _, .nil => ⟨[], .nil, fun _ _ => .nil⟩
  | _, _, .cons h t => by
    obtain ⟨v, r, q⟩ := KRep.go h
    obtain ⟨vs, rs, qs⟩ := KReps.go t
    exact ⟨v :: vs, .cons r rs, fun as H => .cons (q as H) (qs as H)⟩
end
theorem ConstAt.of {K : PySem.W.Frag} {mg : Str → Option Value} {x : Str} {d : D} {u : Value} (h : mg x = some u) (r : KRep K d u) : ConstAt K mg x d :=
  let ⟨v, h1, h2⟩ := r.go
  ⟨u, v, h, h1, h2⟩
section
variable {X : Cx} {cl : Cl} {W : WX}
/-! ### zip, enumerate -/
def zipD : List D → List D → List D
  | x :: xs, y :: ys => .tup [x, y] :: zipD xs ys
  | _, _ => []
def iZipD (t : DA) : DI := fun τ st => (t τ st).bind fun ds st => match ds with
  | [.tup xs, .tup ys] => .ok (zipD xs ys) st
  | [.lst xs, .lst ys] => .ok (zipD xs ys) st
  | _ => .bad
theorem zipD_get : ∀ {xs ys : List D} {i : Nat}, (∃ x y, xs[i]? = some x ∧ ys[i]? = some y ∧ (zipD xs ys)[i]? = some (.tup [x, y])) ∨ ((xs.length ≤ i ∨ ys.length ≤ i) ∧ (zipD xs ys).length ≤ i)
  | [], ys, i => .inr ⟨.inl (Nat.zero_le _), by cases ys <;> exact Nat.zero_le _⟩
  | _ :: _, [], i => .inr ⟨.inr (Nat.zero_le _), Nat.zero_le _⟩
  | x :: xs, y :: ys, 0 => .inl ⟨x, y, rfl, rfl, rfl⟩
  | x :: xs, y :: ys, i + 1 => (zipD_get (xs := xs) (ys := ys) (i := i)).imp (fun ⟨a, b, h1, h2, h3⟩ => ⟨a, b, by simpa using h1, by simpa using h2, by simpa [zipD] using h3⟩) fun ⟨h1, h2⟩ => ⟨h1.imp (by simp) (by simp), by simpa [zipD] using h2⟩
theorem walk_zipT {K : PySem.W.Frag} {as : Mp} {H : Hp} {a b : Addr} {xs ys : List V} {ds es : List D} (ha : ∀ as' H', Mv as H as' H' → SqT K H' a xs) (hb : ∀ as' H', Mv as H as' H' → SqT K H' b ys) (ra : Reps K as H ds xs) (rb : Reps K as H es ys) :
    Walk K cl as H (RZ.ItzT K a b) (zipD ds es) where
  go := fun i as' H' e hi => by
    rcases zipD_get (xs := ds) (ys := es) (i := i) with ⟨x, y, h1, h2, h3⟩ | ⟨h1, h2⟩
    · obtain ⟨v, q1, _⟩ := ra.get h1
      obtain ⟨u, q2, _⟩ := rb.get h2
      exact ⟨xs, ys, v, u, ha _ _ e, hb _ _ e, q1, q2⟩
    · omega
  yld := fun i as' st' H' x H'' hi e w y => by
    obtain ⟨T, v, u, rfl, hT, rfl, h1, h2⟩ := y
    have q1 := h1 xs (ha _ _ e)
    have q2 := h2 ys (hb _ _ e)
    rcases zipD_get (xs := ds) (ys := es) (i := i) with ⟨dx, dy, z1, z2, z3⟩ | ⟨z1, z2⟩
    · obtain ⟨v', q3, r1⟩ := ra.get z1
      obtain ⟨u', q4, r2⟩ := rb.get z2
      rw [q1] at q3; rw [q2] at q4
      cases q3; cases q4
      exact ⟨_, z3, .inr ⟨T, _, hT, rfl⟩, Rep.newT w hT (.cons (r1.mv e) (.cons (r2.mv e) .nil))⟩
    · omega
  stop := fun i as' H' e hi => by
    rcases zipD_get (xs := ds) (ys := es) (i := i) with ⟨dx, dy, z1, z2, z3⟩ | ⟨z1, z2⟩
    · rw [List.getElem?_eq_none hi] at z3; cases z3
    · exact ⟨xs, ys, ha _ _ e, hb _ _ e, z1.imp (by rw [ra.len]; exact id) (by rw [rb.len]; exact id)⟩
theorem walk_zipL {K : PySem.W.Frag} {as : Mp} {H : Hp} {a b : Addr} {xs ys : List V} {ds es : List D} (ha : ∀ as' H', Mv as H as' H' → SqL K H' a xs) (hb : ∀ as' H', Mv as H as' H' → SqL K H' b ys) (ra : Reps K as H ds xs) (rb : Reps K as H es ys) :
    Walk K cl as H (Itz K a b) (zipD ds es) where
  go := fun i as' H' e hi => by
    rcases zipD_get (xs := ds) (ys := es) (i := i) with ⟨x, y, h1, h2, h3⟩ | ⟨h1, h2⟩
    · obtain ⟨v, q1, _⟩ := ra.get h1
      obtain ⟨u, q2, _⟩ := rb.get h2
      exact ⟨xs, ys, v, u, ha _ _ e, hb _ _ e, q1, q2⟩
    · omega
  yld := fun i as' st' H' x H'' hi e w y => by
    obtain ⟨T, v, u, rfl, hT, rfl, h1, h2⟩ := y
    have q1 := h1 xs (ha _ _ e)
    have q2 := h2 ys (hb _ _ e)
    rcases zipD_get (xs := ds) (ys := es) (i := i) with ⟨dx, dy, z1, z2, z3⟩ | ⟨z1, z2⟩
    · obtain ⟨v', q3, r1⟩ := ra.get z1
      obtain ⟨u', q4, r2⟩ := rb.get z2
      rw [q1] at q3; rw [q2] at q4
      cases q3; cases q4
      exact ⟨_, z3, .inr ⟨T, _, hT, rfl⟩, Rep.newT w hT (.cons (r1.mv e) (.cons (r2.mv e) .nil))⟩
    · omega
  stop := fun i as' H' e hi => by
    rcases zipD_get (xs := ds) (ys := es) (i := i) with ⟨dx, dy, z1, z2, z3⟩ | ⟨z1, z2⟩
    · rw [List.getElem?_eq_none hi] at z3; cases z3
    · exact ⟨xs, ys, ha _ _ e, hb _ _ e, z1.imp (by rw [ra.len]; exact id) (by rw [rb.len]; exact id)⟩
theorem ji_zip {e e2 : Expr} {t : DA} {p pos tpos : Pos} {elts : List Expr} {kk : Nat} (hg : Gl X "zip") (hm : X.mg "zip" = none) (ha : JA X cl W [e, e2] t)
    (hs : starEach [e, e2] X.env = (false, eval e X.env) :: starEach [e2] X.env := by rfl) (hpl : (backTo pos (starEach [e2] X.env)).any (·.1) = false := by rfl) :
    JI X cl W (.Tuple elts kk tpos) (.Call (.Name "zip" p) [e, e2] [] pos) (iZipD t) := by
  refine PI.mono (RZ.pi_zipA hg hm ha hs hpl) fun σ H Q ⟨as, st, τ, w, e, p⟩ => ⟨as, st, τ, w, e, p.bind.mono fun ds st1 as1 H1 e1 w1 p1 vs rv => ?_⟩
  split at p1
  · obtain ⟨v, u, rfl, r1, r2⟩ := rv.two
    cases r1 with
    | tup s1 r1 =>
      cases r2 with
      | tup s2 r2 => exact ⟨_, _, _, _, rfl, .inr ⟨s1.t, s2.t, p1.here w1 _ (walk_zipT (fun as' H' f => (s1.mv f).t) (fun as' H' f => (s2.mv f).t) r1 r2)⟩⟩
  · obtain ⟨v, u, rfl, r1, r2⟩ := rv.two
    cases r1 with
    | lst n1 h1 r1 =>
      cases r2 with
      | lst n2 h2 r2 => exact ⟨_, _, _, _, rfl, .inl ⟨.of h1, .of h2, p1.here w1 _ (walk_zipL (fun as' H' f => .of (f.k _ _ h1 n1).2) (fun as' H' f => .of (f.k _ _ h2 n2).2) r1 r2)⟩⟩
  · exact p1.elim
end

/-! ### x op= e -/
def dAug (i : Nat) (te : DE) (r : D2) : DS := fun τ st => match τ[i]? with
  | some (some x) => (te τ st).stm τ fun y st => (r x y st).stm τ fun z st => .ok (.nx, τ.set i (some z)) st
  | _ => .bad
section
variable {X : Cx} {cl : Cl} {W : WX}
theorem js_aug {i : Nat} {x : Str} {e : Expr} {te : DE} {op : Operator} {r : D2} {pos pos' : Pos} (hN : X.N.Nodup) (hi : X.N[i]? = some x) (hx : Loc X.env.scope x) (he : JE X cl W e te) (ho : OpJ X cl (inplaceOp op) r)
    (hf : X.fn x = true ∨ X.env.scope.names.lookup x = some .local := by first | exact .inl rfl | exact .inr rfl | assumption) : JS X cl W (.AugAssign (.Name x pos') op e pos) (dAug i te r) := by
  have ho' : ∀ E, PIp X op (liftR X.K cl E r) := fun E pins s σ H x y v u Q I r1 r2 q => ho E pins s σ H x y v u Q I r1 r2 q
  refine ⟨fun pins s σ H M I ⟨as, st, τ, w, e, p⟩ => (ps_aug (pos := pos) (pos' := pos') hN hi hx he (ho' (WE W σ)) hf).run pins s σ H M I ?_⟩
  unfold dAug at p
  split at p
  · rename_i d hd
    obtain ⟨v, h1, h2⟩ := e.get i d hd
    refine ⟨v, h1, as, st, τ, w, e, (Post.stm e p).mono fun d2 st2 as2 H2 e2 w2 p2 y ry => ?_⟩
    refine ⟨as2, st2, d, d2, w2, h2.evo e2, ry, (Post.stm (e.evo e2) p2).mono fun d3 st3 as3 H3 e3 w3 p3 z rz => ?_⟩
    exact p3.here w3 _ (((e.evo e2).evo e3).set i rz)
  · exact p.elim
def dAddI : D2 := fun x y st => match x, y with
  | .int i, .int j => .ok (.int (i + j)) st
  | .str a, .str b => if a.length + b.length ≤ sizeLine then .ok (.str (a ++ b)) st else .bad
  | _, _ => .bad
theorem oi_add : OpJ X cl (inplaceOp .Add) dAddI := OpJ.of (OpR.or (X := X) iop_add iop_add_str) fun E as st H x y dx dy Q w rx ry p => by
  unfold dAddI at p
  split at p
  · cases rx; cases ry
    exact .inl ⟨_, _, rfl, rfl, p.val w (.int _)⟩
  · cases rx; cases ry
    split at p
    · rename_i hl
      exact .inr ⟨_, _, rfl, rfl, hl, p.val w (.str _)⟩
    · exact p.elim
  · exact p.elim
theorem iop_subC : OpR X (inplaceOp .Sub) (rI (fun _ _ => True) fun i j => .int (i - j)) := OpR.mono iop_sub fun _ _ _ _ ⟨i, j, h1, h2, _, q⟩ => ⟨i, j, h1, h2, q⟩
theorem oi_sub : OpJ X cl (inplaceOp .Sub) dSub := oj_I iop_subC fun _ _ _ => trivial
end
/-- an empty dict of the store -/
def dDispE : DE := fun _ st => .ok (.ref st.length) (st ++ [.dK []])
theorem j_dispE {X : Cx} {cl : Cl} {W : WX} {pos : Pos} : JE X cl W (.Dict [] [] pos) dDispE := PE.mono pe_dnewK fun σ H Q ⟨as, st, τ, w, e, p⟩ a ha => p _ _ (Evo.push w ha) (w.push ha (.dK .nil)) _ (Rep.newRef w)
end DL

/-! DL9: a def's run without what it left behind; rows for reckoning. -/
namespace DL
open PySem PySem.Spec PyProof.Rows L2

open Classical in
/-- a def's run, what was made on the way forgotten -/
noncomputable def trimF (F : DF) : DF := fun ds st => match F ds st with
  | .ok d st1 => if Kept st (st1.take st.length) then (match d with
    | .ref k => if k < st.length then .ok (.ref k) (st1.take st.length) else (match st1[k]? with
      | some (.lst row) => if wfs st.length row = true then .ok (.lst row) (st1.take st.length) else .bad
      | some (.dK kvs) => if wfk st.length kvs = true then .ok (.dic kvs) (st1.take st.length) else .bad
      | _ => .bad)
    | d => if d.wf st.length = true then .ok d (st1.take st.length) else .bad) else .bad
  | .exc x st1 => if Kept st (st1.take st.length) ∧ wff st.length x.fs = true then .exc x (st1.take st.length) else .bad
  | .bad => .bad
section
variable {P : Program} {w : World} {K : PySem.W.Frag} {mg : Str → Option Value} {base : Heap} {cl : Cl}
theorem FnD.auto {k : Nat} {f : Addr} {fd : FuncData} {ps : List Str} {F : DF} (h : FnD P w K mg base cl k f fd ps F) : FnD P w K mg base cl k f fd ps (trimF F) := by
  refine h.trim fun ds st => ⟨fun d st' hd => ?_, fun x st' hd => ?_⟩
  · unfold trimF at hd
    cases hF : F ds st with
    | bad => rw [hF] at hd; cases hd
    | exc x st1 =>
      rw [hF] at hd
      dsimp only at hd
      split at hd <;> cases hd
    | ok d0 st1 =>
      rw [hF] at hd
      dsimp only at hd
      split at hd
      · rename_i hk
        have hl : (st1.take st.length).length = st.length := by
          have := hk.1
          rw [List.length_take] at this ⊢
          omega
        have fin : ∀ d', Cut st.length st1 d0 d' → (R.ok d' (st1.take st.length) : R D) = R.ok d st' → ∃ d0' g, (R.ok d0 st1 : R D) = R.ok d0' (st' ++ g) ∧ Cut st'.length (st' ++ g) d0' d ∧ Kept st st' := by
          intro d' hc he
          cases he
          refine ⟨d0, st1.drop st.length, by rw [List.take_append_drop], ?_, hk⟩
          rw [hl, List.take_append_drop]
          exact hc
        split at hd
        · rename_i k
          split at hd
          · rename_i hlt
            exact fin _ (.same (decide_eq_true hlt)) hd
          · rename_i hlt
            split at hd
            · rename_i row hr
              split at hd
              · rename_i hw; exact fin _ (.fix (by omega) hr hw) hd
              · cases hd
            · rename_i row hr
              split at hd
              · rename_i hw; exact fin _ (.fixK (by omega) hr hw) hd
              · cases hd
            · cases hd
        · split at hd
          · rename_i hw; exact fin _ (.same hw) hd
          · cases hd
      · cases hd
  · unfold trimF at hd
    cases hF : F ds st with
    | bad => rw [hF] at hd; cases hd
    | ok d0 st1 =>
      rw [hF] at hd
      dsimp only at hd
      split at hd
      · split at hd
        · split at hd
          · cases hd
          · split at hd
            · split at hd <;> cases hd
            · split at hd <;> cases hd
            · cases hd
        · split at hd <;> cases hd
      · cases hd
    | exc x0 st1 =>
      rw [hF] at hd
      dsimp only at hd
      split at hd
      · rename_i hk
        cases hd
        have hl : (st1.take st.length).length = st.length := by
          have := hk.1.1
          rw [List.length_take] at this ⊢
          omega
        exact ⟨st1.drop st.length, by rw [List.take_append_drop], by rw [hl]; exact hk.2, hk.1⟩
      · cases hd
end
theorem trim_lst {F : DF} {ds : List D} {st st' g : Sto} {k : Nat} {row : List D} (h : F ds st = .ok (.ref k) (st' ++ g)) (hl : st'.length = st.length) (hk : Kept st st') (h1 : st.length ≤ k) (h2 : (st' ++ g)[k]? = some (.lst row)) (h3 : wfs st.length row = true) :
    trimF F ds st = .ok (.lst row) st' := by
  unfold trimF
  rw [h]
  have e : (st' ++ g).take st.length = st' := by rw [← hl, List.take_left']; rfl
  simp only [e, hk, if_true, Nat.not_lt.mpr h1, if_false, h2, h3]
theorem trim_val {F : DF} {ds : List D} {st st' g : Sto} {d : D} (h : F ds st = .ok d (st' ++ g)) (hl : st'.length = st.length) (hk : Kept st st') (h3 : d.wf st.length = true) :
    trimF F ds st = .ok d st' := by
  unfold trimF
  rw [h]
  have e : (st' ++ g).take st.length = st' := by rw [← hl, List.take_left']; rfl
  cases d with
  | ref k =>
    have : k < st.length := of_decide_eq_true h3
    simp only [e, hk, if_true, this]
  | _ => simp only [e, hk, if_true, h3]
theorem trim_exc {F : DF} {ds : List D} {st st' g : Sto} {x : Exn} (h : F ds st = .exc x (st' ++ g)) (hl : st'.length = st.length) (hk : Kept st st') (h3 : wff st.length x.fs = true) :
    trimF F ds st = .exc x st' := by
  unfold trimF
  rw [h]
  have e : (st' ++ g).take st.length = st' := by rw [← hl, List.take_left']; rfl
  simp only [e, hk, h3, and_self, if_true]

/-! ### reckoning -/
theorem log2_small {a : Int} (h : a.natAbs < 2 ^ 64) : a.natAbs.log2 < 64 := by
  by_cases e : a.natAbs = 0
  · rw [e]; decide
  · exact (Nat.log2_lt e).mpr h
theorem mul_ok {a b : Int} (h1 : a.natAbs < 2 ^ 64) (h2 : b.natAbs < 2 ^ 64) : decide (a.natAbs.log2 + b.natAbs.log2 < 1000000) = true := by
  have := log2_small h1
  have := log2_small h2
  exact decide_eq_true (by omega)
theorem ofStr_inj {a b : String} : (Str.ofString a = Str.ofString b) = (a = b) := by
  refine propext ⟨fun h => ?_, fun h => by rw [h]⟩
  rw [Str.ofString_eq_toList, Str.ofString_eq_toList] at h
  skip
  have h1 := congrArg (fun s : Str => s.cps.toList) h
  simp only at h1
  have h2 : a.toList = b.toList := by
    have inj : ∀ (l m : List Char), l.map Char.toNat = m.map Char.toNat → l = m := by
      intro l
      induction l with
      | nil => intro m h; cases m <;> simp at h ⊢
      | cons c l ih =>
        intro m h
        cases m with
        | nil => simp at h
        | cons d m =>
          simp only [List.map_cons, List.cons.injEq] at h
          rw [ih m h.2, Char.ext (UInt32.toNat_inj.mp h.1)]
    exact inj _ _ h1
  exact String.toList_inj.mp h2
theorem ofStr_beq {a b : String} : (Str.ofString a == Str.ofString b) = (a == b) := by
  by_cases h : a = b
  · subst h; simp
  · have h' : ¬ (Str.ofString a = Str.ofString b) := by rw [ofStr_inj]; exact h
    rw [beq_eq_false_iff_ne.mpr h, beq_eq_false_iff_ne.mpr h']
theorem mul_lt {a b : Int} (h1 : a.natAbs < 2 ^ 64) (h2 : b.natAbs < 2 ^ 64) : a.natAbs.log2 + b.natAbs.log2 < 1000000 := by
  have := log2_small h1
  have := log2_small h2
  omega
theorem atI_map {ns : List Int} {k : Nat} (h : k < ns.length) : atI (ns.map D.int) (k : Int) = some (.int (ns.getD k 0)) := by
  refine atI_nat ?_
  rw [List.getElem?_map, List.getElem?_eq_getElem h]
  simp [h]
/-! ### loops by an invariant -/
theorem forN_inv {j : Nat} {body : DS} {ds : List D} (P : Nat → En → Sto → Prop) {τ : En} {st : Sto} (h0 : P 0 τ st)
    (hs : ∀ i d τ st, ds[i]? = some d → P i τ st → ∃ fl τ2 st2, body (τ.set j (some d)) st = .ok (fl, τ2) st2 ∧ (fl = .nx ∨ fl = .ct) ∧ P (i + 1) τ2 st2) :
    ∃ τ' st', forL (gN j) body ds τ st = .ok (.nx, τ') st' ∧ P ds.length τ' st' := by
  induction ds generalizing P τ st with
  | nil => exact ⟨τ, st, rfl, h0⟩
  | cons d ds ih =>
    obtain ⟨fl, τ2, st2, h1, h2, h3⟩ := hs 0 d τ st rfl h0
    obtain ⟨τ', st', h4, h5⟩ := ih (fun i => P (i + 1)) h3 fun i d τ st hd hp => hs (i + 1) d τ st (by simpa using hd) hp
    refine ⟨τ', st', ?_, h5⟩
    show (body (τ.set j (some d)) st).turn _ = _
    rw [h1]
    rcases h2 with h2 | h2 <;> (subst h2; exact h4)
theorem forG_inv {g : DG} {body : DS} {ds : List D} (P : Nat → En → Sto → Prop) {τ : En} {st : Sto} (h0 : P 0 τ st)
    (hs : ∀ i d τ st, ds[i]? = some d → P i τ st → ∃ τ1 st1 fl τ2 st2, g d τ st = .ok τ1 st1 ∧ body τ1 st1 = .ok (fl, τ2) st2 ∧ (fl = .nx ∨ fl = .ct) ∧ P (i + 1) τ2 st2) :
    ∃ τ' st', forL g body ds τ st = .ok (.nx, τ') st' ∧ P ds.length τ' st' := by
  induction ds generalizing P τ st with
  | nil => exact ⟨τ, st, rfl, h0⟩
  | cons d ds ih =>
    obtain ⟨τ1, st1, fl, τ2, st2, h1, h1', h2, h3⟩ := hs 0 d τ st rfl h0
    obtain ⟨τ', st', h4, h5⟩ := ih (fun i => P (i + 1)) h3 fun i d τ st hd hp => hs (i + 1) d τ st (by simpa using hd) hp
    refine ⟨τ', st', ?_, h5⟩
    show (g d τ st).stm τ _ = _
    rw [h1]
    show (body τ1 st1).turn _ = _
    rw [h1']
    rcases h2 with h2 | h2 <;> (subst h2; exact h4)
/-- a loop that may end early: by what its turns give -/
theorem forN_ret {j : Nat} {body : DS} {ds : List D} (P : Nat → En → Sto → Prop) (Z : Fl → Sto → Prop) {τ : En} {st : Sto} (h0 : P 0 τ st)
    (hs : ∀ i d τ st, ds[i]? = some d → P i τ st → ∃ fl τ2 st2, body (τ.set j (some d)) st = .ok (fl, τ2) st2 ∧ (((fl = .nx ∨ fl = .ct) ∧ P (i + 1) τ2 st2) ∨ ((∃ d, fl = .rt d) ∧ Z fl st2))) :
    ∃ fl τ' st', forL (gN j) body ds τ st = .ok (fl, τ') st' ∧ ((fl = .nx ∧ P ds.length τ' st') ∨ ((∃ d, fl = .rt d) ∧ Z fl st')) := by
  induction ds generalizing P τ st with
  | nil => exact ⟨.nx, τ, st, rfl, .inl ⟨rfl, h0⟩⟩
  | cons d ds ih =>
    obtain ⟨fl, τ2, st2, h1, h2⟩ := hs 0 d τ st rfl h0
    rcases h2 with ⟨h2, h3⟩ | ⟨h2, h3⟩
    · obtain ⟨fl', τ', st', h4, h5⟩ := ih (fun i => P (i + 1)) h3 fun i d τ st hd hp => hs (i + 1) d τ st (by simpa using hd) hp
      refine ⟨fl', τ', st', ?_, h5⟩
      show (body (τ.set j (some d)) st).turn _ = _
      rw [h1]
      rcases h2 with h2 | h2 <;> (subst h2; exact h4)
    · refine ⟨fl, τ2, st2, ?_, .inr ⟨h2, h3⟩⟩
      show (body (τ.set j (some d)) st).turn _ = _
      rw [h1]
      obtain ⟨d', h2⟩ := h2
      subst h2
      rfl
/-- a while by a measure -/
theorem while_inv {c : DT} {body : DS} (P : En → Sto → Prop) (μ : En → Sto → Nat) {τ : En} {st : Sto} (h0 : P τ st) (hμ : μ τ st < fuel)
    (hs : ∀ τ st, P τ st → ∃ b st1, c τ st = .ok b st1 ∧ (b = true → ∃ fl τ2 st2, body τ st1 = .ok (fl, τ2) st2 ∧ (fl = .nx ∨ fl = .ct) ∧ P τ2 st2 ∧ μ τ2 st2 < μ τ st) ∧ (b = false → P τ st1)) :
    ∃ τ' st' st1, dWhile c body τ st = .ok (.nx, τ') st1 ∧ P τ' st1 ∧ c τ' st' = .ok false st1 := by
  unfold dWhile
  generalize hf : fuel = n at *
  clear hf
  induction n generalizing τ st with
  | zero => omega
  | succ n ih =>
    obtain ⟨b, st1, h1, h2, h3⟩ := hs τ st h0
    cases b with
    | false =>
      refine ⟨τ, st, st1, ?_, h3 rfl, h1⟩
      show (c τ st).stm τ _ = _
      rw [h1]
      rfl
    | true =>
      obtain ⟨fl, τ2, st2, h4, h5, h6, h7⟩ := h2 rfl
      obtain ⟨τ', st', st1', h8, h9, h10⟩ := ih h6 (by omega)
      refine ⟨τ', st', st1', ?_, h9, h10⟩
      show (c τ st).stm τ _ = _
      rw [h1]
      show (if true = true then (body τ st1).turn _ else _) = _
      rw [if_pos rfl, h4]
      rcases h5 with h5 | h5 <;> (subst h5; exact h8)
/-- a comprehension over a row, one name, no test -/
theorem compL_inv {j : Nat} {te : DE} {τ : En} {ds : List D} (P : Nat → List D → Sto → Prop) {st : Sto} (h0 : P 0 [] st) (hl : ds.length < sizeLine)
    (hs : ∀ i d acc st, ds[i]? = some d → acc.length = i → P i acc st → ∃ y st2, te (τ.set j (some d)) st = .ok y st2 ∧ P (i + 1) (acc ++ [y]) st2) :
    ∃ out st', compL (.one j) dYes te τ ds [] st = .ok out st' ∧ out.length = ds.length ∧ P ds.length out st' := by
  suffices h : ∀ (ds' : List D) (i : Nat) (acc : List D) (st : Sto), ds = ds.take i ++ ds' → i + ds'.length = ds.length → acc.length = i → P i acc st → ∃ out st', compL (.one j) dYes te τ ds' acc st = .ok out st' ∧ out.length = ds.length ∧ P ds.length out st' from
    h ds 0 [] st (by simp) (by simp) rfl h0
  intro ds'
  induction ds' with
  | nil =>
    intro i acc st h1 h2 h3 hp
    refine ⟨acc, st, rfl, ?_, ?_⟩
    · simp at h2; omega
    · simp at h2; rw [← h2]; exact hp
  | cons d ds' ih =>
    intro i acc st h1 h2 h3 hp
    have hd : ds[i]? = some d := by
      rw [h1, List.getElem?_append_right (by simp; omega)]
      have : i - (ds.take i).length = 0 := by
        rw [List.length_take]
        simp at h2
        omega
      rw [this]
      rfl
    obtain ⟨y, st2, h4, h5⟩ := hs i d acc st hd h3 hp
    have hlt : acc.length < sizeLine := by simp at h2; omega
    obtain ⟨out, st', h6, h7, h8⟩ := ih (i + 1) (acc ++ [y]) st2 (by
      rw [List.take_succ_eq_append_getElem (by simp at h2; omega)]
      rw [List.append_assoc]
      have : ds[i]'(by simp at h2; omega) = d := by
        have := List.getElem?_eq_some_iff.mp hd
        exact this.2
      rw [this]
      exact h1) (by simp at h2; omega) (by simp [h3]) h5
    refine ⟨out, st', ?_, h7, h8⟩
    show compL (.one j) dYes te τ (d :: ds') acc st = _
    unfold compL
    simp only [Tgt.put, dYes, h4, hlt, if_true]
    exact h6
theorem dq_int {neg : Bool} {a b : Int} {st : Sto} : dEq neg (.int a) (.int b) st = .ok (.bl (neg ^^ decide (a = b))) st := by
  show R.ok (D.bl (neg ^^ (a == b))) st = _
  by_cases h : a = b
  · subst h; simp
  · rw [beq_eq_false_iff_ne.mpr h, decide_eq_false h]
theorem dq_bl {neg : Bool} {a b : Bool} {st : Sto} : dEq neg (.bl a) (.bl b) st = .ok (.bl (neg ^^ (a == b))) st := rfl
theorem dq_str {neg : Bool} {a b : Str} {st : Sto} (ha : PyData.strOk a = true) (hb : PyData.strOk b = true) : dEq neg (.str a) (.str b) st = .ok (.bl (neg ^^ decide (a = b))) st := by
  show (if (SeqAt.shaped (.str a) && SeqAt.shaped (.str b)) = true then R.ok (D.bl (neg ^^ (a == b))) st else .bad) = _
  have h1 : SeqAt.shaped (.str a) = true := by unfold SeqAt.shaped; rw [show (PyData.str a).canLay0 = PyData.strOk a from rfl, ha]; rfl
  have h2 : SeqAt.shaped (.str b) = true := by unfold SeqAt.shaped; rw [show (PyData.str b).canLay0 = PyData.strOk b from rfl, hb]; rfl
  rw [h1, h2]
  by_cases h : a = b
  · subst h; simp
  · rw [beq_eq_false_iff_ne.mpr h, decide_eq_false h]; rfl
theorem atI_lastm {ns : List Int} (h : 0 < ns.length) : ∃ z, z ∈ ns ∧ atI (ns.map D.int) (-1) = some (.int z) := by
  have hl : ns.length - 1 < ns.length := by omega
  refine ⟨ns[ns.length - 1], List.getElem_mem hl, ?_⟩
  unfold atI ixN
  rw [if_neg (by omega), if_pos (by rw [List.length_map]; omega)]
  show ((ns.map D.int)[((-1 : Int) + ((ns.map D.int).length : Int)).toNat]?) = _
  have : ((-1 : Int) + ((ns.map D.int).length : Int)).toNat = ns.length - 1 := by rw [List.length_map]; omega
  rw [this, List.getElem?_map, List.getElem?_eq_getElem hl]
  rfl
end DL

namespace DR
open PySem PySem.Spec PyProof.Rows L2 DL
/-- _law_draws(_law_script, _law_draws_here, _law_k, _law_cell, _law_turn, _law_mixed) -/
def d__law_draws_L1 : DS := dIfS (dTst (dBin (dGtI) (dVar 3) (dC (.int 0)))) (dSeq (dDrop (dBMT "list" mAppend (dVar 1) (dCons (dBin dMod (dVar 3) (dC (.int 1000))) (dNil)))) (dAsg (dBin dDiv (dVar 3) (dC (.int 1000))) (gN 3))) (dNext)
def d__law_draws_L2 : DS := dSeq (dAsg (dBin dMod (dApp cInt (dCons (dBin dAdd (dBin dAdd (dBin dMul (dVar 5) (dVar 5)) (dBin dMul (dVar 4) (dC (.int 7919)))) (dC (.int 17))) (dNil))) (dC (.int 2147483629))) (gN 5)) (dDrop (dBMT "list" mAppend (dVar 1) (dCons (dBin dMod (dVar 5) (dC (.int 1000))) (dNil))))
def d__law_draws_L3 : DS := dSeq (dAsg (dApp cAbs (dCons (dBin dIxA (dVar 0) (dVar 2)) (dNil))) (gN 3)) (dIfS (dTst (dBin (dGeI) (dVar 3) (dBin dPow (dC (.int 10)) (dC (.int 18))))) (dFor (iRng1D (dCons (dC (.int 20)) (dNil))) (gN 4) (d__law_draws_L1)) (dSeq (dAsg (dBin dMod (dApp cInt (dCons (dBin dAdd (dBin dAdd (dBin dMul (dBin dIxA (dVar 0) (dVar 2)) (dC (.int 48271))) (dBin dMul (dVar 2) (dC (.int 69621)))) (dC (.int 12345))) (dNil))) (dC (.int 2147483647))) (gN 5)) (dFor (iRng1D (dCons (dC (.int 3)) (dNil))) (gN 4) (d__law_draws_L2))))
def d__law_draws : DS := dSeq (dAsg (dNew (dNil)) (gN 1)) (dSeq (dFor (iRng1D (dCons (dApp cMin2 (dCons (dApp cLen (dCons (dVar 0) (dNil))) (dCons (dC (.int 63)) (dNil)))) (dNil))) (gN 2) (d__law_draws_L3)) (dRet (dVar 1)))
def F__law_draws : DF := dDef 6 1 (d__law_draws)
/-- _law_reader(_law_script, _law_row, _law_seed) -/
def d__law_reader (c__law_draws : DF) : DS := dSeq (dAsg (dApp c__law_draws (dCons (dVar 0) (dNil))) (gN 1)) (dSeq (dAsg (dC (.int 5)) (gN 2)) (dSeq (dIfS (dTst (dBin (dGtI) (dApp cLen (dCons (dVar 0) (dNil))) (dC (.int 0)))) (dAsg (dBin dMod (dApp cAbs (dCons (dBin dIxA (dVar 0) (dNeg (dC (.int 1)))) (dNil))) (dC (.int 1000003))) (gN 2)) (dNext)) (dRet (dDisp (dPCons (dC (.str "row")) (dVar 1) (dPCons (dC (.str "at")) (dC (.int 0)) (dPCons (dC (.str "seed")) (dVar 2) (dPNil))))))))
def F__law_reader (c__law_draws : DF) : DF := dDef 3 1 (d__law_reader c__law_draws)
/-- _law_next(_law_draws_here, _law_many, _law_at, _law_mixed) -/
def d__law_next : DS := dSeq (dAsg (dBin dIxA (dVar 0) (dC (.str "at"))) (gN 2)) (dSeq (dPutA (dVar 0) (dC (.str "at")) (dBin dAdd (dVar 2) (dC (.int 1)))) (dSeq (dIfS (dTst (dBin (dLtI) (dVar 2) (dApp cLen (dCons (dBin dIxA (dVar 0) (dC (.str "row"))) (dNil))))) (dRet (dBin dMod (dApp cInt (dCons (dBin dIxA (dBin dIxA (dVar 0) (dC (.str "row"))) (dVar 2)) (dNil))) (dVar 1))) (dNext)) (dSeq (dAsg (dBin dMod (dApp cInt (dCons (dBin dMul (dBin dAdd (dBin dAdd (dBin dIxA (dVar 0) (dC (.str "seed"))) (dBin dMul (dC (.int 17)) (dVar 2))) (dC (.int 3))) (dC (.int 48271))) (dNil))) (dC (.int 2147483647))) (gN 3)) (dRet (dBin dMod (dBin dDiv (dBin dMod (dApp cInt (dCons (dBin dAdd (dBin dMul (dVar 3) (dVar 3)) (dVar 2)) (dNil))) (dC (.int 2147483629))) (dC (.int 7))) (dVar 1))))))
def F__law_next : DF := dDef 4 2 (d__law_next)
/-- the reader -/
def rdOb (row : List Int) (at_ seed : Int) : Ob := .dK [(.inr "row", .lst (row.map .int)), (.inr "at", .int at_), (.inr "seed", .int seed)]
local macro_rules | `(tactic| walk_at "ev") => `(tactic| simp only [*, rdOb, dSeq, dAsg, dIfS, dRet, dRetN, dNext, dDrop, dVar, dC, dBin, dTst, dTru, dNotT, dAndT, dOrT, dAndV, dOrV, dNotV, dIf, dChain, dNil, dCons, dTup, dLst, dNew, dApp, dNeg, gN, R.bind, R.stm, R.tru, R.opt, R.fin, dPutA, sPutA, sPutK, dDisp, dPNil, dPCons, dFor, iRng1D,
  dIxA, dIx, dGetK, dicOf, keyOf, seqOf, cLen, cAbs, cMin2, cMax2, cInt, cTuple, cIsi, tyNm, dLtI, dLeI, dGtI, dGeI, cmpI, opI2, dAdd, dSub, dMul, dDiv, dMod, dPow, dBMT, isT, mAppend, truD, List.getElem?_cons_zero, List.getElem?_cons_succ, List.set_cons_zero, List.set_cons_succ, if_true, if_false, Bool.false_eq_true, Option.isSome_some, Option.isSome_none, valD, putD, setD, mergeD,
  Sum.inr.injEq, ofStr_inj, String.reduceEq, sizeLine_eq, List.length_cons, List.length_nil, List.length_map, Nat.reduceAdd, Nat.reduceLT, Nat.reduceLeDiff, decide_true, decide_false, decide_eq_true_eq, Bool.and_eq_true, and_true, true_and, and_self, Int.reduceLT, Int.reduceLE, Int.reducePow, Int.reduceNeg, Bool.true_and, Bool.and_true, beq_self_eq_true, dInA, dIn, dq_int, dq_bl, dIs, flatD, inD, List.any_cons, List.any_nil, eqF, List.all_cons, List.all_nil, isTy, dComp, Int.cast_ofNat_Int, Int.natCast_zero, Int.natCast_one, Bool.true_or, Bool.or_true, Bool.false_or, Bool.or_false, Bool.not_true, Bool.not_false, Bool.true_xor, Bool.false_xor, Bool.xor_true, Bool.xor_false, Bool.false_and, Bool.and_false, String.reduceBEq, Bool.not_not, reduceCtorEq, Bool.true_eq_false, Bool.false_eq_true])
def nextV (row : List Int) (k : Nat) (seed m : Int) : Int := if (k : Int) < row.length then row.getD k 0 % m else
  ((seed + 17 * k + 3) * 48271 % 2147483647 * ((seed + 17 * k + 3) * 48271 % 2147483647) + k) % 2147483629 / 7 % m
theorem nextV_lt {row : List Int} {k : Nat} {seed m : Int} (hm : 0 < m) : 0 ≤ nextV row k seed m ∧ nextV row k seed m < m := by
  unfold nextV
  split
  · exact ⟨Int.emod_nonneg _ (by omega), Int.emod_lt_of_pos _ hm⟩
  · exact ⟨Int.emod_nonneg _ (by omega), Int.emod_lt_of_pos _ hm⟩
theorem next_eq {st : Sto} {n k : Nat} {row : List Int} {seed m : Int} (h : st[n]? = some (rdOb row k seed)) (hm : 0 < m) (hk : k ≤ 1000000000) (h0 : 0 ≤ seed) (h1 : seed < 1000003) :
    F__law_next [.ref n, .int m] st = .ok (.int (nextV row k seed m)) (st.set n (rdOb row (k + 1 : Nat) seed)) := by
  unfold F__law_next d__law_next
  have hs : ∀ o, (st.set n o)[n]? = some o := fun o => List.getElem?_set_self (List.getElem?_eq_some_iff.mp h).1
  have m1 : (17 : Int).natAbs.log2 + (k : Int).natAbs.log2 < 1000000 := mul_lt (by decide) (by omega)
  have m2 : (seed + 17 * (k : Int) + 3).natAbs.log2 + (48271 : Int).natAbs.log2 < 1000000 := mul_lt (by omega) (by decide)
  have m3 : ((seed + 17 * (k : Int) + 3) * 48271 % 2147483647).natAbs.log2 + ((seed + 17 * (k : Int) + 3) * 48271 % 2147483647).natAbs.log2 < 1000000 := mul_lt (by omega) (by omega)
  have m4 : (7 : Int).natAbs.log2 < 9000 := by decide
  refine (def_go rfl).trans ?_
  rw [show startD 4 [D.ref n, D.int m] = [some (.ref n), some (.int m), none, none] from rfl]
  rw [rdOb] at h
  unfold nextV
  rw [Int.natCast_add, Int.natCast_one]
  by_cases hc : (k : Int) < row.length
  · have ha := atI_map (ns := row) (k := k) (by omega)
    walk_at "ev"
  · walk_at "ev"

/-! ### the draws -/
theorem app_get {st : Sto} {o : Ob} : (st ++ [o])[st.length]? = some o := by simp
theorem app_set {st : Sto} {o o' : Ob} : (st ++ [o]).set st.length o' = st ++ [o'] := by simp
def Good (row : List Int) : Prop := ∀ x ∈ row, 0 ≤ x ∧ x < 1000
theorem Good.add {row : List Int} {x : Int} (h : Good row) (h1 : 0 ≤ x) (h2 : x < 1000) : Good (row ++ [x]) := fun y hy => by
  rcases List.mem_append.mp hy with z | z
  · exact h y z
  · rw [List.mem_singleton.mp z]; exact ⟨h1, h2⟩
theorem L1_inv {st : Sto} {a b e f : Option D} {row : List Int} {cell : Int} {ds : List D} (hds : ds.length ≤ 20) (hr : row.length ≤ 2000) (hg : Good row) (hc : 0 ≤ cell) :
    ∃ τ' st', forL (gN 4) d__law_draws_L1 ds [a, some (.ref st.length), b, some (.int cell), e, f] (st ++ [.lst (row.map .int)]) = .ok (.nx, τ') st' ∧
      ∃ cell e f row', τ' = [a, some (.ref st.length), b, some (.int cell), e, f] ∧ st' = st ++ [.lst ((row' : List Int).map .int)] ∧ row'.length ≤ row.length + 20 ∧ Good row' := by
  obtain ⟨τ', st', h1, h2⟩ := forN_inv (j := 4) (body := d__law_draws_L1) (ds := ds) (τ := [a, some (.ref st.length), b, some (.int cell), e, f]) (st := st ++ [.lst (row.map .int)])
    (fun i τ st' => ∃ cell e f row', τ = [a, some (.ref st.length), b, some (.int cell), e, f] ∧ st' = st ++ [.lst ((row' : List Int).map .int)] ∧ row'.length ≤ row.length + i ∧ Good row' ∧ 0 ≤ cell)
    ⟨cell, e, f, row, rfl, rfl, by omega, hg, hc⟩ (by
      rintro i d τ st' hd ⟨cell, e, f, row', rfl, rfl, hl, hg, hc⟩
      have hi : i < ds.length := (List.getElem?_eq_some_iff.mp hd).1
      unfold d__law_draws_L1
      have hl2 : row'.length < 16777216 := by omega
      have hdiv : (1000 : Int).natAbs.log2 < 9000 := by decide
      have ag := @app_get st
      have as := @app_set st
      by_cases hp : 0 < cell
      · refine ⟨.nx, [a, some (.ref st.length), b, some (.int (cell / 1000)), some d, f], st ++ [.lst ((row' ++ [cell % 1000]).map .int)], ?_, .inl rfl, cell / 1000, some d, f, row' ++ [cell % 1000], rfl, rfl, by simp; omega, hg.add (by omega) (by omega), by omega⟩
        rw [List.map_append]
        walk_at "ev"
        rfl
      · refine ⟨.nx, [a, some (.ref st.length), b, some (.int cell), some d, f], st ++ [.lst (row'.map .int)], ?_, .inl rfl, cell, some d, f, row', rfl, rfl, by omega, hg, hc⟩
        walk_at "ev")
  obtain ⟨cell, e, f, row', h3, h4, h5, h6, h7⟩ := h2
  exact ⟨τ', st', h1, cell, e, f, row', h3, h4, by omega, h6⟩
theorem L2_inv {st : Sto} {a b c e : Option D} {row : List Int} {mx : Int} (hr : row.length ≤ 2000) (hg : Good row) (h0 : 0 ≤ mx) (h1 : mx < 2147483648) :
    ∃ τ' st', forL (gN 4) d__law_draws_L2 (rng 0 3) [a, some (.ref st.length), b, c, e, some (.int mx)] (st ++ [.lst (row.map .int)]) = .ok (.nx, τ') st' ∧
      ∃ e f row', τ' = [a, some (.ref st.length), b, c, e, f] ∧ st' = st ++ [.lst ((row' : List Int).map .int)] ∧ row'.length ≤ row.length + 20 ∧ Good row' := by
  obtain ⟨τ', st', h1, h2⟩ := forN_inv (j := 4) (body := d__law_draws_L2) (ds := rng 0 3) (τ := [a, some (.ref st.length), b, c, e, some (.int mx)]) (st := st ++ [.lst (row.map .int)])
    (fun i τ st' => ∃ e mx row', τ = [a, some (.ref st.length), b, c, e, some (.int mx)] ∧ st' = st ++ [.lst ((row' : List Int).map .int)] ∧ row'.length ≤ row.length + i ∧ Good row' ∧ 0 ≤ mx ∧ mx < 2147483648)
    ⟨e, mx, row, rfl, rfl, by omega, hg, h0, h1⟩ (by
      rintro i d τ st' hd ⟨e, mx, row', rfl, rfl, hl, hg, h0, h1⟩
      have hi : i < 3 := by
        have := (List.getElem?_eq_some_iff.mp hd).1
        rw [rng_len] at this
        simpa using this
      have hd' : d = .int ((0 : Int) + (i : Int)) := by
        rw [rng_get (by simpa using hi)] at hd
        exact (Option.some.inj hd).symm
      subst hd'
      rw [Int.zero_add]
      unfold d__law_draws_L2
      have hl2 : row'.length < 16777216 := by omega
      have ag := @app_get st
      have as := @app_set st
      have m1 : mx.natAbs.log2 + mx.natAbs.log2 < 1000000 := mul_lt (by omega) (by omega)
      have m2 : (i : Int).natAbs.log2 + (7919 : Int).natAbs.log2 < 1000000 := mul_lt (by omega) (by omega)
      refine ⟨.nx, [a, some (.ref st.length), b, c, some (.int (i : Int)), some (.int ((mx * mx + (i : Int) * 7919 + 17) % 2147483629))], st ++ [.lst ((row' ++ [(mx * mx + (i : Int) * 7919 + 17) % 2147483629 % 1000]).map .int)], ?_, .inl rfl, _, _, row' ++ [(mx * mx + (i : Int) * 7919 + 17) % 2147483629 % 1000], rfl, rfl, by simp; omega, hg.add (by omega) (by omega), by omega, by omega⟩
      rw [List.map_append]
      walk_at "ev"
      rfl)
  obtain ⟨e, f, row', h3, h4, h5, h6, h7⟩ := h2
  rw [rng_len] at h5
  have h5 : row'.length ≤ row.length + 3 := h5
  exact ⟨τ', st', h1, e, some (.int f), row', h3, h4, by omega, h6⟩
theorem L3_inv {st : Sto} {ns : List Int} (hn : ns.length ≤ 63) {b c e f : Option D} :
    ∃ τ' st', forL (gN 2) d__law_draws_L3 (rng 0 ns.length) [some (.fro (ns.map .int)), some (.ref st.length), b, c, e, f] (st ++ [.lst []]) = .ok (.nx, τ') st' ∧
      ∃ b c e f row', τ' = [some (.fro (ns.map .int)), some (.ref st.length), b, c, e, f] ∧ st' = st ++ [.lst ((row' : List Int).map .int)] ∧ row'.length ≤ 2000 ∧ Good row' := by
  obtain ⟨τ', st', h1, h2⟩ := forN_inv (j := 2) (body := d__law_draws_L3) (ds := rng 0 ns.length) (τ := [some (.fro (ns.map .int)), some (.ref st.length), b, c, e, f]) (st := st ++ [.lst []])
    (fun i τ st' => ∃ b c e f row', τ = [some (.fro (ns.map .int)), some (.ref st.length), b, c, e, f] ∧ st' = st ++ [.lst ((row' : List Int).map .int)] ∧ row'.length ≤ 20 * i ∧ Good row')
    ⟨b, c, e, f, [], rfl, rfl, by simp, fun x hx => by cases hx⟩ (by
      rintro i d τ st' hd ⟨b, c, e, f, row, rfl, rfl, hl, hg⟩
      have hi : i < ns.length := by
        have := (List.getElem?_eq_some_iff.mp hd).1
        rw [rng_len] at this
        simpa using this
      have hd' : d = .int ((0 : Int) + (i : Int)) := by
        rw [rng_get (by simpa using hi)] at hd
        exact (Option.some.inj hd).symm
      subst hd'
      rw [Int.zero_add]
      unfold d__law_draws_L3
      have hat := atI_map hi
      generalize hz : ns.getD i 0 = z at hat
      have hp : (10 : Int) ^ (18 : Int).toNat = 1000000000000000000 := by decide
      have hp1 : ((10 : Int).natAbs < 2 ^ 64) := by decide
      by_cases hc : 1000000000000000000 ≤ (if z < 0 then -z else z)
      · obtain ⟨τ', st', h1, c', e', f', row', h2, h3, h4, h5⟩ := L1_inv (st := st) (a := some (.fro (ns.map .int))) (b := some (.int (i : Int))) (e := e) (f := f) (row := row) (cell := if z < 0 then -z else z) (ds := rng 0 20) (by rw [rng_len]; decide) (by omega) hg (by omega)
        refine ⟨.nx, τ', st', ?_, .inl rfl, _, _, _, _, row', h2, h3, by omega, h5⟩
        walk_at "ev"
      · have m1 : z.natAbs.log2 + (48271 : Int).natAbs.log2 < 1000000 := mul_lt (by split at hc <;> omega) (by decide)
        have m2 : (i : Int).natAbs.log2 + (69621 : Int).natAbs.log2 < 1000000 := mul_lt (by omega) (by decide)
        obtain ⟨τ', st', h1, e', f', row', h2, h3, h4, h5⟩ := L2_inv (st := st) (a := some (.fro (ns.map .int))) (b := some (.int (i : Int))) (c := some (.int (if z < 0 then -z else z))) (e := e) (row := row) (mx := (z * 48271 + (i : Int) * 69621 + 12345) % 2147483647) (by omega) hg (by omega) (by omega)
        refine ⟨.nx, τ', st', ?_, .inl rfl, _, _, _, _, row', h2, h3, by omega, h5⟩
        walk_at "ev")
  obtain ⟨b, c, e, f, row', h3, h4, h5, h6⟩ := h2
  rw [rng_len] at h5
  exact ⟨τ', st', h1, b, c, e, f, row', h3, h4, by omega, h6⟩
theorem wfs_ints (n : Nat) : ∀ row : List Int, wfs n (row.map D.int) = true
  | [] => rfl
  | _ :: r => by unfold wfs; rw [List.map_cons]; exact wfs_ints n r
theorem draws_eq {st : Sto} {ns : List Int} (hn : ns.length ≤ 63) : ∃ row, trimF F__law_draws [.fro (ns.map .int)] st = .ok (.lst (row.map .int)) st ∧ row.length ≤ 2000 ∧ Good row := by
  obtain ⟨τ', st', h1, b, c, e, f, row, rfl, rfl, h4, h5⟩ := L3_inv (st := st) hn (b := none) (c := none) (e := none) (f := none)
  refine ⟨row, trim_lst (k := st.length) (g := [.lst (row.map .int)]) ?_ rfl (Kept.refl st) (Nat.le_refl _) app_get (wfs_ints _ _), h4, h5⟩
  unfold F__law_draws d__law_draws
  refine (def_go rfl).trans ?_
  rw [show startD 6 [D.fro (ns.map .int)] = [some (D.fro (ns.map .int)), none, none, none, none, none] from rfl]
  have hm : (if (63 : Int) < (ns.length : Int) then (63 : Int) else (ns.length : Int)) = (ns.length : Int) := by rw [if_neg (by omega)]
  have hb : (-4611686018427387904 : Int) ≤ (ns.length : Int) ∧ (ns.length : Int) < 4611686018427387904 := by omega
  walk_at "ev"
/-! ### the reader -/
theorem reader_eq {st : Sto} {ns : List Int} (hn : ns.length ≤ 63) : ∃ row seed, F__law_reader (trimF F__law_draws) [.fro (ns.map .int)] st = .ok (.ref st.length) (st ++ [rdOb row 0 seed]) ∧ Good row ∧ 0 ≤ seed ∧ seed < 1000003 := by
  obtain ⟨row, hd, hl, hg⟩ := draws_eq (st := st) hn
  unfold F__law_reader d__law_reader
  have hs : startD 3 [D.fro (ns.map .int)] = [some (D.fro (ns.map .int)), none, none] := rfl
  by_cases h0 : 0 < ns.length
  · obtain ⟨z, hz, hat⟩ := atI_lastm h0
    refine ⟨row, (if z < 0 then -z else z) % 1000003, (def_go rfl).trans ?_, hg, by omega, by omega⟩
    have h0' : (0 : Int) < (ns.length : Int) := by omega
    rw [hs]
    walk_at "ev"
    rfl
  · refine ⟨row, 5, (def_go rfl).trans ?_, hg, by omega, by omega⟩
    have h0' : ¬ (0 : Int) < (ns.length : Int) := by omega
    rw [hs]
    walk_at "ev"
    rfl

/-- the reader stands at n -/
def Rd (st : Sto) (n : Nat) (b : Nat) : Prop := ∃ row k seed, st[n]? = some (rdOb row (k : Nat) seed) ∧ k ≤ b ∧ 0 ≤ seed ∧ seed < 1000003
theorem Rd.mono {st : Sto} {n a b : Nat} (h : Rd st n a) (l : a ≤ b) : Rd st n b := let ⟨row, k, seed, h1, h2, h3⟩ := h; ⟨row, k, seed, h1, by omega, h3⟩
theorem next_rd {st : Sto} {n b : Nat} {m : Int} (h : Rd st n b) (hb : b ≤ 1000000000) (hm : 0 < m) : ∃ v o, F__law_next [.ref n, .int m] st = .ok (.int v) (st.set n o) ∧ 0 ≤ v ∧ v < m ∧ Rd (st.set n o) n (b + 1) := by
  obtain ⟨row, k, seed, h1, h2, h3, h4⟩ := h
  refine ⟨_, _, next_eq h1 hm (by omega) h3 h4, (nextV_lt hm).1, (nextV_lt hm).2, row, k + 1, seed, List.getElem?_set_self (List.getElem?_eq_some_iff.mp h1).1, by omega, h3, h4⟩
theorem set_set {st : Sto} {n : Nat} {o o' : Ob} : (st.set n o).set n o' = st.set n o' := by simp
end DR

namespace K21
open PySem PySem.Spec PyProof.Rows L2 DL

/-- unordered(first, second, one, other) -/
def d_unordered_L1 : DS := dIfS (dTst (dBin (dEq true) (dVar 2) (dVar 3))) (dRet (dBin (dEq false) (dBin dIxA (dVar 2) (dC (.int 0))) (dBin dIxA (dVar 3) (dC (.int 0))))) (dNext)
def d_unordered : DS := dSeq (dFor (iZipD (dCons (dVar 0) (dCons (dVar 1) (dNil)))) (gTupN [2, 3]) (d_unordered_L1)) (dRet (dC (.bl false)))
def F_unordered : DF := dDef 4 2 (d_unordered)
/-- picked(schedule, at, many) -/
def d_picked : DS := dSeq (dIfS (dTst (dBin (dLtI) (dVar 1) (dApp cLen (dCons (dVar 0) (dNil))))) (dRet (dBin dMod (dBin dIxA (dVar 0) (dVar 1)) (dVar 2))) (dNext)) (dRet (dC (.int 0)))
def F_picked : DF := dDef 3 3 (d_picked)
/-- _law_draws(_law_script, _law_draws_here, _law_k, _law_cell, _law_turn, _law_mixed) -/
def d__law_draws_L1 : DS := dIfS (dTst (dBin (dGtI) (dVar 3) (dC (.int 0)))) (dSeq (dDrop (dBMT "list" mAppend (dVar 1) (dCons (dBin dMod (dVar 3) (dC (.int 1000))) (dNil)))) (dAsg (dBin dDiv (dVar 3) (dC (.int 1000))) (gN 3))) (dNext)
def d__law_draws_L2 : DS := dSeq (dAsg (dBin dMod (dApp cInt (dCons (dBin dAdd (dBin dAdd (dBin dMul (dVar 5) (dVar 5)) (dBin dMul (dVar 4) (dC (.int 7919)))) (dC (.int 17))) (dNil))) (dC (.int 2147483629))) (gN 5)) (dDrop (dBMT "list" mAppend (dVar 1) (dCons (dBin dMod (dVar 5) (dC (.int 1000))) (dNil))))
def d__law_draws_L3 : DS := dSeq (dAsg (dApp cAbs (dCons (dBin dIxA (dVar 0) (dVar 2)) (dNil))) (gN 3)) (dIfS (dTst (dBin (dGeI) (dVar 3) (dBin dPow (dC (.int 10)) (dC (.int 18))))) (dFor (iRng1D (dCons (dC (.int 20)) (dNil))) (gN 4) (d__law_draws_L1)) (dSeq (dAsg (dBin dMod (dApp cInt (dCons (dBin dAdd (dBin dAdd (dBin dMul (dBin dIxA (dVar 0) (dVar 2)) (dC (.int 48271))) (dBin dMul (dVar 2) (dC (.int 69621)))) (dC (.int 12345))) (dNil))) (dC (.int 2147483647))) (gN 5)) (dFor (iRng1D (dCons (dC (.int 3)) (dNil))) (gN 4) (d__law_draws_L2))))
def d__law_draws : DS := dSeq (dAsg (dNew (dNil)) (gN 1)) (dSeq (dFor (iRng1D (dCons (dApp cMin2 (dCons (dApp cLen (dCons (dVar 0) (dNil))) (dCons (dC (.int 63)) (dNil)))) (dNil))) (gN 2) (d__law_draws_L3)) (dRet (dVar 1)))
def F__law_draws : DF := dDef 6 1 (d__law_draws)
/-- _law_reader(_law_script, _law_row, _law_seed) -/
def d__law_reader (c__law_draws : DF) : DS := dSeq (dAsg (dApp c__law_draws (dCons (dVar 0) (dNil))) (gN 1)) (dSeq (dAsg (dC (.int 5)) (gN 2)) (dSeq (dIfS (dTst (dBin (dGtI) (dApp cLen (dCons (dVar 0) (dNil))) (dC (.int 0)))) (dAsg (dBin dMod (dApp cAbs (dCons (dBin dIxA (dVar 0) (dNeg (dC (.int 1)))) (dNil))) (dC (.int 1000003))) (gN 2)) (dNext)) (dRet (dDisp (dPCons (dC (.str "row")) (dVar 1) (dPCons (dC (.str "at")) (dC (.int 0)) (dPCons (dC (.str "seed")) (dVar 2) (dPNil))))))))
def F__law_reader (c__law_draws : DF) : DF := dDef 3 1 (d__law_reader c__law_draws)
/-- _law_next(_law_draws_here, _law_many, _law_at, _law_mixed) -/
def d__law_next : DS := dSeq (dAsg (dBin dIxA (dVar 0) (dC (.str "at"))) (gN 2)) (dSeq (dPutA (dVar 0) (dC (.str "at")) (dBin dAdd (dVar 2) (dC (.int 1)))) (dSeq (dIfS (dTst (dBin (dLtI) (dVar 2) (dApp cLen (dCons (dBin dIxA (dVar 0) (dC (.str "row"))) (dNil))))) (dRet (dBin dMod (dApp cInt (dCons (dBin dIxA (dBin dIxA (dVar 0) (dC (.str "row"))) (dVar 2)) (dNil))) (dVar 1))) (dNext)) (dSeq (dAsg (dBin dMod (dApp cInt (dCons (dBin dMul (dBin dAdd (dBin dAdd (dBin dIxA (dVar 0) (dC (.str "seed"))) (dBin dMul (dC (.int 17)) (dVar 2))) (dC (.int 3))) (dC (.int 48271))) (dNil))) (dC (.int 2147483647))) (gN 3)) (dRet (dBin dMod (dBin dDiv (dBin dMod (dApp cInt (dCons (dBin dAdd (dBin dMul (dVar 3) (dVar 3)) (dVar 2)) (dNil))) (dC (.int 2147483629))) (dC (.int 7))) (dVar 1))))))
def F__law_next : DF := dDef 4 2 (d__law_next)
/-- _law_pairs(_law_draws_here, _law_k) -/
def d__law_pairs_C1 (c__law_next : DF) : DE := dTup (dCons (dApp c__law_next (dCons (dVar 0) (dCons (dC (.int 5)) (dNil)))) (dCons (dApp c__law_next (dCons (dVar 0) (dCons (dC (.int 2)) (dNil)))) (dNil)))
def d__law_pairs (c__law_next : DF) : DS := dRet (dApp cTuple (dCons (dComp (iRng1D (dCons (dApp c__law_next (dCons (dVar 0) (dCons (dC (.int 5)) (dNil)))) (dNil))) (.one 1) (dYes) (d__law_pairs_C1 c__law_next) [1]) (dNil)))
def F__law_pairs (c__law_next : DF) : DF := dDef 2 1 (d__law_pairs c__law_next)
/-- _law_due(_law_first, _law_second, _law_at) -/
def d__law_due_W1 : DT := dAndT (dTst (dBin (dLtI) (dVar 2) (dApp cLen (dCons (dVar 0) (dNil))))) (dAndT (dTst (dBin (dLtI) (dVar 2) (dApp cLen (dCons (dVar 1) (dNil))))) (dTst (dBin (dEq false) (dBin dIxA (dVar 0) (dVar 2)) (dBin dIxA (dVar 1) (dVar 2)))))
def d__law_due_L1 : DS := dAsg (dBin dAdd (dVar 2) (dC (.int 1))) (gN 2)
def d__law_due : DS := dSeq (dAsg (dC (.int 0)) (gN 2)) (dSeq (dWhile (d__law_due_W1) (d__law_due_L1)) (dSeq (dIfS (dOrT (dTst (dBin (dGeI) (dVar 2) (dApp cLen (dCons (dVar 0) (dNil))))) (dTst (dBin (dGeI) (dVar 2) (dApp cLen (dCons (dVar 1) (dNil)))))) (dRet (dC (.bl false))) (dNext)) (dRet (dAndV (dBin (dEq false) (dBin dIxA (dBin dIxA (dVar 0) (dVar 2)) (dC (.int 0))) (dBin dIxA (dBin dIxA (dVar 1) (dVar 2)) (dC (.int 0)))) (dBin (dEq true) (dBin dIxA (dBin dIxA (dVar 0) (dVar 2)) (dC (.int 1))) (dBin dIxA (dBin dIxA (dVar 1) (dVar 2)) (dC (.int 1))))))))
def F__law_due : DF := dDef 3 2 (d__law_due)
/-- law(_law_script, _law_draws_here, _law_turn, _law_first, _law_cut, _law_second, _law_due_here, _law_schedule, _law_k, _law_many, _law_at) -/
def d_law_C1 (c__law_reader : DF) (c__law_pairs : DF) (c__law_next : DF) (c__law_due : DF) (c_unordered : DF) (c_picked : DF) : DE := dApp c__law_next (dCons (dVar 1) (dCons (dC (.int 50)) (dNil)))
def d_law_R1 (c__law_reader : DF) (c__law_pairs : DF) (c__law_next : DF) (c__law_due : DF) (c_unordered : DF) (c_picked : DF) : DS := dIfS (dTst (dBin (dEq true) (dApp c_picked (dCons (dVar 7) (dCons (dVar 10) (dCons (dVar 9) (dNil))))) (dVar 6))) (dRet (dC (.bl false))) (dNext)
def d_law_L1 (c__law_reader : DF) (c__law_pairs : DF) (c__law_next : DF) (c__law_due : DF) (c_unordered : DF) (c_picked : DF) : DS := dSeq (dAsg (dC (.int 0)) (gN 6)) (dSeq (dIfS (dTst (dBin (dLtI) (dVar 10) (dApp cLen (dCons (dVar 7) (dNil))))) (dAsg (dBin dSub (dBin dIxA (dVar 7) (dVar 10)) (dBin dMul (dBin dDiv (dBin dIxA (dVar 7) (dVar 10)) (dVar 9)) (dVar 9))) (gN 6)) (dNext)) (d_law_R1 c__law_reader c__law_pairs c__law_next c__law_due c_unordered c_picked))
def d_law_R2 (c__law_reader : DF) (c__law_pairs : DF) (c__law_next : DF) (c__law_due : DF) (c_unordered : DF) (c_picked : DF) : DS := dSeq (dAsg (dApp cTuple (dCons (dComp (iRng1D (dCons (dApp c__law_next (dCons (dVar 1) (dCons (dC (.int 6)) (dNil)))) (dNil))) (.one 8) (dYes) (d_law_C1 c__law_reader c__law_pairs c__law_next c__law_due c_unordered c_picked) [8]) (dNil))) (gN 7)) (dSeq (dAsg (dBin dAdd (dC (.int 1)) (dApp c__law_next (dCons (dVar 1) (dCons (dC (.int 6)) (dNil))))) (gN 9)) (dFor (iRng1D (dCons (dC (.int 8)) (dNil))) (gN 10) (d_law_L1 c__law_reader c__law_pairs c__law_next c__law_due c_unordered c_picked)))
def d_law_L2 (c__law_reader : DF) (c__law_pairs : DF) (c__law_next : DF) (c__law_due : DF) (c_unordered : DF) (c_picked : DF) : DS := dSeq (dAsg (dApp c__law_pairs (dCons (dVar 1) (dNil))) (gN 3)) (dSeq (dAsg (dApp c__law_next (dCons (dVar 1) (dCons (dBin dAdd (dApp cLen (dCons (dVar 3) (dNil))) (dC (.int 1))) (dNil)))) (gN 4)) (dSeq (dAsg (dBin dAdd (dSl (dVar 3) (dNoPart) (dPart (dVar 4))) (dApp c__law_pairs (dCons (dVar 1) (dNil)))) (gN 5)) (dSeq (dAsg (dApp c__law_due (dCons (dVar 3) (dCons (dVar 5) (dNil)))) (gN 6)) (dSeq (dIfS (dOrT (dTst (dBin (dEq true) (dApp c_unordered (dCons (dVar 3) (dCons (dVar 5) (dNil)))) (dVar 6))) (dOrT (dTst (dBin (dEq true) (dApp c_unordered (dCons (dVar 5) (dCons (dVar 3) (dNil)))) (dVar 6))) (dTst (dBin (dIs true) (dApp c_unordered (dCons (dVar 3) (dCons (dVar 3) (dNil)))) (dC (.bl false)))))) (dRet (dC (.bl false))) (dNext)) (d_law_R2 c__law_reader c__law_pairs c__law_next c__law_due c_unordered c_picked)))))
def d_law (c__law_reader : DF) (c__law_pairs : DF) (c__law_next : DF) (c__law_due : DF) (c_unordered : DF) (c_picked : DF) : DS := dSeq (dAsg (dApp c__law_reader (dCons (dVar 0) (dNil))) (gN 1)) (dSeq (dFor (iRng1D (dCons (dC (.int 20)) (dNil))) (gN 2) (d_law_L2 c__law_reader c__law_pairs c__law_next c__law_due c_unordered c_picked)) (dRet (dC (.bl true))))
def F_law (c__law_reader : DF) (c__law_pairs : DF) (c__law_next : DF) (c__law_due : DF) (c_unordered : DF) (c_picked : DF) : DF := dDef 11 1 (d_law c__law_reader c__law_pairs c__law_next c__law_due c_unordered c_picked)
end K21

namespace K21
open PySem PySem.Spec PyProof.Rows L2 DL
def top (i : Nat) : Stmt := PySem.Challenge.pw_oneowner_k21_what_is_unordered_and_who_i.main.body.getD i (.Pass ⟨0, 0, 0, 0⟩)
structure Tx (K : PySem.W.Frag) (mg : Str → Option Value) : Prop where
  b_abs : mg "abs" = none
  b_int : mg "int" = none
  b_len : mg "len" = none
  b_min : mg "min" = none
  b_range : mg "range" = none
  b_tuple : mg "tuple" = none
  b_zip : mg "zip" = none
section
variable {P : Program} {w : World} {K : PySem.W.Frag} {mg : Str → Option Value} {base : Heap} {cl : Cl}
abbrev s_unordered : Stmt := top 1
abbrev N_unordered : List Str := ["first", "second", "one", "other"]
theorem sc_unordered : FnScope ["first", "second", "one", "other"] ["first", "second"] (defScope s_unordered) := ⟨rfl, rfl, rfl, by decide +kernel, rfl, by decide +kernel, by decide +kernel⟩
theorem ok_unordered (T : Tx K mg) {k : Nat} {f : Addr} {fd : FuncData} (F : Fun K "unordered" "unordered" s_unordered f fd) :
    FnD P w K mg base cl (k + 1) f fd ["first", "second"] (F_unordered) :=
  FnD.of F sc_unordered fun cdv A outer s H E hr => (js_cons (js_for cx_def (ji_zip (by rfl) T.b_zip (ja_cons (j_var (pv 0)) (ja_cons (j_var (pv 1)) ja_nil))) (jg_tup rfl (jgs_cons (pg_name (i := 2) sc_unordered.nd rfl (by first | exact Or.inl rfl | exact Or.inr rfl)) (jgs_cons (pg_name (i := 3) sc_unordered.nd rfl (by first | exact Or.inl rfl | exact Or.inr rfl)) jgs_nil))) (js_one (js_if (j_tcmp (oj_ne (Room.u64 hr)) (j_var (pv 2)) (j_var (pv 3)) (nomark _)) (js_one (js_ret (j_cmp (oj_eq (Room.u64 hr)) (j_ixA (Room.u1 hr) (j_var (pv 2)) j_int) (j_ixA (Room.u1 hr) (j_var (pv 3)) j_int) (nomark _)))) js_nil)))
    (js_one (js_ret j_bl)))
abbrev s_picked : Stmt := top 2
abbrev N_picked : List Str := ["schedule", "at", "many"]
theorem sc_picked : FnScope ["schedule", "at", "many"] ["schedule", "at", "many"] (defScope s_picked) := ⟨rfl, rfl, rfl, by decide +kernel, rfl, by decide +kernel, by decide +kernel⟩
theorem ok_picked (T : Tx K mg) {k : Nat} {f : Addr} {fd : FuncData} (F : Fun K "picked" "picked" s_picked f fd) :
    FnD P w K mg base cl (k + 1) f fd ["schedule", "at", "many"] (F_picked) :=
  FnD.of F sc_picked fun cdv A outer s H E hr => (js_cons (js_if (j_tcmp oj_lt (j_var (pv 1)) (j_callB cj_len (by rfl) T.b_len bb_len (ja_cons (j_var (pv 0)) ja_nil)) (nomark _)) (js_one (js_ret (j_op oj_mod (j_ixA (Room.u1 hr) (j_var (pv 0)) (j_var (pv 1))) (j_var (pv 2))))) js_nil)
    (js_one (js_ret j_int)))
abbrev s__law_draws : Stmt := top 4
abbrev N__law_draws : List Str := ["_law_script", "_law_draws_here", "_law_k", "_law_cell", "_law_turn", "_law_mixed"]
theorem sc__law_draws : FnScope ["_law_script", "_law_draws_here", "_law_k", "_law_cell", "_law_turn", "_law_mixed"] ["_law_script"] (defScope s__law_draws) := ⟨rfl, rfl, rfl, by decide +kernel, rfl, by decide +kernel, by decide +kernel⟩
theorem ok__law_draws (T : Tx K mg) {k : Nat} {f : Addr} {fd : FuncData} (F : Fun K "_law_draws" "_law_draws" s__law_draws f fd) :
    FnD P w K mg base cl (k + 1) f fd ["_law_script"] (F__law_draws) :=
  FnD.of F sc__law_draws fun cdv A outer s H E hr => (js_cons (js_set (i := 1) sc__law_draws.nd rfl (by first | exact Or.inl rfl | exact Or.inr rfl) (j_new ja_nil))
    (js_cons (js_for cx_def (ji_rng1 (by rfl) T.b_range (ja_cons (j_callB (cj_min2 rfl) (by rfl) T.b_min bb_min (ja_cons (j_callB cj_len (by rfl) T.b_len bb_len (ja_cons (j_var (pv 0)) ja_nil)) (ja_cons j_int ja_nil))) ja_nil)) (jg_name (pg_name (i := 2) sc__law_draws.nd rfl (by first | exact Or.inl rfl | exact Or.inr rfl))) (js_cons (js_set (i := 3) sc__law_draws.nd rfl (by first | exact Or.inl rfl | exact Or.inr rfl) (j_callB cj_abs (by rfl) T.b_abs bb_abs (ja_cons (j_ixA (Room.u1 hr) (j_var (pv 0)) (j_var (pv 2))) ja_nil)))
    (js_one (js_if (j_tcmp oj_ge (j_var (pv 3)) (j_op oj_pow j_int j_int) (nomark _)) (js_one (js_for cx_def (ji_rng1 (by rfl) T.b_range (ja_cons j_int ja_nil)) (jg_name (pg_name (i := 4) sc__law_draws.nd rfl (by first | exact Or.inl rfl | exact Or.inr rfl))) (js_one (js_if (j_tcmp oj_gt (j_var (pv 3)) j_int (nomark _)) (js_cons (js_expr (j_bm PySem.F.plainAttrs_list PySem.F.slot_list_append PySem.F.type_list_append mj_append (j_var (pv 1)) (ja_cons (j_op oj_mod (j_var (pv 3)) j_int) ja_nil)))
    (js_one (js_set (i := 3) sc__law_draws.nd rfl (by first | exact Or.inl rfl | exact Or.inr rfl) (j_op oj_div (j_var (pv 3)) j_int)))) js_nil)))) (js_cons (js_set (i := 5) sc__law_draws.nd rfl (by first | exact Or.inl rfl | exact Or.inr rfl) (j_op oj_mod (j_callTy cj_int (by rfl) T.b_int bb_int (ja_cons (j_op oj_add (j_op oj_add (j_op oj_mul (j_ixA (Room.u1 hr) (j_var (pv 0)) (j_var (pv 2))) j_int) (j_op oj_mul (j_var (pv 2)) j_int)) j_int) ja_nil)) j_int))
    (js_one (js_for cx_def (ji_rng1 (by rfl) T.b_range (ja_cons j_int ja_nil)) (jg_name (pg_name (i := 4) sc__law_draws.nd rfl (by first | exact Or.inl rfl | exact Or.inr rfl))) (js_cons (js_set (i := 5) sc__law_draws.nd rfl (by first | exact Or.inl rfl | exact Or.inr rfl) (j_op oj_mod (j_callTy cj_int (by rfl) T.b_int bb_int (ja_cons (j_op oj_add (j_op oj_add (j_op oj_mul (j_var (pv 5)) (j_var (pv 5))) (j_op oj_mul (j_var (pv 4)) j_int)) j_int) ja_nil)) j_int))
    (js_one (js_expr (j_bm PySem.F.plainAttrs_list PySem.F.slot_list_append PySem.F.type_list_append mj_append (j_var (pv 1)) (ja_cons (j_op oj_mod (j_var (pv 5)) j_int) ja_nil))))))))))))
    (js_one (js_ret (j_var (pv 1))))))
abbrev s__law_reader : Stmt := top 5
abbrev N__law_reader : List Str := ["_law_script", "_law_row", "_law_seed"]
theorem sc__law_reader : FnScope ["_law_script", "_law_row", "_law_seed"] ["_law_script"] (defScope s__law_reader) := ⟨rfl, rfl, rfl, by decide +kernel, rfl, by decide +kernel, by decide +kernel⟩
theorem ok__law_reader (T : Tx K mg) {k : Nat} {f : Addr} {fd : FuncData} (F : Fun K "_law_reader" "_law_reader" s__law_reader f fd) {c__law_draws : DF} {f__law_draws : Addr} {fd__law_draws : FuncData} (D__law_draws : DefAt K mg "_law_draws" f__law_draws fd__law_draws ["_law_script"]) (G__law_draws : FnD P w K mg base cl k f__law_draws fd__law_draws ["_law_script"] c__law_draws) :
    FnD P w K mg base cl (k + 1) f fd ["_law_script"] (F__law_reader c__law_draws) :=
  FnD.of F sc__law_reader fun cdv A outer s H E hr => (js_cons (js_set (i := 1) sc__law_reader.nd rfl (by first | exact Or.inl rfl | exact Or.inr rfl) (j_call pass_def G__law_draws hr (by rfl) D__law_draws.mgf D__law_draws.kp D__law_draws.bi (ja_cons (j_var (pv 0)) ja_nil)))
    (js_cons (js_set (i := 2) sc__law_reader.nd rfl (by first | exact Or.inl rfl | exact Or.inr rfl) j_int)
    (js_cons (js_if (j_tcmp oj_gt (j_callB cj_len (by rfl) T.b_len bb_len (ja_cons (j_var (pv 0)) ja_nil)) j_int (nomark _)) (js_one (js_set (i := 2) sc__law_reader.nd rfl (by first | exact Or.inl rfl | exact Or.inr rfl) (j_op oj_mod (j_callB cj_abs (by rfl) T.b_abs bb_abs (ja_cons (j_ixA (Room.u1 hr) (j_var (pv 0)) (j_neg j_int)) ja_nil)) j_int))) js_nil)
    (js_one (js_ret (j_disp (.cons j_str (j_var (pv 1)) (.cons j_str j_int (.cons j_str (j_var (pv 2)) .nil)))))))))
abbrev s__law_next : Stmt := top 6
abbrev N__law_next : List Str := ["_law_draws_here", "_law_many", "_law_at", "_law_mixed"]
theorem sc__law_next : FnScope ["_law_draws_here", "_law_many", "_law_at", "_law_mixed"] ["_law_draws_here", "_law_many"] (defScope s__law_next) := ⟨rfl, rfl, rfl, by decide +kernel, rfl, by decide +kernel, by decide +kernel⟩
theorem ok__law_next (T : Tx K mg) {k : Nat} {f : Addr} {fd : FuncData} (F : Fun K "_law_next" "_law_next" s__law_next f fd) :
    FnD P w K mg base cl (k + 1) f fd ["_law_draws_here", "_law_many"] (F__law_next) :=
  FnD.of F sc__law_next fun cdv A outer s H E hr => (js_cons (js_set (i := 2) sc__law_next.nd rfl (by first | exact Or.inl rfl | exact Or.inr rfl) (j_ixA (Room.u1 hr) (j_var (pv 0)) j_str))
    (js_cons (js_putA (Room.u1 hr) (j_var (pv 0)) j_str (j_op oj_add (j_var (pv 2)) j_int))
    (js_cons (js_if (j_tcmp oj_lt (j_var (pv 2)) (j_callB cj_len (by rfl) T.b_len bb_len (ja_cons (j_ixA (Room.u1 hr) (j_var (pv 0)) j_str) ja_nil)) (nomark _)) (js_one (js_ret (j_op oj_mod (j_callTy cj_int (by rfl) T.b_int bb_int (ja_cons (j_ixA (Room.u1 hr) (j_ixA (Room.u1 hr) (j_var (pv 0)) j_str) (j_var (pv 2))) ja_nil)) (j_var (pv 1))))) js_nil)
    (js_cons (js_set (i := 3) sc__law_next.nd rfl (by first | exact Or.inl rfl | exact Or.inr rfl) (j_op oj_mod (j_callTy cj_int (by rfl) T.b_int bb_int (ja_cons (j_op oj_mul (j_op oj_add (j_op oj_add (j_ixA (Room.u1 hr) (j_var (pv 0)) j_str) (j_op oj_mul j_int (j_var (pv 2)))) j_int) j_int) ja_nil)) j_int))
    (js_one (js_ret (j_op oj_mod (j_op oj_div (j_op oj_mod (j_callTy cj_int (by rfl) T.b_int bb_int (ja_cons (j_op oj_add (j_op oj_mul (j_var (pv 3)) (j_var (pv 3))) (j_var (pv 2))) ja_nil)) j_int) j_int) (j_var (pv 1)))))))))
abbrev s__law_pairs : Stmt := top 7
abbrev N__law_pairs : List Str := ["_law_draws_here", "_law_k"]
theorem sc__law_pairs : FnScope ["_law_draws_here", "_law_k"] ["_law_draws_here"] (defScope s__law_pairs) := ⟨rfl, rfl, rfl, by decide +kernel, rfl, by decide +kernel, by decide +kernel⟩
theorem ok__law_pairs (T : Tx K mg) {k : Nat} {f : Addr} {fd : FuncData} (F : Fun K "_law_pairs" "_law_pairs" s__law_pairs f fd) {c__law_next : DF} {f__law_next : Addr} {fd__law_next : FuncData} (D__law_next : DefAt K mg "_law_next" f__law_next fd__law_next ["_law_draws_here", "_law_many"]) (G__law_next : FnD P w K mg base cl k f__law_next fd__law_next ["_law_draws_here", "_law_many"] c__law_next) :
    FnD P w K mg base cl (k + 1) f fd ["_law_draws_here"] (F__law_pairs c__law_next) :=
  FnD.of F sc__law_pairs fun cdv A outer s H E hr => (js_one (js_ret (j_callTy cj_tuple (by rfl) T.b_tuple bb_tuple (ja_cons (j_lc (own := [("_law_k", 1)]) (tg := .one 1) rfl sc__law_pairs.nd (ji_rng1 (by rfl) T.b_range (ja_cons (j_call pass_def G__law_next hr (by rfl) D__law_next.mgf D__law_next.kp D__law_next.bi (ja_cons (j_var (pv 0)) (ja_cons j_int ja_nil))) ja_nil)) (blkOk_by (N := N__law_pairs) (sc := defScope s__law_pairs) (by decide +kernel)) (by decide) (fun _ _ _ _ _ => pg_name (i := 1) sc__law_pairs.nd rfl (by first | exact Or.inl rfl | exact Or.inr rfl)) (fun _ _ _ _ _ => jts_nil) (fun _ _ _ _ _ => (j_tup (ja_cons (j_call pass_blk G__law_next hr (by rfl) D__law_next.mgf D__law_next.kp D__law_next.bi (ja_cons (j_var (pv 0)) (ja_cons j_int ja_nil))) (ja_cons (j_call pass_blk G__law_next hr (by rfl) D__law_next.mgf D__law_next.kp D__law_next.bi (ja_cons (j_var (pv 0)) (ja_cons j_int ja_nil))) ja_nil))))) ja_nil))))
abbrev s__law_due : Stmt := top 8
abbrev N__law_due : List Str := ["_law_first", "_law_second", "_law_at"]
theorem sc__law_due : FnScope ["_law_first", "_law_second", "_law_at"] ["_law_first", "_law_second"] (defScope s__law_due) := ⟨rfl, rfl, rfl, by decide +kernel, rfl, by decide +kernel, by decide +kernel⟩
theorem ok__law_due (T : Tx K mg) {k : Nat} {f : Addr} {fd : FuncData} (F : Fun K "_law_due" "_law_due" s__law_due f fd) :
    FnD P w K mg base cl (k + 1) f fd ["_law_first", "_law_second"] (F__law_due) :=
  FnD.of F sc__law_due fun cdv A outer s H E hr => (js_cons (js_set (i := 2) sc__law_due.nd rfl (by first | exact Or.inl rfl | exact Or.inr rfl) j_int)
    (js_cons (js_while cx_def (j_w (j_and (j_tcmp oj_lt (j_var (pv 2)) (j_callB cj_len (by rfl) T.b_len bb_len (ja_cons (j_var (pv 0)) ja_nil)) (nomark _)) (j_and (j_tcmp oj_lt (j_var (pv 2)) (j_callB cj_len (by rfl) T.b_len bb_len (ja_cons (j_var (pv 1)) ja_nil)) (nomark _)) (j_and1 (j_tcmp (oj_eq (Room.u64 hr)) (j_ixA (Room.u1 hr) (j_var (pv 0)) (j_var (pv 2))) (j_ixA (Room.u1 hr) (j_var (pv 1)) (j_var (pv 2))) (nomark _)))))) (js_one (js_set (i := 2) sc__law_due.nd rfl (by first | exact Or.inl rfl | exact Or.inr rfl) (j_op oj_add (j_var (pv 2)) j_int))))
    (js_cons (js_if (j_w (j_or (j_tcmp oj_ge (j_var (pv 2)) (j_callB cj_len (by rfl) T.b_len bb_len (ja_cons (j_var (pv 0)) ja_nil)) (nomark _)) (j_or1 (j_tcmp oj_ge (j_var (pv 2)) (j_callB cj_len (by rfl) T.b_len bb_len (ja_cons (j_var (pv 1)) ja_nil)) (nomark _))))) (js_one (js_ret j_bl)) js_nil)
    (js_one (js_ret (j_vand (j_cmp (oj_eq (Room.u64 hr)) (j_ixA (Room.u1 hr) (j_ixA (Room.u1 hr) (j_var (pv 0)) (j_var (pv 2))) j_int) (j_ixA (Room.u1 hr) (j_ixA (Room.u1 hr) (j_var (pv 1)) (j_var (pv 2))) j_int) (nomark _)) (j_vone (j_cmp (oj_ne (Room.u64 hr)) (j_ixA (Room.u1 hr) (j_ixA (Room.u1 hr) (j_var (pv 0)) (j_var (pv 2))) j_int) (j_ixA (Room.u1 hr) (j_ixA (Room.u1 hr) (j_var (pv 1)) (j_var (pv 2))) j_int) (nomark _)))))))))
abbrev s_law : Stmt := top 9
abbrev N_law : List Str := ["_law_script", "_law_draws_here", "_law_turn", "_law_first", "_law_cut", "_law_second", "_law_due_here", "_law_schedule", "_law_k", "_law_many", "_law_at"]
theorem sc_law : FnScope ["_law_script", "_law_draws_here", "_law_turn", "_law_first", "_law_cut", "_law_second", "_law_due_here", "_law_schedule", "_law_k", "_law_many", "_law_at"] ["_law_script"] (defScope s_law) := ⟨rfl, rfl, rfl, by decide +kernel, rfl, by decide +kernel, by decide +kernel⟩
theorem ok_law (T : Tx K mg) {k : Nat} {f : Addr} {fd : FuncData} (F : Fun K "law" "law" s_law f fd) {c__law_reader : DF} {f__law_reader : Addr} {fd__law_reader : FuncData} (D__law_reader : DefAt K mg "_law_reader" f__law_reader fd__law_reader ["_law_script"]) (G__law_reader : FnD P w K mg base cl k f__law_reader fd__law_reader ["_law_script"] c__law_reader) {c__law_pairs : DF} {f__law_pairs : Addr} {fd__law_pairs : FuncData} (D__law_pairs : DefAt K mg "_law_pairs" f__law_pairs fd__law_pairs ["_law_draws_here"]) (G__law_pairs : FnD P w K mg base cl k f__law_pairs fd__law_pairs ["_law_draws_here"] c__law_pairs) {c__law_next : DF} {f__law_next : Addr} {fd__law_next : FuncData} (D__law_next : DefAt K mg "_law_next" f__law_next fd__law_next ["_law_draws_here", "_law_many"]) (G__law_next : FnD P w K mg base cl k f__law_next fd__law_next ["_law_draws_here", "_law_many"] c__law_next) {c__law_due : DF} {f__law_due : Addr} {fd__law_due : FuncData} (D__law_due : DefAt K mg "_law_due" f__law_due fd__law_due ["_law_first", "_law_second"]) (G__law_due : FnD P w K mg base cl k f__law_due fd__law_due ["_law_first", "_law_second"] c__law_due) {c_unordered : DF} {f_unordered : Addr} {fd_unordered : FuncData} (D_unordered : DefAt K mg "unordered" f_unordered fd_unordered ["first", "second"]) (G_unordered : FnD P w K mg base cl k f_unordered fd_unordered ["first", "second"] c_unordered) {c_picked : DF} {f_picked : Addr} {fd_picked : FuncData} (D_picked : DefAt K mg "picked" f_picked fd_picked ["schedule", "at", "many"]) (G_picked : FnD P w K mg base cl k f_picked fd_picked ["schedule", "at", "many"] c_picked) :
    FnD P w K mg base cl (k + 1) f fd ["_law_script"] (F_law c__law_reader c__law_pairs c__law_next c__law_due c_unordered c_picked) :=
  FnD.of F sc_law fun cdv A outer s H E hr => (js_cons (js_set (i := 1) sc_law.nd rfl (by first | exact Or.inl rfl | exact Or.inr rfl) (j_call pass_def G__law_reader hr (by rfl) D__law_reader.mgf D__law_reader.kp D__law_reader.bi (ja_cons (j_var (pv 0)) ja_nil)))
    (js_cons (js_for cx_def (ji_rng1 (by rfl) T.b_range (ja_cons j_int ja_nil)) (jg_name (pg_name (i := 2) sc_law.nd rfl (by first | exact Or.inl rfl | exact Or.inr rfl))) (js_cons (js_set (i := 3) sc_law.nd rfl (by first | exact Or.inl rfl | exact Or.inr rfl) (j_call pass_def G__law_pairs hr (by rfl) D__law_pairs.mgf D__law_pairs.kp D__law_pairs.bi (ja_cons (j_var (pv 1)) ja_nil)))
    (js_cons (js_set (i := 4) sc_law.nd rfl (by first | exact Or.inl rfl | exact Or.inr rfl) (j_call pass_def G__law_next hr (by rfl) D__law_next.mgf D__law_next.kp D__law_next.bi (ja_cons (j_var (pv 1)) (ja_cons (j_op oj_add (j_callB cj_len (by rfl) T.b_len bb_len (ja_cons (j_var (pv 3)) ja_nil)) j_int) ja_nil))))
    (js_cons (js_set (i := 5) sc_law.nd rfl (by first | exact Or.inl rfl | exact Or.inr rfl) (j_op oj_add (j_slice (j_var (pv 3)) jo_none (jo_some (j_var (pv 4)))) (j_call pass_def G__law_pairs hr (by rfl) D__law_pairs.mgf D__law_pairs.kp D__law_pairs.bi (ja_cons (j_var (pv 1)) ja_nil))))
    (js_cons (js_set (i := 6) sc_law.nd rfl (by first | exact Or.inl rfl | exact Or.inr rfl) (j_call pass_def G__law_due hr (by rfl) D__law_due.mgf D__law_due.kp D__law_due.bi (ja_cons (j_var (pv 3)) (ja_cons (j_var (pv 5)) ja_nil))))
    (js_cons (js_if (j_w (j_or (j_tcmp (oj_ne (Room.u64 hr)) (j_call pass_def G_unordered hr (by rfl) D_unordered.mgf D_unordered.kp D_unordered.bi (ja_cons (j_var (pv 3)) (ja_cons (j_var (pv 5)) ja_nil))) (j_var (pv 6)) (nomark _)) (j_or (j_tcmp (oj_ne (Room.u64 hr)) (j_call pass_def G_unordered hr (by rfl) D_unordered.mgf D_unordered.kp D_unordered.bi (ja_cons (j_var (pv 5)) (ja_cons (j_var (pv 3)) ja_nil))) (j_var (pv 6)) (nomark _)) (j_or1 (j_tcmp oj_isNot (j_call pass_def G_unordered hr (by rfl) D_unordered.mgf D_unordered.kp D_unordered.bi (ja_cons (j_var (pv 3)) (ja_cons (j_var (pv 3)) ja_nil))) j_bl (nomark _)))))) (js_one (js_ret j_bl)) js_nil)
    (js_cons (js_set (i := 7) sc_law.nd rfl (by first | exact Or.inl rfl | exact Or.inr rfl) (j_callTy cj_tuple (by rfl) T.b_tuple bb_tuple (ja_cons (j_lc (own := [("_law_k", 8)]) (tg := .one 8) rfl sc_law.nd (ji_rng1 (by rfl) T.b_range (ja_cons (j_call pass_def G__law_next hr (by rfl) D__law_next.mgf D__law_next.kp D__law_next.bi (ja_cons (j_var (pv 1)) (ja_cons j_int ja_nil))) ja_nil)) (blkOk_by (N := N_law) (sc := defScope s_law) (by decide +kernel)) (by decide) (fun _ _ _ _ _ => pg_name (i := 8) sc_law.nd rfl (by first | exact Or.inl rfl | exact Or.inr rfl)) (fun _ _ _ _ _ => jts_nil) (fun _ _ _ _ _ => (j_call pass_blk G__law_next hr (by rfl) D__law_next.mgf D__law_next.kp D__law_next.bi (ja_cons (j_var (pv 1)) (ja_cons j_int ja_nil))))) ja_nil)))
    (js_cons (js_set (i := 9) sc_law.nd rfl (by first | exact Or.inl rfl | exact Or.inr rfl) (j_op oj_add j_int (j_call pass_def G__law_next hr (by rfl) D__law_next.mgf D__law_next.kp D__law_next.bi (ja_cons (j_var (pv 1)) (ja_cons j_int ja_nil)))))
    (js_one (js_for cx_def (ji_rng1 (by rfl) T.b_range (ja_cons j_int ja_nil)) (jg_name (pg_name (i := 10) sc_law.nd rfl (by first | exact Or.inl rfl | exact Or.inr rfl))) (js_cons (js_set (i := 6) sc_law.nd rfl (by first | exact Or.inl rfl | exact Or.inr rfl) j_int)
    (js_cons (js_if (j_tcmp oj_lt (j_var (pv 10)) (j_callB cj_len (by rfl) T.b_len bb_len (ja_cons (j_var (pv 7)) ja_nil)) (nomark _)) (js_one (js_set (i := 6) sc_law.nd rfl (by first | exact Or.inl rfl | exact Or.inr rfl) (j_op oj_sub (j_ixA (Room.u1 hr) (j_var (pv 7)) (j_var (pv 10))) (j_op oj_mul (j_op oj_div (j_ixA (Room.u1 hr) (j_var (pv 7)) (j_var (pv 10))) (j_var (pv 9))) (j_var (pv 9)))))) js_nil)
    (js_one (js_if (j_tcmp (oj_ne (Room.u64 hr)) (j_call pass_def G_picked hr (by rfl) D_picked.mgf D_picked.kp D_picked.bi (ja_cons (j_var (pv 7)) (ja_cons (j_var (pv 10)) (ja_cons (j_var (pv 9)) ja_nil)))) (j_var (pv 6)) (nomark _)) (js_one (js_ret j_bl)) js_nil))))))))))))))
    (js_one (js_ret j_bl))))
end
end K21

namespace K21
open PySem PySem.Spec PyProof.Rows L2 DL
local macro_rules | `(tactic| walk_at "ev") => `(tactic| simp only [*, DR.rdOb, dSeq, dAsg, dIfS, dRet, dRetN, dNext, dDrop, dVar, dC, dBin, dTst, dTru, dNotT, dAndT, dOrT, dAndV, dOrV, dNotV, dIf, dChain, dNil, dCons, dTup, dLst, dNew, dApp, dNeg, gN, R.bind, R.stm, R.tru, R.opt, R.fin, dPutA, sPutA, sPutK, dDisp, dPNil, dPCons, dFor, iRng1D,
  dIxA, dIx, dGetK, dicOf, keyOf, seqOf, cLen, cAbs, cMin2, cMax2, cInt, cTuple, cIsi, tyNm, dLtI, dLeI, dGtI, dGeI, cmpI, opI2, dAdd, dSub, dMul, dDiv, dMod, dPow, dBMT, isT, mAppend, truD, List.getElem?_cons_zero, List.getElem?_cons_succ, List.set_cons_zero, List.set_cons_succ, if_true, if_false, Bool.false_eq_true, Option.isSome_some, Option.isSome_none, valD, putD, setD, mergeD,
  Sum.inr.injEq, ofStr_inj, String.reduceEq, sizeLine_eq, List.length_cons, List.length_nil, List.length_map, Nat.reduceAdd, Nat.reduceLT, Nat.reduceLeDiff, decide_true, decide_false, decide_eq_true_eq, Bool.and_eq_true, and_true, true_and, and_self, Int.reduceLT, Int.reduceLE, Int.reducePow, Int.reduceNeg, Bool.true_and, Bool.and_true, beq_self_eq_true, dInA, dIn, dq_int, dq_bl, dIs, flatD, inD, List.any_cons, List.any_nil, eqF, List.all_cons, List.all_nil, isTy, dComp, dSl, dNoPart, dPart, dCut, iZipD, gTupN, gNames, Int.cast_ofNat_Int, Int.natCast_zero, Int.natCast_one, Bool.true_or, Bool.or_true, Bool.false_or, Bool.or_false, Bool.not_true, Bool.not_false, Bool.true_xor, Bool.false_xor, Bool.xor_true, Bool.xor_false, Bool.false_and, Bool.and_false, String.reduceBEq, Bool.not_not, reduceCtorEq, Bool.true_eq_false, Bool.false_eq_true])

theorem reader_eq {st : Sto} {ns : List Int} (hn : ns.length ≤ 63) : ∃ row seed, F__law_reader (trimF F__law_draws) [.fro (ns.map .int)] st = .ok (.ref st.length) (st ++ [DR.rdOb row 0 seed]) ∧ DR.Good row ∧ 0 ≤ seed ∧ seed < 1000003 := DR.reader_eq hn
theorem next_rd {st : Sto} {n b : Nat} {m : Int} (h : DR.Rd st n b) (hb : b ≤ 1000000000) (hm : 0 < m) : ∃ v o, F__law_next [.ref n, .int m] st = .ok (.int v) (st.set n o) ∧ 0 ≤ v ∧ v < m ∧ DR.Rd (st.set n o) n (b + 1) := DR.next_rd h hb hm
/-! ### pairs -/
def pD (p : Int × Int) : D := .tup [.int p.1, .int p.2]
theorem dq_pD {neg : Bool} {p q : Int × Int} {st : Sto} : dEq neg (pD p) (pD q) st = .ok (.bl (neg ^^ decide (p = q))) st := by
  show R.ok (D.bl (neg ^^ (p.1 == q.1 && (p.2 == q.2 && true)))) st = _
  have e : (p.1 == q.1 && (p.2 == q.2 && true)) = decide (p = q) := by
    rw [Bool.eq_iff_iff]
    simp [Prod.ext_iff]
  rw [e]
theorem at_pD {ps : List (Int × Int)} {k : Nat} (h : k < ps.length) : atI (ps.map pD) (k : Int) = some (pD (ps.getD k (0, 0))) := by
  refine atI_nat ?_
  rw [List.getElem?_map, List.getElem?_eq_getElem h]
  simp [h]
/-! ### unordered -/
def un : List (Int × Int) → List (Int × Int) → Bool
  | x :: a, y :: b => if x = y then un a b else decide (x.1 = y.1)
  | _, _ => false
theorem un_comm : ∀ a b, un a b = un b a
  | [], [] => rfl
  | [], _ :: _ => rfl
  | _ :: _, [] => rfl
  | x :: a, y :: b => by
    unfold un
    by_cases h : x = y
    · rw [if_pos h, if_pos h.symm]; exact un_comm a b
    · rw [if_neg h, if_neg (fun e => h e.symm)]
      by_cases h2 : x.1 = y.1
      · rw [decide_eq_true h2, decide_eq_true h2.symm]
      · rw [decide_eq_false h2, decide_eq_false (fun e => h2 e.symm)]
theorem un_self : ∀ a, un a a = false
  | [] => rfl
  | x :: a => by unfold un; rw [if_pos rfl]; exact un_self a
theorem un_loop {st : Sto} {a b : Option D} : ∀ (ps qs : List (Int × Int)) (c d : Option D), ∃ fl τ', forL (gTupN [2, 3]) d_unordered_L1 (zipD (ps.map pD) (qs.map pD)) [a, b, c, d] st = .ok (fl, τ') st ∧
    ((fl = .nx ∧ un ps qs = false) ∨ fl = .rt (.bl (un ps qs)))
  | [], qs, c, d => by
    refine ⟨.nx, [a, b, c, d], ?_, .inl ⟨rfl, by unfold un; rfl⟩⟩
    cases qs <;> rfl
  | _ :: _, [], c, d => ⟨.nx, [a, b, c, d], rfl, .inl ⟨rfl, by unfold un; rfl⟩⟩
  | x :: ps, y :: qs, c, d => by
    have step : forL (gTupN [2, 3]) d_unordered_L1 (zipD ((x :: ps).map pD) ((y :: qs).map pD)) [a, b, c, d] st = (d_unordered_L1 [a, b, some (pD x), some (pD y)] st).turn fun τ st => forL (gTupN [2, 3]) d_unordered_L1 (zipD (ps.map pD) (qs.map pD)) τ st := rfl
    rw [step]
    have e := @dq_pD true x y st
    have a1 : atI [D.int x.1, D.int x.2] (0 : Int) = some (.int x.1) := rfl
    have a2 : atI [D.int y.1, D.int y.2] (0 : Int) = some (.int y.1) := rfl
    by_cases h : x = y
    · obtain ⟨fl, τ', h1, h2⟩ := un_loop (st := st) (a := a) (b := b) ps qs (some (pD x)) (some (pD y))
      refine ⟨fl, τ', ?_, ?_⟩
      · have hb : d_unordered_L1 [a, b, some (pD x), some (pD y)] st = .ok (.nx, [a, b, some (pD x), some (pD y)]) st := by
          unfold d_unordered_L1
          rw [decide_eq_true h] at e
          clear h h1 h2 step a1 a2
          walk_at "ev"
        rw [hb]
        exact h1
      · unfold un
        rw [if_pos h]
        exact h2
    · refine ⟨.rt (.bl (un (x :: ps) (y :: qs))), [a, b, some (pD x), some (pD y)], ?_, .inr rfl⟩
      have hb : d_unordered_L1 [a, b, some (pD x), some (pD y)] st = .ok (.rt (.bl (un (x :: ps) (y :: qs))), [a, b, some (pD x), some (pD y)]) st := by
        unfold d_unordered_L1 un
        rw [decide_eq_false h] at e
        rw [if_neg h]
        have p1 : dicOf (pD x) st = none := rfl
        have p2 : dicOf (pD y) st = none := rfl
        have p3 : seqOf (pD x) st = some [D.int x.1, D.int x.2] := rfl
        have p4 : seqOf (pD y) st = some [D.int y.1, D.int y.2] := rfl
        unfold pD at *
        walk_at "ev"
      rw [hb]
theorem unordered_eq {st : Sto} {ps qs : List (Int × Int)} : F_unordered [.tup (ps.map pD), .tup (qs.map pD)] st = .ok (.bl (un ps qs)) st := by
  obtain ⟨fl, τ', h1, h2⟩ := un_loop (st := st) (a := some (.tup (ps.map pD))) (b := some (.tup (qs.map pD))) ps qs none none
  unfold F_unordered d_unordered
  refine (def_go rfl).trans ?_
  rw [show startD 4 [D.tup (ps.map pD), D.tup (qs.map pD)] = [some (D.tup (ps.map pD)), some (D.tup (qs.map pD)), none, none] from rfl]
  rcases h2 with ⟨rfl, h2⟩ | rfl
  · walk_at "ev"
  · walk_at "ev"
/-! ### what is due -/
theorem W1_eq {ps qs : List (Int × Int)} {k : Nat} {s : Sto} : d__law_due_W1 [some (.tup (ps.map pD)), some (.tup (qs.map pD)), some (.int k)] s = .ok (decide (k < ps.length ∧ k < qs.length ∧ ps.getD k (0, 0) = qs.getD k (0, 0))) s := by
  unfold d__law_due_W1
  by_cases a1 : k < ps.length
  · by_cases a2 : k < qs.length
    · have e1 := at_pD a1
      have e2 := at_pD a2
      have e3 := @dq_pD false (ps.getD k (0, 0)) (qs.getD k (0, 0)) s
      have b1 : (k : Int) < (ps.length : Int) := by omega
      have b2 : (k : Int) < (qs.length : Int) := by omega
      walk_at "ev"
    · have b1 : (k : Int) < (ps.length : Int) := by omega
      have b2 : ¬ (k : Int) < (qs.length : Int) := by omega
      walk_at "ev"
      rw [decide_eq_false (fun h => h.1)]
  · have b1 : ¬ (k : Int) < (ps.length : Int) := by omega
    walk_at "ev"
    rw [decide_eq_false (fun h => h.1)]
theorem due_eq {st : Sto} {ps qs : List (Int × Int)} (hp : ps.length ≤ 100) : F__law_due [.tup (ps.map pD), .tup (qs.map pD)] st = .ok (.bl (un ps qs)) st := by
  obtain ⟨τ', st', st1, h1, ⟨k, rfl, rfl, h3, h4, h5⟩, h6⟩ := while_inv (c := d__law_due_W1) (body := d__law_due_L1) (τ := [some (.tup (ps.map pD)), some (.tup (qs.map pD)), some (.int 0)]) (st := st)
    (fun τ s => ∃ k : Nat, τ = [some (.tup (ps.map pD)), some (.tup (qs.map pD)), some (.int k)] ∧ s = st ∧ k ≤ ps.length ∧ k ≤ qs.length ∧ un ps qs = un (ps.drop k) (qs.drop k))
    (fun τ _ => match τ with | [_, _, some (.int k)] => (ps.length - k).toNat | _ => 0) ⟨0, rfl, rfl, Nat.zero_le _, Nat.zero_le _, rfl⟩ (by show ((ps.length : Int) - 0).toNat < 1000000000; omega) (by
      rintro τ s ⟨k, rfl, rfl, h3, h4, h5⟩
      refine ⟨_, s, W1_eq, ?_, fun _ => ⟨k, rfl, rfl, h3, h4, h5⟩⟩
      intro hb
      obtain ⟨a1, a2, a3⟩ := of_decide_eq_true hb
      refine ⟨.nx, [some (.tup (ps.map pD)), some (.tup (qs.map pD)), some (.int ((k : Int) + 1))], s, ?_, .inl rfl, ⟨k + 1, rfl, rfl, a1, a2, ?_⟩, ?_⟩
      · unfold d__law_due_L1
        clear h5
        walk_at "ev"
      · rw [h5, List.drop_eq_getElem_cons a1, List.drop_eq_getElem_cons a2]
        rw [un, if_pos]
        simpa [List.getD, List.getElem?_eq_getElem a1, List.getElem?_eq_getElem a2] using a3
      · show ((ps.length : Int) - ((k : Int) + 1)).toNat < ((ps.length : Int) - (k : Int)).toNat
        omega)
  rw [W1_eq] at h6
  have h6 := of_decide_eq_false (R.ok.inj h6).1
  unfold F__law_due d__law_due
  refine (def_go rfl).trans ?_
  rw [show startD 3 [D.tup (ps.map pD), D.tup (qs.map pD)] = [some (D.tup (ps.map pD)), some (D.tup (qs.map pD)), none] from rfl]
  by_cases a1 : k < ps.length
  · by_cases a2 : k < qs.length
    · have e1 := at_pD a1
      have e2 := at_pD a2
      have b3 : ¬ (ps.length : Int) ≤ (k : Int) := by omega
      have b4 : ¬ (qs.length : Int) ≤ (k : Int) := by omega
      rw [List.drop_eq_getElem_cons a1, List.drop_eq_getElem_cons a2] at h5
      have g1 : ps[k] = ps.getD k (0, 0) := by simp [List.getD, a1]
      have g2 : qs[k] = qs.getD k (0, 0) := by simp [List.getD, a2]
      rw [g1, g2] at h5
      generalize ps.getD k (0, 0) = x at *
      generalize qs.getD k (0, 0) = y at *
      have hne : ¬ x = y := fun hxy => h6 ⟨a1, a2, hxy⟩
      rw [un, if_neg hne] at h5
      have q1 : atI [D.int x.1, D.int x.2] (0 : Int) = some (.int x.1) := rfl
      have q2 : atI [D.int y.1, D.int y.2] (0 : Int) = some (.int y.1) := rfl
      have q3 : atI [D.int x.1, D.int x.2] (1 : Int) = some (.int x.2) := rfl
      have q4 : atI [D.int y.1, D.int y.2] (1 : Int) = some (.int y.2) := rfl
      rw [h5]
      clear h5 h6 g1 g2 a1 a2 h3 h4 hp
      unfold pD at e1 e2 h1 ⊢
      by_cases c1 : x.1 = y.1
      · have c2 : ¬ x.2 = y.2 := fun e => hne (Prod.ext c1 e)
        have c3 : decide (x.1 = y.1) = true := decide_eq_true c1
        have c4 : decide (x.2 = y.2) = false := decide_eq_false c2
        clear c1 c2 hne
        walk_at "ev"
      · walk_at "ev"
    · have b2 : (qs.length : Int) ≤ (k : Int) := by omega
      have b3 : ¬ (ps.length : Int) ≤ (k : Int) := by omega
      have hu : un ps qs = false := by
        rw [h5, List.drop_eq_nil_of_le (show qs.length ≤ k by omega)]
        cases ps.drop k <;> rfl
      clear h5 h6
      walk_at "ev"
  · have b3 : (ps.length : Int) ≤ (k : Int) := by omega
    have hu : un ps qs = false := by
      rw [h5, List.drop_eq_nil_of_le (show ps.length ≤ k by omega)]
      rfl
    clear h5 h6
    walk_at "ev"
/-! ### picked -/
theorem picked_eq {st : Sto} {ns : List Int} {k : Nat} {m : Int} (hm : 0 < m) : F_picked [.tup (ns.map .int), .int k, .int m] st = .ok (.int (if k < ns.length then ns.getD k 0 % m else 0)) st := by
  unfold F_picked d_picked
  refine (def_go rfl).trans ?_
  rw [show startD 3 [D.tup (ns.map .int), D.int k, D.int m] = [some (D.tup (ns.map .int)), some (.int k), some (.int m)] from rfl]
  by_cases h : k < ns.length
  · have e := atI_map h
    have h1 : (k : Int) < (ns.length : Int) := by omega
    walk_at "ev"
  · have h1 : ¬ (k : Int) < (ns.length : Int) := by omega
    walk_at "ev"
/-! ### drawn pairs -/
theorem pairs_eq {st : Sto} {b : Nat} (hr : DR.Rd st 0 b) (hb : b ≤ 100000) : ∃ ps st', F__law_pairs F__law_next [.ref 0] st = .ok (.tup ((ps : List (Int × Int)).map pD)) st' ∧ ps.length ≤ 4 ∧ DR.Rd st' 0 (b + 9) := by
  obtain ⟨v1, o1, h1, p1, q1, r1⟩ := next_rd (m := 5) hr (by omega) (by omega)
  obtain ⟨m, rfl⟩ : ∃ m : Nat, v1 = m := ⟨v1.toNat, by omega⟩
  obtain ⟨out, st2, h2, hl, ps, rfl, r2⟩ := compL_inv (j := 1) (te := d__law_pairs_C1 F__law_next) (τ := [some (.ref 0), none]) (ds := rng 0 (m : Int)) (st := st.set 0 o1)
    (fun i acc st' => ∃ ps, acc = (ps : List (Int × Int)).map pD ∧ DR.Rd st' 0 (b + 1 + 2 * i)) ⟨[], rfl, r1⟩ (by rw [rng_len, sizeLine_eq]; omega) (by
      rintro i x acc st' hx _ ⟨ps, rfl, hr'⟩
      have hi : i < 4 := by
        have := (List.getElem?_eq_some_iff.mp hx).1
        rw [rng_len] at this
        omega
      obtain ⟨v1, o1, h1, p1, q1, r1⟩ := next_rd (m := 5) hr' (by omega) (by omega)
      obtain ⟨v2, o2, h2, p2, q2, r2⟩ := next_rd (m := 2) r1 (by omega) (by omega)
      refine ⟨pD (v1, v2), _, ?_, ps ++ [(v1, v2)], by rw [List.map_append]; rfl, r2.mono (by omega)⟩
      unfold d__law_pairs_C1 pD
      walk_at "ev")
  rw [rng_len] at hl r2
  have hm : ((m : Int) - 0).toNat = m := by omega
  rw [hm] at hl r2
  rw [List.length_map] at hl
  refine ⟨ps, st2, ?_, by omega, r2.mono (by omega)⟩
  have hb4 : (-4611686018427387904 : Int) ≤ (m : Int) ∧ (m : Int) < 4611686018427387904 := by omega
  have hw : wipeD [some (.ref 0), none] [1] = [some (D.ref 0), none] := rfl
  unfold F__law_pairs d__law_pairs
  refine (def_go rfl).trans ?_
  rw [show startD 2 [D.ref 0] = [some (D.ref 0), none] from rfl]
  walk_at "ev"
/-! ### the law -/
noncomputable abbrev cRd : DF := F__law_reader (trimF F__law_draws)
noncomputable abbrev cPs : DF := F__law_pairs F__law_next
theorem L1_eq {st : Sto} {a r t f c s e k : Option D} {ns : List Int} {m : Int} {i : Nat} (hm : 0 < m) (hm2 : m < 100) (hn : ∀ z ∈ ns, 0 ≤ z ∧ z < 100) :
    ∃ e', d_law_L1 cRd cPs F__law_next F__law_due F_unordered F_picked [a, r, t, f, c, s, e, some (.tup (ns.map .int)), k, some (.int m), some (.int i)] st = .ok (.nx, [a, r, t, f, c, s, e', some (.tup (ns.map .int)), k, some (.int m), some (.int i)]) st := by
  have pk := picked_eq (st := st) (ns := ns) (k := i) hm
  have lg : m.natAbs.log2 < 9000 := by have := log2_small (a := m) (by omega); omega
  by_cases h : i < ns.length
  · have e1 := atI_map h
    have h1 : (i : Int) < (ns.length : Int) := by omega
    rw [if_pos h] at pk
    have hz : 0 ≤ ns.getD i 0 ∧ ns.getD i 0 < 100 := by
      have : ns.getD i 0 = ns[i] := by simp [List.getD, h]
      rw [this]
      exact hn _ (List.getElem_mem h)
    generalize ns.getD i 0 = z at *
    have e2 : z % m = z - z / m * m := by have := Int.emod_add_mul_ediv z m; rw [Int.mul_comm] at this; omega
    have dm : 0 ≤ z / m ∧ z / m ≤ z := ⟨Int.ediv_nonneg hz.1 (by omega), Int.ediv_le_self _ hz.1⟩
    have m1 : (z / m).natAbs.log2 + m.natAbs.log2 < 1000000 := mul_lt (by omega) (by omega)
    rw [e2] at pk
    refine ⟨some (.int (z - z / m * m)), ?_⟩
    unfold d_law_L1 d_law_R1
    clear e2 hn
    walk_at "ev"
  · have h1 : ¬ (i : Int) < (ns.length : Int) := by omega
    rw [if_neg h] at pk
    refine ⟨some (.int 0), ?_⟩
    unfold d_law_L1 d_law_R1
    clear hn
    walk_at "ev"
theorem L2_law {a t f c s e n k m0 i d : Option D} {st : Sto} {b : Nat} (hr : DR.Rd st 0 b) (hb : b ≤ 10000) :
    ∃ τ' st', d_law_L2 cRd cPs F__law_next F__law_due F_unordered F_picked [a, some (.ref 0), d, f, c, s, e, n, k, m0, i] st = .ok (.nx, τ') st' ∧ (∃ f c s e n k m i, τ' = [a, some (.ref 0), d, f, c, s, e, n, k, m, i]) ∧ DR.Rd st' 0 (b + 40) := by
  obtain ⟨ps, s1, h1, l1, r1⟩ := pairs_eq hr (by omega)
  obtain ⟨v1, o1, h2, p1, q1, r2⟩ := next_rd (m := (ps.length : Int) + 1) r1 (by omega) (by omega)
  obtain ⟨cut, rfl⟩ : ∃ m : Nat, v1 = m := ⟨v1.toNat, by omega⟩
  obtain ⟨qs, s2, h3, l3, r3⟩ := pairs_eq r2 (by omega)
  obtain ⟨qq, hq⟩ : ∃ qq : List (Int × Int), cutL (ps.map pD) none (some (cut : Int)) = qq.map pD := ⟨cutL ps none (some (cut : Int)), by unfold cutL; rw [List.map_take, List.map_drop, List.length_map]⟩
  have hq2 : qq.map pD ++ qs.map pD = (qq ++ qs).map pD := by rw [List.map_append]
  have hq3 : qq.length ≤ 4 := by
    have := congrArg List.length hq
    unfold cutL at this
    simp only [List.length_map, List.length_take, List.length_drop] at this
    omega
  generalize qq ++ qs = ss at hq2
  have u1 := @due_eq s2 ps ss (by omega)
  have u2 := @unordered_eq s2 ps ss
  have u3 := @unordered_eq s2 ss ps
  have u4 := @unordered_eq s2 ps ps
  rw [un_comm ss ps] at u3
  rw [un_self] at u4
  generalize un ps ss = due at u1 u2 u3
  obtain ⟨v4, o4, h4, p4, q4, r4⟩ := next_rd (m := 6) r3 (by omega) (by omega)
  obtain ⟨m, rfl⟩ : ∃ m : Nat, v4 = m := ⟨v4.toNat, by omega⟩
  obtain ⟨out, s5, h5, hl, ns, rfl, hns, r5⟩ := compL_inv (j := 8) (te := d_law_C1 cRd cPs F__law_next F__law_due F_unordered F_picked) (τ := [a, some (.ref 0), d, some (.tup (ps.map pD)), some (.int cut), some (.tup (ss.map pD)), some (.bl due), n, none, m0, i]) (ds := rng 0 (m : Int)) (st := s2.set 0 o4)
    (fun i acc st' => ∃ ns, acc = (ns : List Int).map .int ∧ (∀ z ∈ ns, 0 ≤ z ∧ z < 100) ∧ DR.Rd st' 0 (b + 20 + i)) ⟨[], rfl, fun _ h => (List.not_mem_nil h).elim, r4.mono (by omega)⟩ (by rw [rng_len, sizeLine_eq]; omega) (by
      rintro i x acc st' hx _ ⟨ns, rfl, hns, hr'⟩
      have hi : i < 6 := by
        have := (List.getElem?_eq_some_iff.mp hx).1
        rw [rng_len] at this
        omega
      obtain ⟨v1, o1, h1, p1, q1, r1⟩ := next_rd (m := 50) hr' (by omega) (by omega)
      refine ⟨.int v1, _, ?_, ns ++ [v1], by rw [List.map_append]; rfl, ?_, r1⟩
      · unfold d_law_C1
        walk_at "ev"
      · intro z hz
        rcases List.mem_append.mp hz with w | w
        · exact hns z w
        · rw [List.mem_singleton.mp w]; omega)
  rw [rng_len] at r5
  have hm : ((m : Int) - 0).toNat = m := by omega
  rw [hm] at r5
  obtain ⟨v6, o6, h6, p6, q6, r6⟩ := next_rd (m := 6) r5 (by omega) (by omega)
  obtain ⟨τ', st', h7, e', i', rfl, rfl⟩ := forN_inv (j := 10) (body := d_law_L1 cRd cPs F__law_next F__law_due F_unordered F_picked) (ds := rng 0 8) (τ := [a, some (.ref 0), d, some (.tup (ps.map pD)), some (.int cut), some (.tup (ss.map pD)), some (.bl due), some (.tup (ns.map .int)), k, some (.int (1 + v6)), i]) (st := s5.set 0 o6)
    (fun _ τ st => ∃ e i, τ = [a, some (.ref 0), d, some (.tup (ps.map pD)), some (.int cut), some (.tup (ss.map pD)), e, some (.tup (ns.map .int)), k, some (.int (1 + v6)), i] ∧ st = s5.set 0 o6) ⟨_, _, rfl, rfl⟩ (by
      rintro i' x τ st hx ⟨e, i, rfl, rfl⟩
      have hd' : x = .int ((0 : Int) + (i' : Int)) := by
        have hi : i' < 8 := by
          have := (List.getElem?_eq_some_iff.mp hx).1
          rw [rng_len] at this
          exact this
        rw [rng_get (by simpa using hi)] at hx
        exact (Option.some.inj hx).symm
      subst hd'
      rw [Int.zero_add]
      obtain ⟨e', h⟩ := L1_eq (st := s5.set 0 o6) (a := a) (r := some (.ref 0)) (t := d) (f := some (.tup (ps.map pD))) (c := some (.int cut)) (s := some (.tup (ss.map pD))) (e := e) (k := k) (ns := ns) (m := 1 + v6) (i := i') (by omega) (by omega) hns
      exact ⟨_, _, _, h, .inl rfl, e', _, rfl, rfl⟩)
  refine ⟨[a, some (.ref 0), d, some (.tup (ps.map pD)), some (.int cut), some (.tup (ss.map pD)), e', some (.tup (ns.map .int)), k, some (.int (1 + v6)), i'], s5.set 0 o6, ?_, ⟨_, _, _, _, _, _, _, _, rfl⟩, r6.mono (by omega)⟩
  have hb4 : (-4611686018427387904 : Int) ≤ (m : Int) ∧ (m : Int) < 4611686018427387904 := by omega
  have hw : wipeD [a, some (.ref 0), d, some (.tup (ps.map pD)), some (.int cut), some (.tup (ss.map pD)), some (.bl due), n, k, m0, i] [8] = [a, some (.ref 0), d, some (.tup (ps.map pD)), some (.int cut), some (.tup (ss.map pD)), some (.bl due), n, none, m0, i] := rfl
  have l1' : qq.length + qs.length ≤ 16777216 := by omega
  have hne : (due == due) = true := by simp
  unfold d_law_L2 d_law_R2
  walk_at "ev"
noncomputable def LF : DF := F_law cRd cPs F__law_next F__law_due F_unordered F_picked
theorem law_ok : LawOk LF := fun ns hn _ => by
  obtain ⟨row, seed, h1, h2, h3, h4⟩ := reader_eq (st := []) hn
  obtain ⟨τ', st', h5, t, f, c, s, e, n, k, m, i, h6, h7⟩ := forN_inv (j := 2) (body := d_law_L2 cRd cPs F__law_next F__law_due F_unordered F_picked) (ds := rng 0 20) (τ := [some (.fro (ns.map .int)), some (.ref 0), none, none, none, none, none, none, none, none, none]) (st := [DR.rdOb row 0 seed])
    (fun i' τ st => ∃ t f c s e n k m i, τ = [some (.fro (ns.map .int)), some (.ref 0), t, f, c, s, e, n, k, m, i] ∧ DR.Rd st 0 (40 * i')) ⟨none, none, none, none, none, none, none, none, none, rfl, row, 0, seed, rfl, by omega, h3, h4⟩ (by
      rintro i' x τ st hd ⟨t, f, c, s, e, n, k, m, i, rfl, hr⟩
      have hi : i' < 20 := by
        have := (List.getElem?_eq_some_iff.mp hd).1
        rw [rng_len] at this
        exact this
      obtain ⟨τ', st', q1, ⟨f', c', s', e', n', k', m', i'', q2⟩, q3⟩ := L2_law (a := some (.fro (ns.map .int))) (t := t) (f := f) (c := c) (s := s) (e := e) (n := n) (k := k) (m0 := m) (i := i) (d := some x) hr (by omega)
      exact ⟨.nx, τ', st', q1, .inl rfl, some x, f', c', s', e', n', k', m', i'', q2, by rw [Nat.mul_add]; exact q3⟩)
  refine ⟨st', ?_⟩
  replace h1 : F__law_reader (trimF F__law_draws) [.fro (ns.map .int)] [] = .ok (.ref 0) [DR.rdOb row 0 seed] := h1
  unfold DR.rdOb at h1 h5
  unfold LF F_law
  refine (def_go rfl).trans ?_
  rw [show startD 11 [D.fro (ns.map .int)] = [some (D.fro (ns.map .int)), none, none, none, none, none, none, none, none, none, none] from rfl]
  unfold d_law
  walk_at "ev"
end K21

namespace K21
open PySem PySem.Spec PyProof.Rows L2 DL
theorem all_mk {P : Program} {w : World} {K : PySem.W.Frag} {h : Heap} {mg : Str → Option Value} {fa : Addr} (X : K.In h) (G : h.Ns mainGlobals mg) (hfa : mg "law" = some (.ref fa))
    {f_unordered : Addr} {od_unordered an_unordered : Option Addr} {sl_unordered : Array (Option Value)} {oc_unordered kV_unordered dc_unordered pm_unordered cd_unordered ct_unordered : Value}
    {f_picked : Addr} {od_picked an_picked : Option Addr} {sl_picked : Array (Option Value)} {oc_picked kV_picked dc_picked pm_picked cd_picked ct_picked : Value}
    {f__law_draws : Addr} {od__law_draws an__law_draws : Option Addr} {sl__law_draws : Array (Option Value)} {oc__law_draws kV__law_draws dc__law_draws pm__law_draws cd__law_draws ct__law_draws : Value}
    {f__law_reader : Addr} {od__law_reader an__law_reader : Option Addr} {sl__law_reader : Array (Option Value)} {oc__law_reader kV__law_reader dc__law_reader pm__law_reader cd__law_reader ct__law_reader : Value}
    {f__law_next : Addr} {od__law_next an__law_next : Option Addr} {sl__law_next : Array (Option Value)} {oc__law_next kV__law_next dc__law_next pm__law_next cd__law_next ct__law_next : Value}
    {f__law_pairs : Addr} {od__law_pairs an__law_pairs : Option Addr} {sl__law_pairs : Array (Option Value)} {oc__law_pairs kV__law_pairs dc__law_pairs pm__law_pairs cd__law_pairs ct__law_pairs : Value}
    {f__law_due : Addr} {od__law_due an__law_due : Option Addr} {sl__law_due : Array (Option Value)} {oc__law_due kV__law_due dc__law_due pm__law_due cd__law_due ct__law_due : Value}
    {f_law : Addr} {od_law an_law : Option Addr} {sl_law : Array (Option Value)} {oc_law kV_law dc_law pm_law cd_law ct_law : Value}
    (a_unordered : PySem.W.nsIn K mainGlobals "unordered" = some (some (.ref f_unordered)))
    (l_unordered : K.lookup f_unordered = some ⟨oc_unordered, od_unordered, .func (PySem.W.fnOf "unordered" "unordered" (defArgs s_unordered) (defBody s_unordered) (defScope s_unordered) .none kV_unordered dc_unordered pm_unordered an_unordered cd_unordered ct_unordered), sl_unordered⟩)
    (c_unordered : PySem.W.codeIn K cd_unordered "unordered" = true)
    (k_unordered : PySem.W.keepIn K (.ref f_unordered) = true)
    (a_picked : PySem.W.nsIn K mainGlobals "picked" = some (some (.ref f_picked)))
    (l_picked : K.lookup f_picked = some ⟨oc_picked, od_picked, .func (PySem.W.fnOf "picked" "picked" (defArgs s_picked) (defBody s_picked) (defScope s_picked) .none kV_picked dc_picked pm_picked an_picked cd_picked ct_picked), sl_picked⟩)
    (c_picked : PySem.W.codeIn K cd_picked "picked" = true)
    (k_picked : PySem.W.keepIn K (.ref f_picked) = true)
    (a__law_draws : PySem.W.nsIn K mainGlobals "_law_draws" = some (some (.ref f__law_draws)))
    (l__law_draws : K.lookup f__law_draws = some ⟨oc__law_draws, od__law_draws, .func (PySem.W.fnOf "_law_draws" "_law_draws" (defArgs s__law_draws) (defBody s__law_draws) (defScope s__law_draws) .none kV__law_draws dc__law_draws pm__law_draws an__law_draws cd__law_draws ct__law_draws), sl__law_draws⟩)
    (c__law_draws : PySem.W.codeIn K cd__law_draws "_law_draws" = true)
    (k__law_draws : PySem.W.keepIn K (.ref f__law_draws) = true)
    (a__law_reader : PySem.W.nsIn K mainGlobals "_law_reader" = some (some (.ref f__law_reader)))
    (l__law_reader : K.lookup f__law_reader = some ⟨oc__law_reader, od__law_reader, .func (PySem.W.fnOf "_law_reader" "_law_reader" (defArgs s__law_reader) (defBody s__law_reader) (defScope s__law_reader) .none kV__law_reader dc__law_reader pm__law_reader an__law_reader cd__law_reader ct__law_reader), sl__law_reader⟩)
    (c__law_reader : PySem.W.codeIn K cd__law_reader "_law_reader" = true)
    (k__law_reader : PySem.W.keepIn K (.ref f__law_reader) = true)
    (a__law_next : PySem.W.nsIn K mainGlobals "_law_next" = some (some (.ref f__law_next)))
    (l__law_next : K.lookup f__law_next = some ⟨oc__law_next, od__law_next, .func (PySem.W.fnOf "_law_next" "_law_next" (defArgs s__law_next) (defBody s__law_next) (defScope s__law_next) .none kV__law_next dc__law_next pm__law_next an__law_next cd__law_next ct__law_next), sl__law_next⟩)
    (c__law_next : PySem.W.codeIn K cd__law_next "_law_next" = true)
    (k__law_next : PySem.W.keepIn K (.ref f__law_next) = true)
    (a__law_pairs : PySem.W.nsIn K mainGlobals "_law_pairs" = some (some (.ref f__law_pairs)))
    (l__law_pairs : K.lookup f__law_pairs = some ⟨oc__law_pairs, od__law_pairs, .func (PySem.W.fnOf "_law_pairs" "_law_pairs" (defArgs s__law_pairs) (defBody s__law_pairs) (defScope s__law_pairs) .none kV__law_pairs dc__law_pairs pm__law_pairs an__law_pairs cd__law_pairs ct__law_pairs), sl__law_pairs⟩)
    (c__law_pairs : PySem.W.codeIn K cd__law_pairs "_law_pairs" = true)
    (k__law_pairs : PySem.W.keepIn K (.ref f__law_pairs) = true)
    (a__law_due : PySem.W.nsIn K mainGlobals "_law_due" = some (some (.ref f__law_due)))
    (l__law_due : K.lookup f__law_due = some ⟨oc__law_due, od__law_due, .func (PySem.W.fnOf "_law_due" "_law_due" (defArgs s__law_due) (defBody s__law_due) (defScope s__law_due) .none kV__law_due dc__law_due pm__law_due an__law_due cd__law_due ct__law_due), sl__law_due⟩)
    (c__law_due : PySem.W.codeIn K cd__law_due "_law_due" = true)
    (k__law_due : PySem.W.keepIn K (.ref f__law_due) = true)
    (a_law : PySem.W.nsIn K mainGlobals "law" = some (some (.ref f_law)))
    (l_law : K.lookup f_law = some ⟨oc_law, od_law, .func (PySem.W.fnOf "law" "law" (defArgs s_law) (defBody s_law) (defScope s_law) .none kV_law dc_law pm_law an_law cd_law ct_law), sl_law⟩)
    (c_law : PySem.W.codeIn K cd_law "law" = true)
    (k_law : PySem.W.keepIn K (.ref f_law) = true)
    (z_abs : PySem.W.nsIn K mainGlobals "abs" = some none)
    (z_int : PySem.W.nsIn K mainGlobals "int" = some none)
    (z_len : PySem.W.nsIn K mainGlobals "len" = some none)
    (z_min : PySem.W.nsIn K mainGlobals "min" = some none)
    (z_range : PySem.W.nsIn K mainGlobals "range" = some none)
    (z_tuple : PySem.W.nsIn K mainGlobals "tuple" = some none)
    (z_zip : PySem.W.nsIn K mainGlobals "zip" = some none) :
    ∃ (fd : FuncData) (cl : Cl), (∀ (s : Shared) (v : Value), BindsTo s fd ⟨[v], []⟩ [("_law_script", v)]) ∧ ∀ base : Heap, K.In base → base.Ns mainGlobals mg → FnD P w K mg base cl 3 fa fd ["_law_script"] LF := by
  have e := hfa.symm.trans (PySem.W.mg_of X G a_law)
  cases e
  have T : Tx K mg := ⟨PySem.W.mg_none_of X G z_abs, PySem.W.mg_none_of X G z_int, PySem.W.mg_none_of X G z_len, PySem.W.mg_none_of X G z_min, PySem.W.mg_none_of X G z_range, PySem.W.mg_none_of X G z_tuple, PySem.W.mg_none_of X G z_zip⟩
  have U_unordered := fun_mk (st := s_unordered) l_unordered c_unordered k_unordered
  have D_unordered : DefAt K mg "unordered" _ _ ["first", "second"] := ⟨PySem.W.mg_of X G a_unordered, k_unordered, U_unordered.binds fun _ _ _ _ _ _ us hl => match us, hl with | [_, _], _ => rfl⟩
  have U_picked := fun_mk (st := s_picked) l_picked c_picked k_picked
  have D_picked : DefAt K mg "picked" _ _ ["schedule", "at", "many"] := ⟨PySem.W.mg_of X G a_picked, k_picked, U_picked.binds fun _ _ _ _ _ _ us hl => match us, hl with | [_, _, _], _ => rfl⟩
  have U__law_draws := fun_mk (st := s__law_draws) l__law_draws c__law_draws k__law_draws
  have D__law_draws : DefAt K mg "_law_draws" _ _ ["_law_script"] := ⟨PySem.W.mg_of X G a__law_draws, k__law_draws, U__law_draws.binds fun _ _ _ _ _ _ us hl => match us, hl with | [_], _ => rfl⟩
  have U__law_reader := fun_mk (st := s__law_reader) l__law_reader c__law_reader k__law_reader
  have D__law_reader : DefAt K mg "_law_reader" _ _ ["_law_script"] := ⟨PySem.W.mg_of X G a__law_reader, k__law_reader, U__law_reader.binds fun _ _ _ _ _ _ us hl => match us, hl with | [_], _ => rfl⟩
  have U__law_next := fun_mk (st := s__law_next) l__law_next c__law_next k__law_next
  have D__law_next : DefAt K mg "_law_next" _ _ ["_law_draws_here", "_law_many"] := ⟨PySem.W.mg_of X G a__law_next, k__law_next, U__law_next.binds fun _ _ _ _ _ _ us hl => match us, hl with | [_, _], _ => rfl⟩
  have U__law_pairs := fun_mk (st := s__law_pairs) l__law_pairs c__law_pairs k__law_pairs
  have D__law_pairs : DefAt K mg "_law_pairs" _ _ ["_law_draws_here"] := ⟨PySem.W.mg_of X G a__law_pairs, k__law_pairs, U__law_pairs.binds fun _ _ _ _ _ _ us hl => match us, hl with | [_], _ => rfl⟩
  have U__law_due := fun_mk (st := s__law_due) l__law_due c__law_due k__law_due
  have D__law_due : DefAt K mg "_law_due" _ _ ["_law_first", "_law_second"] := ⟨PySem.W.mg_of X G a__law_due, k__law_due, U__law_due.binds fun _ _ _ _ _ _ us hl => match us, hl with | [_, _], _ => rfl⟩
  have U_law := fun_mk (st := s_law) l_law c_law k_law
  have D_law : DefAt K mg "law" _ _ ["_law_script"] := ⟨PySem.W.mg_of X G a_law, k_law, U_law.binds fun _ _ _ _ _ _ us hl => match us, hl with | [_], _ => rfl⟩
  refine ⟨PySem.W.fnOf "law" "law" (defArgs s_law) (defBody s_law) (defScope s_law) .none kV_law dc_law pm_law an_law cd_law ct_law, fun _ => 0, fun s v => .of_eq rfl, fun base _ _ => ?_⟩
  have G_unordered := ok_unordered (P := P) (w := w) (base := base) (cl := fun _ => 0) T (k := 0) U_unordered
  have G_picked := ok_picked (P := P) (w := w) (base := base) (cl := fun _ => 0) T (k := 0) U_picked
  have G__law_draws := FnD.auto (ok__law_draws (P := P) (w := w) (base := base) (cl := fun _ => 0) T (k := 0) U__law_draws)
  have G__law_next := ok__law_next (P := P) (w := w) (base := base) (cl := fun _ => 0) T (k := 0) U__law_next
  have G__law_due := ok__law_due (P := P) (w := w) (base := base) (cl := fun _ => 0) T (k := 0) U__law_due
  have G__law_reader := ok__law_reader (P := P) (w := w) (base := base) (cl := fun _ => 0) T (k := 1) U__law_reader D__law_draws (G__law_draws.mono (by decide))
  have G__law_pairs := ok__law_pairs (P := P) (w := w) (base := base) (cl := fun _ => 0) T (k := 1) U__law_pairs D__law_next (G__law_next.mono (by decide))
  have G_law := ok_law (P := P) (w := w) (base := base) (cl := fun _ => 0) T (k := 2) U_law D__law_reader (G__law_reader.mono (by decide)) D__law_pairs (G__law_pairs.mono (by decide)) D__law_next (G__law_next.mono (by decide)) D__law_due (G__law_due.mono (by decide)) D_unordered (G_unordered.mono (by decide)) D_picked (G_picked.mono (by decide))
  exact G_law
end K21
open PySem PySem.W PyProof.Rows
set_option maxRecDepth 100000 in
set_option maxHeartbeats 0 in
theorem PySem.Challenge.cw_oneowner_k21_what_is_unordered_and_who_i_holds : PySem.Challenge.rw_oneowner_k21_what_is_unordered_and_who_i.Holds := by
  w_on; o_law; k_head; (case hw => w_witness2)
  k_fill
  refine DL.walk_dl (k := 3) (x := "_law_script") (F := K21.LF) (l := PySem.Challenge.rw_oneowner_k21_what_is_unordered_and_who_i) rfl rfl ⟨rfl, by decide, by decide⟩ (fun w h Y => PySem.W.kIn_of Y) ?F K21.law_ok
  case F =>
    intro w mg fa h KX G hmg
    refine' K21.all_mk KX G hmg ?a_unordered ?l_unordered ?c_unordered ?k_unordered ?a_picked ?l_picked ?c_picked ?k_picked ?a__law_draws ?l__law_draws ?c__law_draws ?k__law_draws ?a__law_reader ?l__law_reader ?c__law_reader ?k__law_reader ?a__law_next ?l__law_next ?c__law_next ?k__law_next ?a__law_pairs ?l__law_pairs ?c__law_pairs ?k__law_pairs ?a__law_due ?l__law_due ?c__law_due ?k__law_due ?a_law ?l_law ?c_law ?k_law ?z_abs ?z_int ?z_len ?z_min ?z_range ?z_tuple ?z_zip
    (case a_unordered => k_is)
    (case l_unordered => k_is)
    (case c_unordered => k_is)
    (case k_unordered => k_is)
    (case a_picked => k_is)
    (case l_picked => k_is)
    (case c_picked => k_is)
    (case k_picked => k_is)
    (case a__law_draws => k_is)
    (case l__law_draws => k_is)
    (case c__law_draws => k_is)
    (case k__law_draws => k_is)
    (case a__law_reader => k_is)
    (case l__law_reader => k_is)
    (case c__law_reader => k_is)
    (case k__law_reader => k_is)
    (case a__law_next => k_is)
    (case l__law_next => k_is)
    (case c__law_next => k_is)
    (case k__law_next => k_is)
    (case a__law_pairs => k_is)
    (case l__law_pairs => k_is)
    (case c__law_pairs => k_is)
    (case k__law_pairs => k_is)
    (case a__law_due => k_is)
    (case l__law_due => k_is)
    (case c__law_due => k_is)
    (case k__law_due => k_is)
    (case a_law => k_is)
    (case l_law => k_is)
    (case c_law => k_is)
    (case k_law => k_is)
    (case z_abs => k_is)
    (case z_int => k_is)
    (case z_len => k_is)
    (case z_min => k_is)
    (case z_range => k_is)
    (case z_tuple => k_is)
    (case z_zip => k_is)
#print axioms PySem.Challenge.cw_oneowner_k21_what_is_unordered_and_who_i_holds
