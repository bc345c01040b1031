import PyProof.Rows.All
import Wide.All
import OpenK.AllK
import Wide.FinOn
import HandS.ForMost
import HandS.Exc
import HandS.WordsExc
import HandS.Wide
import HandS.IsInst
import HandS.Style
import HandS.TupAny
import HandS.TupLe
import HandS.Deep
import HandS.CallSlots
import HandS.Ends
import HandS.EndBits
import HandS.Zip
import HandS.ExcOwn
import HandS.SortInts
import HandS.StrMore
import HandS.More
import HandS.Conv
import HandS.SetKeys
import HandS.Defaults
import HandS.Codes
import HandS.RaiseMore
import HandS.Replace
import HandS.ExcInit
import HandS.ExcIs
import HandS.TryMany
import KE.SortData
import HandS.TupMul
import PySem.Challenge.RW_oneowner_k41_sizes_and_values
set_option Elab.async false
set_option linter.all false
set_option maxRecDepth 100000
set_option maxHeartbeats 4000000
set_option autoImplicit false
/-! DL1: values as data (D), a store of changing objects (Sto), programs as plain functions over them, and how they lie in the heap. -/
namespace DL
open PySem PySem.Spec PyProof.Rows L2

/-- a value: plain data to any depth; a changing object by its place in the store -/
inductive D where
  | non
  | bl (b : Bool)
  | int (i : Int)
  | str (x : Str)
  | tup (ds : List D)
  | lst (ds : List D)
  | fro (ds : List D)
  | dic (kvs : List (Key × D))
  | ref (n : Nat)
  | raw (v : V)

/-- a changing object -/
inductive Ob where
  | lst (ds : List D)
  | dK (kvs : List (Key × D))
  | dT (kvs : List (List Key × D))
  | ins (c : Str) (fs : List (Str × D))

abbrev Sto := List Ob
/-- an exception of an own class, with its fields -/
structure Exn where
  cls : Str
  fs : List (Str × D)

/-- what a run gives -/
inductive R (α : Type) where
  | ok (a : α) (st : Sto)
  | exc (x : Exn) (st : Sto)
  | bad

@[reducible] def R.bind {α β : Type} (r : R α) (k : α → Sto → R β) : R β := match r with
  | .ok a st => k a st
  | .exc x st => .exc x st
  | .bad => .bad

abbrev En := List (Option D)
abbrev DE := En → Sto → R D
abbrev DT := En → Sto → R Bool
abbrev DA := En → Sto → R (List D)
/-- a def -/
abbrev DF := List D → Sto → R D

/-! ### how data lies in the heap -/
/-- the addresses of the store's objects; addresses of things that are being made -/
structure Mp where
  m : List Addr
  x : List Addr
instance : Membership Addr Mp := ⟨fun as a => a ∈ as.m ∨ a ∈ as.x⟩
abbrev Mp.push (as : Mp) (p : Addr) : Mp := ⟨as.m ++ [p], as.x⟩
abbrev Mp.hide (as : Mp) (p : Addr) : Mp := ⟨as.m, p :: as.x⟩
theorem Mp.mem {as : Mp} {a : Addr} : a ∈ as ↔ a ∈ as.m ∨ a ∈ as.x := Iff.rfl
/-- a tuple, a list that nobody changes -/
def StT (K : PySem.W.Frag) (as : Mp) (H : Hp) (a : Addr) (xs : List V) : Prop :=
  (a ∉ as ∧ H a = some (.tup xs)) ∨
    ∃ (o : Obj) (its : Array Value) (n : Nat), K.lookup a = some o ∧ o.cls = .type "tuple" ∧ o.data = .seq its n ∧ its.size ≤ sizeLine ∧ Vals xs its.toList
/-- a list of the text's, or the script -/
def StF (K : PySem.W.Frag) (as : Mp) (H : Hp) (a : Addr) (xs : List V) : Prop :=
  (a ∉ as ∧ ∃ o, H a = some (.frz o (.lst xs))) ∨
    ∃ (o : Obj) (its : Array Value) (n : Nat), K.lookup a = some o ∧ o.cls = .type "list" ∧ o.dict = none ∧ o.data = .seq its n ∧ its.size ≤ sizeLine ∧ Vals xs its.toList
theorem StT.t {K : PySem.W.Frag} {as : Mp} {H : Hp} {a : Addr} {xs : List V} (h : StT K as H a xs) : SqT K H a xs := h.imp (fun z => .inl z.2) id
theorem StF.l {K : PySem.W.Frag} {as : Mp} {H : Hp} {a : Addr} {xs : List V} (h : StF K as H a xs) : SqL K H a xs := h.imp (fun z => .inr z.2) id

mutual
inductive Rep (K : PySem.W.Frag) (as : Mp) (H : Hp) : D → V → Prop
  | non : Rep K as H .non .non
  | bl (b : Bool) : Rep K as H (.bl b) (.bl b)
  | int (i : Int) : Rep K as H (.int i) (.int i)
  | str (x : Str) : Rep K as H (.str x) (.str x)
  | tup {a : Addr} {ds : List D} {xs : List V} : StT K as H a xs → Reps K as H ds xs → Rep K as H (.tup ds) (.ref a)
  | lst {a : Addr} {ds : List D} {xs : List V} : a ∉ as → H a = some (.lst xs) → Reps K as H ds xs → Rep K as H (.lst ds) (.ref a)
  | fro {a : Addr} {ds : List D} {xs : List V} : StF K as H a xs → Reps K as H ds xs → Rep K as H (.fro ds) (.ref a)
  | dic {a : Addr} {kvs : List (Key × D)} {kvx : List (Key × V)} : a ∉ as → H a = some (.dK kvx) → RepK K as H kvs kvx → Rep K as H (.dic kvs) (.ref a)
  | ref {n : Nat} {a : Addr} : as.m[n]? = some a → Rep K as H (.ref n) (.ref a)
  | raw (v : V) : Rep K as H (.raw v) v
inductive Reps (K : PySem.W.Frag) (as : Mp) (H : Hp) : List D → List V → Prop
  | nil : Reps K as H [] []
  | cons {d : D} {v : V} {ds : List D} {vs : List V} : Rep K as H d v → Reps K as H ds vs → Reps K as H (d :: ds) (v :: vs)
inductive RepK (K : PySem.W.Frag) (as : Mp) (H : Hp) : List (Key × D) → List (Key × V) → Prop
  | nil : RepK K as H [] []
  | cons {k : Key} {d : D} {v : V} {ds : List (Key × D)} {vs : List (Key × V)} : Rep K as H d v → RepK K as H ds vs → RepK K as H ((k, d) :: ds) ((k, v) :: vs)
end
/-- fields, other keyed rows -/
inductive RepF (K : PySem.W.Frag) (as : Mp) (H : Hp) {κ : Type} : List (κ × D) → List (κ × V) → Prop
  | nil : RepF K as H [] []
  | cons {k : κ} {d : D} {v : V} {ds : List (κ × D)} {vs : List (κ × V)} : Rep K as H d v → RepF K as H ds vs → RepF K as H ((k, d) :: ds) ((k, v) :: vs)

/-- the classes' addresses -/
structure Cl where
  f : Str → Addr
  w : World
instance : CoeFun Cl fun _ => Str → Addr := ⟨Cl.f⟩
/-- dicts whose keys are tuples of ints and texts, by their one object: its entries -/
def entT (w : World) (x : List Key × Addr × Value) : DictEntry := ⟨reduceHash (Builtin.Tuple.tupleHashOf (x.1.map (keyH w))), .ref x.2.1, x.2.2⟩
structure DTok (w : World) (a : Addr) (o : Obj) (xs : List (List Key × Addr × Value)) : Prop where
  lo : (a == sysModules) = false
  ex : o.ExactDict
  da : ∃ es ep, o.data = .dict es ep ∧ es.toList = xs.map (entT w)
  nd : (xs.map (·.1)).Nodup
  sz : xs.length ≤ sizeLine
abbrev dtO (a : Addr) (o : Obj) : HO := .ext fun h => h.get? a = some o
inductive RepT (K : PySem.W.Frag) (as : Mp) (H : Hp) : List (List Key × D) → List (List Key × Addr × Value) → Prop
  | nil : RepT K as H [] []
  | cons {k : List Key} {d : D} {b : Addr} {v : V} {u : Value} {ds : List (List Key × D)} {xs : List (List Key × Addr × Value)} : StT K as H b (k.map kV) → Rep K as H d v → RelV v u → RepT K as H ds xs → RepT K as H ((k, d) :: ds) ((k, b, u) :: xs)
inductive RepO (K : PySem.W.Frag) (cl : Cl) (as : Mp) (H : Hp) : Ob → HO → Prop
  | lst {ds : List D} {xs : List V} : Reps K as H ds xs → RepO K cl as H (.lst ds) (.lst xs)
  | dK {kvs : List (Key × D)} {kvx : List (Key × V)} : RepF K as H kvs kvx → RepO K cl as H (.dK kvs) (.dK kvx)
  | dT {kvs : List (List Key × D)} {a : Addr} {o : Obj} {xs : List (List Key × Addr × Value)} : DTok cl.w a o xs → RepT K as H kvs xs → RepO K cl as H (.dT kvs) (dtO a o)
  | ins {c : Str} {dx : Addr} {fs : List (Str × D)} {fx : List (Str × V)} : RepF K as H fs fx → RepO K cl as H (.ins c fs) (.ins (cl.f c) dx fx)

/-- the store lies in the heap -/
structure Wd (K : PySem.W.Frag) (cl : Cl) (as : Mp) (st : Sto) (H : Hp) : Prop where
  len : as.m.length = st.length
  nd : as.m.Nodup
  sep : ∀ a, a ∈ as.m → a ∉ as.x
  lv : ∀ a, a ∈ as.x → ∃ o, H a = some o
  ob : ∀ (n : Nat) (o : Ob), st[n]? = some o → ∃ a h, as.m[n]? = some a ∧ H a = some h ∧ RepO K cl as H o h

/-- the world goes on: new objects, changes of the store's objects, nothing else changed -/
structure Evo (as : Mp) (H : Hp) (as' : Mp) (H' : Hp) : Prop where
  ext : ∃ bs, as'.m = as.m ++ bs ∧ ∀ b ∈ bs, H b = none
  exx : as'.x = as.x
  kx : ∀ a, a ∈ as.x → H' a = H a
  keep : ∀ a o, H a = some o → a ∉ as → H' a = some o
  live : ∀ a o, H a = some o → ∃ o', H' a = some o'

section
variable {K : PySem.W.Frag} {cl : Cl} {as as' as'' : Mp} {H H' H'' : Hp}
theorem Evo.refl : Evo as H as H := ⟨⟨[], by simp, by simp⟩, rfl, fun _ _ => rfl, fun _ _ h _ => h, fun _ o h => ⟨o, h⟩⟩
theorem Evo.out (e : Evo as H as' H') {a : Addr} {o : HO} (h : H a = some o) (n : a ∉ as) : a ∉ as' := by
  obtain ⟨bs, e1, hb⟩ := e.ext
  intro z
  rcases z with z | z
  · rw [e1] at z
    rcases List.mem_append.mp z with z | z
    · exact n (.inl z)
    · rw [hb a z] at h; cases h
  · rw [e.exx] at z
    exact n (.inr z)
theorem Evo.trans (e : Evo as H as' H') (f : Evo as' H' as'' H'') : Evo as H as'' H'' := by
  refine ⟨?_, f.exx.trans e.exx, fun a ha => (f.kx a (by rw [e.exx]; exact ha)).trans (e.kx a ha), fun a o h n => f.keep a o (e.keep a o h n) (e.out h n), fun a o h => ?_⟩
  · obtain ⟨bs, e1, hb⟩ := e.ext
    obtain ⟨cs, e2, hc⟩ := f.ext
    refine ⟨bs ++ cs, by rw [e2, e1, List.append_assoc], fun b hm => ?_⟩
    rcases List.mem_append.mp hm with hm | hm
    · exact hb b hm
    · cases h : H b with
      | none => rfl
      | some o =>
        obtain ⟨o', h'⟩ := e.live b o h
        rw [hc b hm] at h'; cases h'
  · obtain ⟨o', h'⟩ := e.live a o h
    exact f.live a o' h'
/-- how data move along -/
structure Mv (as : Mp) (H : Hp) (as' : Mp) (H' : Hp) : Prop where
  m : ∃ bs, as'.m = as.m ++ bs
  k : ∀ a o, H a = some o → a ∉ as → a ∉ as' ∧ H' a = some o
theorem Mv.at (l : Mv as H as' H') {n : Nat} {a : Addr} (h : as.m[n]? = some a) : as'.m[n]? = some a := by
  obtain ⟨bs, e⟩ := l.m
  rw [e, List.getElem?_append_left (List.getElem?_eq_some_iff.mp h).1]; exact h
theorem StT.mv (e : Mv as H as' H') {a : Addr} {xs : List V} (h : StT K as H a xs) : StT K as' H' a xs := h.imp (fun z => e.k _ _ z.2 z.1) id
theorem StF.mv (e : Mv as H as' H') {a : Addr} {xs : List V} (h : StF K as H a xs) : StF K as' H' a xs :=
  h.imp (fun ⟨n, o, z⟩ => let q := e.k _ _ z n; ⟨q.1, o, q.2⟩) id
mutual
theorem Rep.mv (e : Mv as H as' H') : ∀ {d : D} {v : V}, Rep K as H d v → Rep K as' H' d v
  | _, _, .non => .non
  | _, _, .bl b => .bl b
  | _, _, .int i => .int i
  | _, _, .str x => .str x
  | _, _, .tup s r => .tup (s.mv e) (Reps.mv e r)
  | _, _, .lst n h r => let q := e.k _ _ h n; .lst q.1 q.2 (Reps.mv e r)
  | _, _, .fro s r => .fro (s.mv e) (Reps.mv e r)
  | _, _, .dic n h r => let q := e.k _ _ h n; .dic q.1 q.2 (RepK.mv e r)
  | _, _, .ref h => .ref (e.at h)
  | _, _, .raw v => .raw v
theorem Reps.mv (e : Mv as H as' H') : ∀ {ds : List D} {vs : List V}, Reps K as H ds vs → Reps K as' H' ds vs
  | _, _, .nil => .nil
  | _, _, .cons r t => .cons (Rep.mv e r) (Reps.mv e t)
theorem RepK.mv (e : Mv as H as' H') : ∀ {ds : List (Key × D)} {vs : List (Key × V)}, RepK K as H ds vs → RepK K as' H' ds vs
  | _, _, .nil => .nil
  | _, _, .cons r t => .cons (Rep.mv e r) (RepK.mv e t)
end
theorem RepF.mv {κ : Type} (e : Mv as H as' H') : ∀ {ds : List (κ × D)} {vs : List (κ × V)}, RepF K as H ds vs → RepF K as' H' ds vs
  | _, _, .nil => .nil
  | _, _, .cons r t => .cons (r.mv e) (RepF.mv e t)
theorem RepT.mv (e : Mv as H as' H') : ∀ {ds : List (List Key × D)} {xs : List (List Key × Addr × Value)}, RepT K as H ds xs → RepT K as' H' ds xs
  | _, _, .nil => .nil
  | _, _, .cons s r v t => .cons (s.mv e) (r.mv e) v (RepT.mv e t)
theorem RepO.mv (e : Mv as H as' H') : ∀ {o : Ob} {h : HO}, RepO K cl as H o h → RepO K cl as' H' o h
  | _, _, .lst r => .lst (r.mv e)
  | _, _, .dK r => .dK (r.mv e)
  | _, _, .dT k r => .dT k (r.mv e)
  | _, _, .ins r => .ins (r.mv e)
theorem Evo.mv (e : Evo as H as' H') : Mv as H as' H' := ⟨let ⟨bs, h, _⟩ := e.ext; ⟨bs, h⟩, fun a o h n => ⟨e.out h n, e.keep a o h n⟩⟩
theorem Evo.get (e : Evo as H as' H') {n : Nat} {a : Addr} (h : as.m[n]? = some a) : as'.m[n]? = some a := e.mv.at h
theorem Rep.evo (e : Evo as H as' H') {d : D} {v : V} (r : Rep K as H d v) : Rep K as' H' d v := r.mv e.mv
theorem Reps.evo (e : Evo as H as' H') {d : List D} {v : List V} (r : Reps K as H d v) : Reps K as' H' d v := r.mv e.mv
theorem RepF.evo {κ : Type} (e : Evo as H as' H') {ds : List (κ × D)} {vs : List (κ × V)} (r : RepF K as H ds vs) : RepF K as' H' ds vs := r.mv e.mv
theorem RepO.evo (e : Evo as H as' H') {o : Ob} {h : HO} (r : RepO K cl as H o h) : RepO K cl as' H' o h := r.mv e.mv
theorem Reps.len : ∀ {ds : List D} {vs : List V}, Reps K as H ds vs → ds.length = vs.length
  | _, _, .nil => rfl
  | _, _, .cons _ t => by rw [List.length_cons, List.length_cons, Reps.len t]
theorem Reps.get : ∀ {ds : List D} {vs : List V} {i : Nat} {d : D}, Reps K as H ds vs → ds[i]? = some d → ∃ v, vs[i]? = some v ∧ Rep K as H d v
  | _, _, _, _, .nil, e => by simp at e
  | _, _, 0, _, .cons r _, e => by simp at e; subst e; exact ⟨_, rfl, r⟩
  | _, _, i + 1, d, .cons _ t, e => by
    obtain ⟨v, h1, h2⟩ := Reps.get (i := i) (d := d) t (by simpa using e)
    exact ⟨v, by simpa using h1, h2⟩
theorem Reps.append : ∀ {ds es : List D} {vs ws : List V}, Reps K as H ds vs → Reps K as H es ws → Reps K as H (ds ++ es) (vs ++ ws)
  | _, _, _, _, .nil, s => s
  | _, _, _, _, .cons r t, s => .cons r (Reps.append t s)
theorem Reps.take : ∀ {ds : List D} {vs : List V} (n : Nat), Reps K as H ds vs → Reps K as H (ds.take n) (vs.take n)
  | _, _, 0, _ => .nil
  | _, _, _ + 1, .nil => .nil
  | _, _, n + 1, .cons r t => .cons r (Reps.take n t)
theorem Reps.drop : ∀ {ds : List D} {vs : List V} (n : Nat), Reps K as H ds vs → Reps K as H (ds.drop n) (vs.drop n)
  | _, _, 0, r => r
  | _, _, _ + 1, .nil => .nil
  | _, _, n + 1, .cons _ t => Reps.drop n t
theorem Reps.set {d : D} {v : V} (r : Rep K as H d v) : ∀ {ds : List D} {vs : List V} (i : Nat), Reps K as H ds vs → Reps K as H (ds.set i d) (vs.set i v)
  | _, _, _, .nil => .nil
  | _, _, 0, .cons _ t => .cons r t
  | _, _, i + 1, .cons q t => .cons q (Reps.set r i t)
theorem Reps.reverse : ∀ {ds : List D} {vs : List V}, Reps K as H ds vs → Reps K as H ds.reverse vs.reverse
  | _, _, .nil => .nil
  | _, _, .cons r t => by rw [List.reverse_cons, List.reverse_cons]; exact (Reps.reverse t).append (.cons r .nil)

/-! ### the names -/
structure RepE (K : PySem.W.Frag) (as : Mp) (H : Hp) (σ : En) (τ : L2.St) : Prop where
  len : σ.length = τ.length
  get : ∀ (i : Nat) (d : D), σ[i]? = some (some d) → ∃ v, τ[i]? = some (some v) ∧ Rep K as H d v
theorem RepE.mv {σ : En} {τ : L2.St} (e : Mv as H as' H') (r : RepE K as H σ τ) : RepE K as' H' σ τ :=
  ⟨r.len, fun i d h => let ⟨v, h1, h2⟩ := r.get i d h; ⟨v, h1, h2.mv e⟩⟩
theorem RepE.evo {σ : En} {τ : L2.St} (e : Evo as H as' H') (r : RepE K as H σ τ) : RepE K as' H' σ τ := r.mv e.mv
theorem RepE.set {σ : En} {τ : L2.St} {d : D} {v : V} (r : RepE K as H σ τ) (i : Nat) (q : Rep K as H d v) : RepE K as H (σ.set i (some d)) (τ.set i (some v)) := by
  refine ⟨by rw [List.length_set, List.length_set, r.len], fun j e h => ?_⟩
  by_cases hj : j = i
  · subst hj
    by_cases hl : j < σ.length
    · rw [List.getElem?_set_self hl] at h
      cases h
      exact ⟨v, List.getElem?_set_self (by rw [← r.len]; exact hl), q⟩
    · rw [List.getElem?_eq_none (by simpa using hl)] at h; cases h
  · rw [List.getElem?_set_ne (Ne.symm hj)] at h ⊢
    exact r.get j e h
theorem RepE.unset {σ : En} {τ : L2.St} (r : RepE K as H σ τ) (i : Nat) : RepE K as H (σ.set i none) (τ.set i none) := by
  refine ⟨by rw [List.length_set, List.length_set, r.len], fun j e h => ?_⟩
  by_cases hj : j = i
  · subst hj
    by_cases hl : j < σ.length
    · rw [List.getElem?_set_self hl] at h; cases h
    · rw [List.getElem?_eq_none (by simpa using hl)] at h; cases h
  · rw [List.getElem?_set_ne (Ne.symm hj)] at h ⊢
    exact r.get j e h
def wipeD (σ : En) : List Nat → En
  | [] => σ
  | v :: vs => (wipeD σ vs).set v none
theorem RepE.wipe {σ : En} {τ : L2.St} (r : RepE K as H σ τ) : ∀ vs : List Nat, RepE K as H (wipeD σ vs) (L2.wipe τ vs)
  | [] => r
  | v :: vs => (r.wipe vs).unset v
/-- the start -/
def startD (n : Nat) (ds : List D) : En := ds.map some ++ List.replicate (n - ds.length) none
theorem RepE.start {N : List Str} {ds : List D} {vs : List V} (r : Reps K as H ds vs) : RepE K as H (startD N.length ds) (L2.start N vs) := by
  have hl := r.len
  refine ⟨by unfold startD L2.start; simp [hl], fun i d h => ?_⟩
  unfold startD at h
  by_cases hi : i < ds.length
  · rw [List.getElem?_append_left (by simpa using hi), List.getElem?_map] at h
    cases e : ds[i]? with
    | none => rw [e] at h; cases h
    | some d' =>
      rw [e] at h; cases h
      obtain ⟨v, h1, h2⟩ := r.get e
      refine ⟨v, ?_, h2⟩
      unfold L2.start
      rw [List.getElem?_append_left (by simpa using (List.getElem?_eq_some_iff.mp h1).1), List.getElem?_map, h1]
      rfl
  · rw [List.getElem?_append_right (by simpa using hi), List.getElem?_replicate] at h
    split at h <;> cases h

/-! ### the store -/
variable {st st' : Sto}
theorem Wd.at (w : Wd K cl as st H) {n : Nat} {a : Addr} {o : Ob} (ha : as.m[n]? = some a) (ho : st[n]? = some o) : ∃ h, H a = some h ∧ RepO K cl as H o h := by
  obtain ⟨b, h, e, h1, h2⟩ := w.ob n o ho
  rw [ha] at e; cases e
  exact ⟨h, h1, h2⟩
theorem Wd.mv (w : Wd K cl as st H) (e : Mv as H as H') (l : ∀ a, a ∈ as.x → ∃ o, H' a = some o) (h : ∀ a, a ∈ as.m → H' a = H a) : Wd K cl as st H' :=
  ⟨w.len, w.nd, w.sep, l, fun n o ho => by
    obtain ⟨a, u, h1, h2, h3⟩ := w.ob n o ho
    exact ⟨a, u, h1, by rw [h a (List.mem_of_getElem? h1)]; exact h2, h3.mv e⟩⟩
/-- the addresses are known -/
theorem Wd.has (w : Wd K cl as st H) {a : Addr} (h : a ∈ as) : ∃ o, H a = some o := by
  rcases h with h | h
  · obtain ⟨n, hn, e⟩ := List.getElem_of_mem h
    have hl : n < st.length := by rw [← w.len]; exact hn
    obtain ⟨b, u, h1, h2, _⟩ := w.ob n _ (List.getElem?_eq_getElem hl)
    rw [List.getElem?_eq_getElem hn, e] at h1
    cases h1
    exact ⟨u, h2⟩
  · exact w.lv a h
theorem mem_m {n : Nat} {a : Addr} (h : as.m[n]? = some a) : a ∈ as := .inl (List.mem_of_getElem? h)
/-- a new thing that nobody changes -/
theorem Wd.ne (w : Wd K cl as st H) {p a : Addr} (hp : H p = none) (ha : a ∈ as) : a ≠ p := by
  obtain ⟨o, h⟩ := w.has ha
  exact ne_of_none h hp
theorem Evo.new (w : Wd K cl as st H) {p : Addr} {o : HO} (hp : H p = none) : Evo as H as (upd H p o) :=
  ⟨⟨[], by simp, by simp⟩, rfl, fun a ha => upd_ne (w.ne hp (.inr ha)), fun a u h _ => by rw [upd_ne (ne_of_none h hp)]; exact h, fun a u h => ⟨u, by rw [upd_ne (ne_of_none h hp)]; exact h⟩⟩
theorem Wd.new (w : Wd K cl as st H) {p : Addr} {o : HO} (hp : H p = none) : Wd K cl as st (upd H p o) :=
  w.mv (Evo.new w hp).mv (fun a ha => let ⟨o, h⟩ := w.lv a ha; ⟨o, by rw [upd_ne (w.ne hp (.inr ha))]; exact h⟩) fun a ha => upd_ne (w.ne hp (.inl ha))
theorem Wd.nin (w : Wd K cl as st H) {p : Addr} (hp : H p = none) : p ∉ as := fun z => by
  obtain ⟨u, h⟩ := w.has z
  rw [hp] at h; cases h
/-- a new object of the store -/
theorem Evo.push (w : Wd K cl as st H) {p : Addr} {o : HO} (hp : H p = none) : Evo as H (as.push p) (upd H p o) :=
  ⟨⟨[p], rfl, fun b hb => by rw [List.mem_singleton.mp hb]; exact hp⟩, rfl, fun a ha => upd_ne (w.ne hp (.inr ha)), fun a u h _ => by rw [upd_ne (ne_of_none h hp)]; exact h, fun a u h => ⟨u, by rw [upd_ne (ne_of_none h hp)]; exact h⟩⟩
theorem Wd.push (w : Wd K cl as st H) {p : Addr} {o : Ob} {h : HO} (hp : H p = none) (r : RepO K cl as H o h) : Wd K cl (as.push p) (st ++ [o]) (upd H p h) := by
  have e := Evo.push w (o := h) hp
  refine ⟨by simp [w.len], ?_, fun a ha => ?_, fun a ha => let ⟨o, h⟩ := w.lv a ha; e.live a o h, fun n ob hn => ?_⟩
  · rw [List.nodup_append]
    exact ⟨w.nd, by simp, fun a ha b hb z => w.nin hp (by rw [← List.mem_singleton.mp hb, ← z]; exact .inl ha)⟩
  · rcases List.mem_append.mp ha with ha | ha
    · exact w.sep a ha
    · rw [List.mem_singleton.mp ha]
      exact fun z => w.nin hp (.inr z)
  · by_cases hl : n < st.length
    · rw [List.getElem?_append_left hl] at hn
      obtain ⟨a, u, h1, h2, h3⟩ := w.ob n ob hn
      exact ⟨a, u, e.get h1, by rw [upd_ne (ne_of_none h2 hp)]; exact h2, h3.evo e⟩
    · rw [List.getElem?_append_right (by omega)] at hn
      have h0 : n - st.length = 0 := by
        rcases Nat.eq_zero_or_pos (n - st.length) with z | z
        · exact z
        · rw [List.getElem?_eq_none (by simp; omega)] at hn; cases hn
      rw [h0] at hn
      cases hn
      have hnn : n = as.m.length := by have := w.len; omega
      subst hnn
      exact ⟨p, h, by simp, upd_same, r.evo e⟩
/-- an object changed -/
theorem Evo.wr (w : Wd K cl as st H) {n : Nat} {a : Addr} {o : HO} (ha : as.m[n]? = some a) : Evo as H as (upd H a o) :=
  ⟨⟨[], by simp, by simp⟩, rfl, fun b hb => upd_ne fun z => w.sep a (List.mem_of_getElem? ha) (by rw [← z]; exact hb), fun b v hb n => by rw [upd_ne (fun z => n (by rw [z]; exact mem_m ha))]; exact hb, fun b v hb => by
    by_cases z : b = a
    · subst z; exact ⟨o, upd_same⟩
    · exact ⟨v, by rw [upd_ne z]; exact hb⟩⟩
theorem Wd.wr (w : Wd K cl as st H) {n : Nat} {a : Addr} {o : Ob} {h : HO} (ha : as.m[n]? = some a) (r : RepO K cl as H o h) : Wd K cl as (st.set n o) (upd H a h) := by
  obtain ⟨u, hu⟩ := w.has (mem_m ha)
  have e := Evo.wr w (o := h) ha
  refine ⟨by simp [w.len], w.nd, w.sep, fun a ha => let ⟨o, h⟩ := w.lv a ha; e.live a o h, fun m ob hm => ?_⟩
  by_cases hmn : m = n
  · subst hmn
    by_cases hl : m < st.length
    · rw [List.getElem?_set_self hl] at hm; cases hm
      exact ⟨a, h, ha, upd_same, r.evo e⟩
    · rw [List.getElem?_eq_none (by simpa using hl)] at hm; cases hm
  · rw [List.getElem?_set_ne (Ne.symm hmn)] at hm
    obtain ⟨b, v, h1, h2, h3⟩ := w.ob m ob hm
    refine ⟨b, v, h1, ?_, h3.evo e⟩
    rw [upd_ne ?_]; exact h2
    intro z
    subst z
    exact hmn (nd_ix w.nd h1 ha)
/-! ### a thing in the making -/
theorem Mv.side {p : Addr} {o : HO} (hp : p ∈ as) : Mv as H as (upd H p o) := ⟨⟨[], by simp⟩, fun a u h n => ⟨n, by rw [upd_ne fun z => n (by rw [z]; exact hp)]; exact h⟩⟩
theorem Wd.wrx (w : Wd K cl as st H) {a : Addr} {h : HO} (ha : a ∈ as.x) : Wd K cl as st (upd H a h) :=
  w.mv (Mv.side (.inr ha)) (fun b hb => by
    by_cases z : b = a
    · subst z; exact ⟨h, upd_same⟩
    · obtain ⟨o, q⟩ := w.lv b hb
      exact ⟨o, by rw [upd_ne z]; exact q⟩) fun b hb => upd_ne fun z => w.sep b hb (by rw [z]; exact ha)
theorem Mv.hide {p : Addr} {o : HO} (hp : H p = none) : Mv as H (as.hide p) (upd H p o) := ⟨⟨[], by simp⟩, fun a u h n => by
  have hne := ne_of_none h hp
  refine ⟨fun z => ?_, by rw [upd_ne hne]; exact h⟩
  rcases z with z | z
  · exact n (.inl z)
  · rcases List.mem_cons.mp z with z | z
    · exact hne z
    · exact n (.inr z)⟩
theorem Wd.hide {p : Addr} {o : HO} (hp : H p = none) (w : Wd K cl as st H) : Wd K cl (as.hide p) st (upd H p o) :=
  ⟨w.len, w.nd, fun a ha z => by
    rcases List.mem_cons.mp z with z | z
    · subst z; exact w.nin hp (.inl ha)
    · exact w.sep a ha z, fun a ha => by
    rcases List.mem_cons.mp ha with z | z
    · subst z; exact ⟨o, upd_same⟩
    · obtain ⟨u, h⟩ := w.lv a z
      exact ⟨u, by rw [upd_ne (ne_of_none h hp)]; exact h⟩, fun n b hb => by
    obtain ⟨a, u, h1, h2, h3⟩ := w.ob n b hb
    exact ⟨a, u, h1, by rw [upd_ne (ne_of_none h2 hp)]; exact h2, h3.mv (Mv.hide hp)⟩⟩
/-- the world around a thing at p that is being made, since H -/
structure Mk1 (as : Mp) (H : Hp) (p : Addr) (as' : Mp) (H' : Hp) : Prop where
  free : H p = none
  evo : Evo as H ⟨as'.m, as.x⟩ H'
  x : as'.x = p :: as.x
theorem Mk1.start (w : Wd K cl as st H) {p : Addr} {o : HO} (hp : H p = none) : Mk1 as H p (as.hide p) (upd H p o) := ⟨hp, Evo.new w hp, rfl⟩
theorem Mk1.next {p : Addr} (e : Mk1 as H p as' H') (f : Evo as' H' as'' H'') (w0 : Wd K cl as st H) : Mk1 as H p as'' H'' ∧ H'' p = H' p := by
  have hp : p ∈ as'.x := by rw [e.x]; exact List.mem_cons_self
  refine ⟨⟨e.free, ?_, by rw [f.exx, e.x]⟩, f.kx p hp⟩
  obtain ⟨bs, h1, h2⟩ := e.evo.ext
  obtain ⟨cs, h3, h4⟩ := f.ext
  have sx : ∀ a, a ∈ as.x → a ∈ as'.x := fun a ha => by rw [e.x]; exact List.mem_cons_of_mem _ ha
  refine ⟨⟨bs ++ cs, by show as''.m = _; rw [h3, show as'.m = as.m ++ bs from h1, List.append_assoc], fun b hb => ?_⟩, rfl, fun a ha => (f.kx a (sx a ha)).trans (e.evo.kx a ha), fun a o h n => ?_, fun a o h => ?_⟩
  · rcases List.mem_append.mp hb with z | z
    · exact h2 b z
    · cases h : H b with
      | none => rfl
      | some o =>
        obtain ⟨o', h'⟩ := e.evo.live b o h
        rw [h4 b z] at h'; cases h'
  · have q := e.evo.out h n
    refine f.keep a o (e.evo.keep a o h n) fun z => ?_
    rcases z with z | z
    · exact q (.inl z)
    · rw [e.x] at z
      rcases List.mem_cons.mp z with z | z
      · exact ne_of_none h e.free z
      · exact n (.inr z)
  · obtain ⟨o', h'⟩ := e.evo.live a o h
    exact f.live a o' h'
/-- the thing changes -/
theorem Mk1.set {p : Addr} {o : HO} (e : Mk1 as H p as' H') (w0 : Wd K cl as st H) : Mk1 as H p as' (upd H' p o) := by
  refine ⟨e.free, ⟨e.evo.ext, rfl, fun a ha => ?_, fun a u h n => ?_, fun a u h => ?_⟩, e.x⟩
  · rw [upd_ne (w0.ne e.free (.inr ha))]; exact e.evo.kx a ha
  · rw [upd_ne (ne_of_none h e.free)]; exact e.evo.keep a u h n
  · rw [upd_ne (ne_of_none h e.free)]; exact e.evo.live a u h
theorem Mk1.mv {p : Addr} (e : Mk1 as H p as' H') : Mv as' H' ⟨as'.m, as.x⟩ H' := ⟨⟨[], by simp⟩, fun a o h n => ⟨fun z => n (z.imp id fun z => by rw [e.x]; exact List.mem_cons_of_mem _ z), h⟩⟩
theorem Mk1.mem {p : Addr} (e : Mk1 as H p as' H') : p ∈ as'.x := by rw [e.x]; exact List.mem_cons_self
/-- in the end a thing that nobody changes -/
theorem Mk1.fix {p : Addr} (e : Mk1 as H p as' H') (w0 : Wd K cl as st H) (w : Wd K cl as' st' H') : Wd K cl ⟨as'.m, as.x⟩ st' H' ∧ p ∉ (⟨as'.m, as.x⟩ : Mp) := by
  have sx : ∀ a, a ∈ as.x → a ∈ as'.x := fun a ha => by rw [e.x]; exact List.mem_cons_of_mem _ ha
  refine ⟨⟨w.len, w.nd, fun a ha z => w.sep a ha (sx a z), fun a ha => w.lv a (sx a ha), fun n b hb => ?_⟩, fun z => ?_⟩
  · obtain ⟨a, u, h1, h2, h3⟩ := w.ob n b hb
    exact ⟨a, u, h1, h2, h3.mv e.mv⟩
  · rcases z with z | z
    · exact w.sep p z e.mem
    · exact w0.nin e.free (.inr z)
/-- in the end an object of the store -/
theorem Mk1.push {p : Addr} {b : Ob} {h : HO} (e : Mk1 as H p as' H') (w0 : Wd K cl as st H) (w : Wd K cl as' st' H') (hp : H' p = some h) (r : RepO K cl as' H' b h) :
    Evo as H ⟨as'.m ++ [p], as.x⟩ H' ∧ Wd K cl ⟨as'.m ++ [p], as.x⟩ (st' ++ [b]) H' := by
  have sx : ∀ a, a ∈ as.x → a ∈ as'.x := fun a ha => by rw [e.x]; exact List.mem_cons_of_mem _ ha
  have hm : p ∉ as'.m := fun z => w.sep p z e.mem
  have l : Mv as' H' (⟨as'.m ++ [p], as.x⟩ : Mp) H' := ⟨⟨[p], rfl⟩, fun a o h n => ⟨fun z => n (by
    rcases z with z | z
    · rcases List.mem_append.mp z with z | z
      · exact .inl z
      · rw [List.mem_singleton.mp z]; exact .inr e.mem
    · exact .inr (sx a z)), h⟩⟩
  refine ⟨⟨?_, rfl, e.evo.kx, e.evo.keep, e.evo.live⟩, ?_, ?_, ?_, ?_, ?_⟩
  · obtain ⟨bs, h1, h2⟩ := e.evo.ext
    refine ⟨bs ++ [p], by show as'.m ++ [p] = _; rw [show as'.m = as.m ++ bs from h1, List.append_assoc], fun b hb => ?_⟩
    rcases List.mem_append.mp hb with z | z
    · exact h2 b z
    · rw [List.mem_singleton.mp z]; exact e.free
  · show (as'.m ++ [p]).length = (st' ++ [b]).length
    simp [w.len]
  · show (as'.m ++ [p]).Nodup
    rw [List.nodup_append]
    exact ⟨w.nd, by simp, fun a ha c hc z => hm (by rw [← List.mem_singleton.mp hc, ← z]; exact ha)⟩
  · intro a ha
    rcases List.mem_append.mp (show a ∈ as'.m ++ [p] from ha) with z | z
    · exact fun q => w.sep a z (sx a q)
    · rw [List.mem_singleton.mp z]; exact fun q => w0.nin e.free (.inr q)
  · exact fun a ha => w.lv a (sx a ha)
  · intro n c hn
    by_cases hl : n < st'.length
    · rw [List.getElem?_append_left hl] at hn
      obtain ⟨a, u, h1, h2, h3⟩ := w.ob n c hn
      exact ⟨a, u, l.at h1, h2, h3.mv l⟩
    · rw [List.getElem?_append_right (by omega)] at hn
      have h0 : n - st'.length = 0 := by
        rcases Nat.eq_zero_or_pos (n - st'.length) with z | z
        · exact z
        · rw [List.getElem?_eq_none (by simp; omega)] at hn; cases hn
      rw [h0] at hn
      cases hn
      have hnn : n = as'.m.length := by have := w.len; omega
      subst hnn
      exact ⟨p, h, by simp, hp, r.mv l⟩
end
end DL

/-! DL2: readings of plain functions over data: lifts, and the rules for expressions, tests, statements, defs. -/
namespace DL
open PySem PySem.Spec PyProof.Rows L2

inductive Fl where
  | nx | rt (d : D) | bk | ct | ex (x : Exn)
abbrev DS := En → Sto → R (Fl × En)
/-- an expression within a statement -/
@[reducible] def R.stm {α : Type} (r : R α) (σ : En) (k : α → Sto → R (Fl × En)) : R (Fl × En) := match r with
  | .ok a st => k a st
  | .exc x st => .ok (.ex x, σ) st
  | .bad => .bad

section
variable {K : PySem.W.Frag} {cl : Cl} {as as' : Mp} {H H' : Hp} {st : Sto}
/-- an exception's object -/
def RepX (K : PySem.W.Frag) (cl : Cl) (as : Mp) (H : Hp) (x : Exn) (u : Value) (dx : Option Addr) : Prop :=
  u = .ref (cl x.cls) ∧ ((x.fs = [] ∧ dx = none) ∨ ∃ d fx, dx = some d ∧ d ∉ as ∧ H d = some (.xd fx) ∧ RepF K as H x.fs fx)
theorem RepX.evo {x : Exn} {u : Value} {dx : Option Addr} (e : Evo as H as' H') (r : RepX K cl as H x u dx) : RepX K cl as' H' x u dx := by
  obtain ⟨h, r⟩ := r
  refine ⟨h, r.imp id fun ⟨d, fx, h1, h2, h3, h4⟩ => ⟨d, fx, h1, e.out h3 h2, e.keep _ _ h3 h2, h4.evo e⟩⟩

/-- what is wanted behind a run -/
def Post {α : Type} (K : PySem.W.Frag) (cl : Cl) (E : XK) (as : Mp) (H : Hp) (r : R α) (Q : α → Sto → Mp → Hp → Prop) : Prop := match r with
  | .ok a st => ∀ as' H', Evo as H as' H' → Wd K cl as' st H' → Q a st as' H'
  | .exc x st => ∀ u dx as' H', Evo as H as' H' → Wd K cl as' st H' → RepX K cl as' H' x u dx → E u dx H'
  | .bad => False
theorem Post.evo {α : Type} {E : XK} {r : R α} {Q : α → Sto → Mp → Hp → Prop} (e : Evo as H as' H') (p : Post K cl E as H r Q) : Post K cl E as' H' r Q := by
  cases r with
  | ok a st => exact fun bs J f w => p bs J (e.trans f) w
  | exc x st => exact fun u dx bs J f w => p u dx bs J (e.trans f) w
  | bad => exact p
theorem Post.mono {α : Type} {E : XK} {r : R α} {Q Q' : α → Sto → Mp → Hp → Prop} (p : Post K cl E as H r Q)
    (h : ∀ a st as' H', Evo as H as' H' → Wd K cl as' st H' → Q a st as' H' → Q' a st as' H') : Post K cl E as H r Q' := by
  cases r with
  | ok a st => exact fun bs J f w => h _ _ _ _ f w (p bs J f w)
  | exc x st => exact p
  | bad => exact p
theorem Post.bind {α β : Type} {E : XK} {r : R α} {k : α → Sto → R β} {Q : β → Sto → Mp → Hp → Prop} (p : Post K cl E as H (r.bind k) Q) :
    Post K cl E as H r fun a st as' H' => Post K cl E as' H' (k a st) Q := by
  cases r with
  | ok a st => exact fun bs J f w => Post.evo f p
  | exc x st => exact p
  | bad => exact p
theorem Post.here {α : Type} {E : XK} {a : α} {Q : α → Sto → Mp → Hp → Prop} (p : Post K cl E as H (.ok a st) Q) (w : Wd K cl as st H) : Q a st as H := p as H .refl w
end

abbrev W0 : WX := fun _ _ _ _ => False
/-- a value's end -/
abbrev QV (K : PySem.W.Frag) (Q : VK) : D → Sto → Mp → Hp → Prop := fun d _ as H => ∀ v, Rep K as H d v → Q v H
def lift (K : PySem.W.Frag) (cl : Cl) (W : WX) (t : DE) : TE := fun σ H Q => ∃ as st τ, Wd K cl as st H ∧ RepE K as H τ σ ∧ Post K cl (WE W σ) as H (t τ st) (QV K Q)
def liftT (K : PySem.W.Frag) (cl : Cl) (W : WX) (t : DT) : TT := fun σ H Q => ∃ as st τ, Wd K cl as st H ∧ RepE K as H τ σ ∧ Post K cl (WE W σ) as H (t τ st) fun b _ _ H' => Q b H'
def liftA (K : PySem.W.Frag) (cl : Cl) (W : WX) (t : DA) : TA := fun σ H Q => ∃ as st τ, Wd K cl as st H ∧ RepE K as H τ σ ∧ Post K cl (WE W σ) as H (t τ st) fun ds _ as' H' => ∀ vs, Reps K as' H' ds vs → Q vs H'
def FlOk (K : PySem.W.Frag) (cl : Cl) (W : WX) (M : Ends) (as : Mp) (H : Hp) (τ : En) : Fl → Prop
  | .nx => ∀ σ, RepE K as H τ σ → M.nx σ H
  | .rt d => ∀ v, Rep K as H d v → M.rt v H
  | .bk => ∀ σ, RepE K as H τ σ → M.bk σ H
  | .ct => ∀ σ, RepE K as H τ σ → M.ct σ H
  | .ex x => ∀ σ u dx, RepE K as H τ σ → RepX K cl as H x u dx → W u dx σ H
abbrev E00 : XK := fun _ _ _ => False
def liftS (K : PySem.W.Frag) (cl : Cl) (W : WX) (t : DS) : TS := fun M σ H => ∃ as st τ, Wd K cl as st H ∧ RepE K as H τ σ ∧ Post K cl E00 as H (t τ st) fun r _ as' H' => FlOk K cl W M as' H' r.2 r.1

abbrev JE (X : Cx) (cl : Cl) (W : WX) (e : Expr) (t : DE) : Prop := PE X e (lift X.K cl W t)
abbrev JT (X : Cx) (cl : Cl) (W : WX) (e : Expr) (t : DT) : Prop := PT X e (liftT X.K cl W t)
abbrev JW (X : Cx) (cl : Cl) (W : WX) (e : Expr) (t : DT) : Prop := PW X e (liftT X.K cl W t)
abbrev JA (X : Cx) (cl : Cl) (W : WX) (es : List Expr) (t : DA) : Prop := PA X es (liftA X.K cl W t)
abbrev JS (X : Cx) (cl : Cl) (W : WX) (s : Stmt) (t : DS) : Prop := PS X s (liftS X.K cl W t)
abbrev JSs (X : Cx) (cl : Cl) (W : WX) (s : List Stmt) (t : DS) : Prop := PSs X s (liftS X.K cl W t)

section
variable {X : Cx}
theorem PE.mono {e : Expr} {t t' : TE} (h : PE X e t) (k : ∀ σ H Q, t' σ H Q → t σ H Q) : PE X e t' := ⟨fun pins s σ H Q I q => h.run pins s σ H Q I (k _ _ _ q)⟩
theorem PT.mono {e : Expr} {t t' : TT} (h : PT X e t) (k : ∀ σ H Q, t' σ H Q → t σ H Q) : PT X e t' := ⟨fun pins s σ H Q I q => h.run pins s σ H Q I (k _ _ _ q)⟩
theorem PW.mono {e : Expr} {t t' : TT} (h : PW X e t) (k : ∀ σ H Q, t' σ H Q → t σ H Q) : PW X e t' := ⟨fun wh pins s σ H Q I q => h.run wh pins s σ H Q I (k _ _ _ q)⟩
theorem PA.mono {e : List Expr} {t t' : TA} (h : PA X e t) (k : ∀ σ H Q, t' σ H Q → t σ H Q) : PA X e t' := ⟨fun pos pins s σ H Q I q => h.run pos pins s σ H Q I (k _ _ _ q)⟩
theorem PS.mono {e : Stmt} {t t' : TS} (h : PS X e t) (k : ∀ M σ H, t' M σ H → t M σ H) : PS X e t' := ⟨fun pins s σ H M I q => h.run pins s σ H M I (k _ _ _ q)⟩
theorem PSs.mono {e : List Stmt} {t t' : TS} (h : PSs X e t) (k : ∀ M σ H, t' M σ H → t M σ H) : PSs X e t' := ⟨fun pins s σ H M I q => h.run pins s σ H M I (k _ _ _ q)⟩
theorem PG.mono {e : Expr} {t t' : TG} (h : PG X e t) (k : ∀ v σ H Q, t' v σ H Q → t v σ H Q) : PG X e t' := ⟨fun pins s σ H v u Q I r q => h.run pins s σ H v u Q I r (k _ _ _ _ q)⟩
theorem OpR.mono {f : Value → Value → Sem Value} {r r' : R2} (h : OpR X f r) (k : ∀ x y H Q, r' x y H Q → r x y H Q) : OpR X f r' := fun pins s σ H x y v u Q I r1 r2 q => h pins s σ H x y v u Q I r1 r2 (k _ _ _ _ q)
theorem OpR.or {f : Value → Value → Sem Value} {r r' : R2} (h : OpR X f r) (h' : OpR X f r') : OpR X f (fun x y H Q => r x y H Q ∨ r' x y H Q) := fun pins s σ H x y v u Q I r1 r2 q =>
  q.elim (h pins s σ H x y v u Q I r1 r2) (h' pins s σ H x y v u Q I r1 r2)
theorem CallR.mono {f : Value} {r r' : List V → Hp → VK → Prop} (h : CallR X f r) (k : ∀ xs H Q, r' xs H Q → r xs H Q) : CallR X f r' := fun pins s σ H xs us Q I r q => h pins s σ H xs us Q I r (k _ _ _ q)
theorem IxR.mono {r r' : R2} (h : IxR X r) (k : ∀ x y H Q, r' x y H Q → r x y H Q) : IxR X r' := fun a b pins s σ H x y v u Q I r1 r2 q => h a b pins s σ H x y v u Q I r1 r2 (k _ _ _ _ q)
theorem PI.mono {tg e : Expr} {t t' : TI} (h : PI X tg e t) (k : ∀ σ H R, t' σ H R → t σ H R) : PI X tg e t' := ⟨fun pins s σ H R I q => h.run pins s σ H R I (k _ _ _ q)⟩
end

/-! ### names, constants -/
def dVar (i : Nat) : DE := fun τ st => match τ[i]? with
  | some (some d) => .ok d st
  | _ => .bad
def dC (d : D) : DE := fun _ st => .ok d st
section
variable {X : Cx} {cl : Cl} {W : WX} {pos : Pos}
theorem j_var {i : Nat} {e : Expr} (h : PE X e (tVar i)) : JE X cl W e (dVar i) := PE.mono h fun σ H Q ⟨as, st, τ, w, e, p⟩ => by
  unfold dVar at p
  split at p
  · rename_i d hd
    obtain ⟨v, h1, h2⟩ := e.get i d hd
    exact ⟨v, h1, Post.here p w v h2⟩
  · exact p.elim
theorem j_c {e : Expr} {d : D} {v : V} (h : PE X e (tC v)) (r : ∀ as H, Rep X.K as H d v) : JE X cl W e (dC d) := PE.mono h fun σ H Q ⟨as, st, τ, w, e, p⟩ => Post.here p w v (r as H)
theorem j_int {i j} : JE X cl W (.Constant (.int i) j pos) (dC (.int i)) := j_c pe_int fun _ _ => .int i
theorem j_bl {b j} : JE X cl W (.Constant (.bool b) j pos) (dC (.bl b)) := j_c pe_bl fun _ _ => .bl b
theorem j_non {j} : JE X cl W (.Constant .none j pos) (dC .non) := j_c pe_non fun _ _ => .non
theorem j_str {x j} : JE X cl W (.Constant (.str x) j pos) (dC (.str x)) := j_c pe_str fun _ _ => .str x
end

/-! ### operations on two values -/
abbrev D2 := D → D → Sto → R D
def liftR (K : PySem.W.Frag) (cl : Cl) (E : XK) (r : D2) : R2 := fun x y H Q => ∃ as st dx dy, Wd K cl as st H ∧ Rep K as H dx x ∧ Rep K as H dy y ∧ Post K cl E as H (r dx dy st) (QV K Q)
def dBin (r : D2) (ta tb : DE) : DE := fun τ st => (ta τ st).bind fun x st => (tb τ st).bind fun y st => r x y st
/-- the rule of an operator, whatever is wished for exceptions -/
def OpJ (X : Cx) (cl : Cl) (f : Value → Value → Sem Value) (r : D2) : Prop := ∀ E : XK, OpR X f (liftR X.K cl E r)
section
variable {X : Cx} {cl : Cl} {W : WX} {pos : Pos} {a b c : Expr} {ta tb tc : DE}
theorem lift_bin {r : D2} {σ : L2.St} {H : Hp} {Q : VK} (h : lift X.K cl W (dBin r ta tb) σ H Q) : tOp (liftR X.K cl (WE W σ) r) (lift X.K cl W ta) (lift X.K cl W tb) σ H Q := by
  obtain ⟨as, st, τ, w, e, p⟩ := h
  refine ⟨as, st, τ, w, e, p.bind.mono fun d st1 as1 H1 e1 w1 p1 x rx => ⟨as1, st1, τ, w1, e.evo e1, p1.bind.mono fun d2 st2 as2 H2 e2 w2 p2 y ry => ?_⟩⟩
  exact ⟨as2, st2, d, d2, w2, rx.evo e2, ry, p2⟩
/-- an operator's rule at a wish that hangs on the slots -/
theorem pe_opS {op : Operator} {r : L2.St → R2} {t1 t2 : TE} (ho : ∀ σ, OpR X (binaryOp op) (r σ)) (ha : PE X a t1) (hb : PE X b t2) : PE X (.BinOp a op b pos) (fun σ H Q => tOp (r σ) t1 t2 σ H Q) :=
  ⟨fun pins s σ H Q I h => (pe_op (pos := pos) (ho σ) ha hb).run pins s σ H Q I h⟩
theorem j_op {op : Operator} {r : D2} (ho : OpJ X cl (binaryOp op) r) (ha : JE X cl W a ta) (hb : JE X cl W b tb) : JE X cl W (.BinOp a op b pos) (dBin r ta tb) :=
  PE.mono (pe_opS (fun σ => ho (WE W σ)) ha hb) fun _ _ _ h => lift_bin h
theorem pe_cmpS {op : CmpOp} {r : L2.St → R2} {t1 t2 : TE} (ho : ∀ σ, OpR X (compareOp op) (r σ)) (ha : PE X a t1) (hb : PE X b t2) (hm : behindInMarks op b = false) : PE X (.Compare a [op] [b] pos) (fun σ H Q => tOp (r σ) t1 t2 σ H Q) :=
  ⟨fun pins s σ H Q I h => (pe_cmpR (pos := pos) (ho σ) ha hb hm).run pins s σ H Q I h⟩
theorem j_cmp {op : CmpOp} {r : D2} (ho : OpJ X cl (compareOp op) r) (ha : JE X cl W a ta) (hb : JE X cl W b tb) (hm : behindInMarks op b = false) : JE X cl W (.Compare a [op] [b] pos) (dBin r ta tb) :=
  PE.mono (pe_cmpS (fun σ => ho (WE W σ)) ha hb hm) fun _ _ _ h => lift_bin h
theorem pt_cmpS {op : CmpOp} {r : L2.St → R2} {t1 t2 : TE} (ho : ∀ σ, OpR X (compareOp op) (r σ)) (ha : PE X a t1) (hb : PE X b t2) (hm : behindInMarks op b = false) : PT X (.Compare a [op] [b] pos) (fun σ H Q => tTest (tOp (r σ) t1 t2) σ H Q) :=
  ⟨fun pins s σ H Q I h => (pt_cmpR (pos := pos) (ho σ) ha hb hm).run pins s σ H Q I h⟩
/-- a value that is a truth -/
@[reducible] def R.tru (r : R D) : R Bool := r.bind fun d st => match d with
  | .bl b => .ok b st
  | _ => .bad
def dTst (t : DE) : DT := fun τ st => (t τ st).tru
theorem j_tcmp {op : CmpOp} {r : D2} (ho : OpJ X cl (compareOp op) r) (ha : JE X cl W a ta) (hb : JE X cl W b tb) (hm : behindInMarks op b = false) : JT X cl W (.Compare a [op] [b] pos) (dTst (dBin r ta tb)) := by
  refine PT.mono (pt_cmpS (fun σ => ho (WE W σ)) ha hb hm) fun σ H Q ⟨as, st, τ, w, e, p⟩ => ?_
  show tOp _ _ _ σ H _
  refine lift_bin ⟨as, st, τ, w, e, p.bind.mono fun d st1 as1 H1 e1 w1 p1 v rv => ?_⟩
  cases d with
  | bl b => cases rv; exact ⟨b, rfl, p1.here w1⟩
  | _ => exact p1.elim
end

/-! ### tests -/
/-- a value's truth -/
def truD (d : D) (st : Sto) : Option Bool := match d with
  | .non => some false
  | .bl b => some b
  | .int i => some (i != 0)
  | .str y => if y.length ≤ sizeLine then some ((y.length : Int) != 0) else none
  | .tup ds => some (!ds.isEmpty)
  | .lst ds => some (!ds.isEmpty)
  | .fro ds => some (!ds.isEmpty)
  | .dic kvs => some (!kvs.isEmpty)
  | .ref n => match st[n]? with
    | some (.lst ds) => some (!ds.isEmpty)
    | some (.dK kvs) => some (!kvs.isEmpty)
    | _ => none
  | .raw _ => none
@[reducible] def R.opt {α : Type} (o : Option α) (st : Sto) : R α := match o with
  | some a => .ok a st
  | none => .bad
def dTru (t : DE) : DT := fun τ st => (t τ st).bind fun d st => R.opt (truD d st) st
theorem isEmpty_len {α β : Type} {l : List α} {m : List β} (h : l.length = m.length) : l.isEmpty = m.isEmpty := by
  cases l <;> cases m <;> first | rfl | cases h
theorem RepF.len {K : PySem.W.Frag} {as : Mp} {H : Hp} {κ : Type} : ∀ {ds : List (κ × D)} {vs : List (κ × V)}, RepF K as H ds vs → ds.length = vs.length
  | _, _, .nil => rfl
  | _, _, .cons _ t => by rw [List.length_cons, List.length_cons, RepF.len t]
theorem RepK.f {K : PySem.W.Frag} {as : Mp} {H : Hp} : ∀ {ds : List (Key × D)} {vs : List (Key × V)}, RepK K as H ds vs → RepF K as H ds vs
  | _, _, .nil => .nil
  | _, _, .cons r t => .cons r (RepK.f t)
theorem RepF.k {K : PySem.W.Frag} {as : Mp} {H : Hp} : ∀ {ds : List (Key × D)} {vs : List (Key × V)}, RepF K as H ds vs → RepK K as H ds vs
  | _, _, .nil => .nil
  | _, _, .cons r t => .cons r (RepF.k t)
section
variable {X : Cx} {cl : Cl} {W : WX} {pos : Pos} {a b c : Expr} {ta tb tc : DE} {ua ub : DT} {rest : List Expr}
theorem truD_ok {as : Mp} {st : Sto} {H : Hp} {d : D} {v : V} {k : Bool} (w : Wd X.K cl as st H) (r : Rep X.K as H d v) (h : truD d st = some k) : TruV X.K v H k := by
  cases r with
  | non => cases h; exact rfl
  | bl b => cases h; exact rfl
  | int i => cases h; exact rfl
  | str y =>
    have h : (if y.length ≤ sizeLine then some ((y.length : Int) != 0) else none) = some k := h
    by_cases hy : y.length ≤ sizeLine
    · rw [if_pos hy] at h; cases h; exact ⟨hy, rfl⟩
    · rw [if_neg hy] at h; cases h
  | tup s r => cases h; exact .inr (.inl ⟨_, s.t, by rw [isEmpty_len r.len]⟩)
  | lst n h1 r => cases h; exact .inl ⟨_, .of h1, by rw [isEmpty_len r.len]⟩
  | fro s r => cases h; exact .inl ⟨_, s.l, by rw [isEmpty_len r.len]⟩
  | dic n h1 r => cases h; exact .inr (.inr ⟨_, h1, by rw [isEmpty_len r.f.len]⟩)
  | @ref n a h1 =>
    have h : (match st[n]? with | some (.lst ds) => some (!ds.isEmpty) | some (.dK kvs) => some (!kvs.isEmpty) | _ => none) = some k := h
    cases hs : st[n]? with
    | none => rw [hs] at h; cases h
    | some o =>
      rw [hs] at h
      obtain ⟨ho, h2, h3⟩ := w.at h1 hs
      cases h3 with
      | lst r => cases h; exact .inl ⟨_, .of h2, by rw [isEmpty_len r.len]⟩
      | dK r => cases h; exact .inr (.inr ⟨_, h2, by rw [isEmpty_len r.len]⟩)
      | dT r => cases h
      | ins r => cases h
  | raw => cases h
theorem j_tru (ha : JE X cl W a ta) (he : ∀ whole, isTrue a X.env whole = (do let v ← whole; standAt a.pos; holding [v] (truthy v))) : JT X cl W a (dTru ta) := by
  refine PT.mono (pt_truth ha he) fun σ H Q ⟨as, st, τ, w, e, p⟩ => ⟨as, st, τ, w, e, p.bind.mono fun d st1 as1 H1 e1 w1 p1 v rv => ?_⟩
  cases h : truD d st1 with
  | none => rw [h] at p1; exact p1.elim
  | some k => rw [h] at p1; exact ⟨k, truD_ok w1 rv h, p1.here w1⟩
def dNotT (t : DT) : DT := fun τ st => (t τ st).bind fun b st => .ok (!b) st
def dAndT (t u : DT) : DT := fun τ st => (t τ st).bind fun b st => if b = true then u τ st else .ok false st
def dOrT (t u : DT) : DT := fun τ st => (t τ st).bind fun b st => if b = true then .ok true st else u τ st
theorem liftT_not {σ : L2.St} {H : Hp} {Q : Bool → Hp → Prop} (h : liftT X.K cl W (dNotT ua) σ H Q) : tNot (liftT X.K cl W ua) σ H Q := by
  obtain ⟨as, st, τ, w, e, p⟩ := h
  exact ⟨as, st, τ, w, e, p.bind.mono fun d st1 as1 H1 e1 w1 p1 => p1.here w1⟩
theorem liftT_and {σ : L2.St} {H : Hp} {Q : Bool → Hp → Prop} (h : liftT X.K cl W (dAndT ua ub) σ H Q) : tAnd (liftT X.K cl W ua) (liftT X.K cl W ub) σ H Q := by
  obtain ⟨as, st, τ, w, e, p⟩ := h
  refine ⟨as, st, τ, w, e, p.bind.mono fun d st1 as1 H1 e1 w1 p1 => ?_⟩
  cases d with
  | true => exact ⟨as1, st1, τ, w1, e.evo e1, p1⟩
  | false => exact p1.here w1
theorem liftT_or {σ : L2.St} {H : Hp} {Q : Bool → Hp → Prop} (h : liftT X.K cl W (dOrT ua ub) σ H Q) : tOr (liftT X.K cl W ua) (liftT X.K cl W ub) σ H Q := by
  obtain ⟨as, st, τ, w, e, p⟩ := h
  refine ⟨as, st, τ, w, e, p.bind.mono fun d st1 as1 H1 e1 w1 p1 => ?_⟩
  cases d with
  | false => exact ⟨as1, st1, τ, w1, e.evo e1, p1⟩
  | true => exact p1.here w1
theorem j_tnot (ha : JT X cl W a ua) : JT X cl W (.UnaryOp .Not a pos) (dNotT ua) := PT.mono (pt_not ha) fun _ _ _ h => liftT_not h
theorem j_and1 (ha : JT X cl W a ua) : JW X cl W (.BoolOp .And [a] pos) ua := pw_and1 ha
theorem j_or1 (ha : JT X cl W a ua) : JW X cl W (.BoolOp .Or [a] pos) ua := pw_or1 ha
theorem j_and (ha : JT X cl W a ua) (hb : JW X cl W (.BoolOp .And (b :: rest) pos) ub) : JW X cl W (.BoolOp .And (a :: b :: rest) pos) (dAndT ua ub) := PW.mono (pw_and ha hb) fun _ _ _ h => liftT_and h
theorem j_or (ha : JT X cl W a ua) (hb : JW X cl W (.BoolOp .Or (b :: rest) pos) ub) : JW X cl W (.BoolOp .Or (a :: b :: rest) pos) (dOrT ua ub) := PW.mono (pw_or ha hb) fun _ _ _ h => liftT_or h
theorem j_w (h : JW X cl W a ua) : JT X cl W a ua := h.pt
/-- as values: all but the last are truths -/
def dAndV (t u : DE) : DE := fun τ st => (t τ st).tru.bind fun b st => if b = true then u τ st else .ok (.bl false) st
def dOrV (t u : DE) : DE := fun τ st => (t τ st).tru.bind fun b st => if b = true then .ok (.bl true) st else u τ st
def dNotV (t : DE) : DE := fun τ st => (t τ st).tru.bind fun b st => .ok (.bl (!b)) st
theorem Post.tru {K : PySem.W.Frag} {E : XK} {as : Mp} {H : Hp} {r : R D} {Q : Bool → Sto → Mp → Hp → Prop} (p : Post K cl E as H r.tru Q) :
    Post K cl E as H r fun d st as' H' => ∃ b, d = .bl b ∧ Q b st as' H' := p.bind.mono fun d st as' H' e w p1 => by
  cases d with
  | bl b => exact ⟨b, rfl, p1.here w⟩
  | _ => exact p1.elim
theorem j_vone {op} (h : JE X cl W a ta) : JE X cl W (.BoolOp op [a] pos) ta := pe_one h
theorem j_vand (ha : JE X cl W a ta) (hb : JE X cl W (.BoolOp .And (b :: rest) pos) tb) : JE X cl W (.BoolOp .And (a :: b :: rest) pos) (dAndV ta tb) := by
  refine PE.mono (pe_and ha hb) fun σ H Q ⟨as, st, τ, w, e, p⟩ => ⟨as, st, τ, w, e, p.bind.tru.mono fun d st1 as1 H1 e1 w1 ⟨k, hk, p1⟩ v rv => ?_⟩
  subst hk
  cases rv
  refine ⟨k, rfl, ?_⟩
  cases k with
  | true => exact ⟨as1, st1, τ, w1, e.evo e1, p1⟩
  | false => exact p1.here w1 _ (.bl false)
theorem j_vor (ha : JE X cl W a ta) (hb : JE X cl W (.BoolOp .Or (b :: rest) pos) tb) : JE X cl W (.BoolOp .Or (a :: b :: rest) pos) (dOrV ta tb) := by
  refine PE.mono (pe_or ha hb) fun σ H Q ⟨as, st, τ, w, e, p⟩ => ⟨as, st, τ, w, e, p.bind.tru.mono fun d st1 as1 H1 e1 w1 ⟨k, hk, p1⟩ v rv => ?_⟩
  subst hk
  cases rv
  refine ⟨k, rfl, ?_⟩
  cases k with
  | false => exact ⟨as1, st1, τ, w1, e.evo e1, p1⟩
  | true => exact p1.here w1 _ (.bl true)
theorem j_vnot (ha : JE X cl W a ta) : JE X cl W (.UnaryOp .Not a pos) (dNotV ta) := by
  refine PE.mono (pe_not ha) fun σ H Q ⟨as, st, τ, w, e, p⟩ => ⟨as, st, τ, w, e, p.bind.tru.mono fun d st1 as1 H1 e1 w1 ⟨k, hk, p1⟩ v rv => ?_⟩
  subst hk
  cases rv
  exact ⟨k, rfl, p1.here w1 _ (.bl _)⟩
def dIf (t : DT) (u v : DE) : DE := fun τ st => (t τ st).bind fun b st => if b = true then u τ st else v τ st
theorem j_if (hc : JT X cl W c ua) (ha : JE X cl W a ta) (hb : JE X cl W b tb) : JE X cl W (.IfExp c a b pos) (dIf ua ta tb) := by
  refine PE.mono (pe_ifExp hc ha hb) fun σ H Q ⟨as, st, τ, w, e, p⟩ => ⟨as, st, τ, w, e, p.bind.mono fun d st1 as1 H1 e1 w1 p1 => ?_⟩
  cases d with
  | true => exact ⟨as1, st1, τ, w1, e.evo e1, p1⟩
  | false => exact ⟨as1, st1, τ, w1, e.evo e1, p1⟩
/-- a op1 b op2 c -/
def dChain (r r' : D2) (ta tb tc : DE) : DE := fun τ st => (ta τ st).bind fun x st => (tb τ st).bind fun y st => (r x y st).tru.bind fun k st => if k = true then (tc τ st).bind fun z st => r' y z st else .ok (.bl false) st
theorem lift_chain {r r' : D2} {σ : L2.St} {H : Hp} {Q : VK} (h : lift X.K cl W (dChain r r' ta tb tc) σ H Q) :
    tChain (liftR X.K cl (WE W σ) r) (liftR X.K cl (WE W σ) r') (lift X.K cl W ta) (lift X.K cl W tb) (lift X.K cl W tc) σ H Q := by
  obtain ⟨as, st, τ, w, e, p⟩ := h
  refine ⟨as, st, τ, w, e, p.bind.mono fun d1 st1 as1 H1 e1 w1 p1 x rx => ⟨as1, st1, τ, w1, e.evo e1, p1.bind.mono fun d2 st2 as2 H2 e2 w2 p2 y ry => ?_⟩⟩
  refine ⟨as2, st2, d1, d2, w2, rx.evo e2, ry, p2.bind.tru.mono fun d3 st3 as3 H3 e3 w3 ⟨k, hk, p3⟩ z rz => ?_⟩
  subst hk
  cases rz
  refine ⟨k, rfl, ?_⟩
  cases k with
  | false => exact p3.here w3 _ (.bl _)
  | true =>
    show lift _ _ _ _ _ _ _
    refine ⟨as3, st3, τ, w3, ((e.evo e1).evo e2).evo e3, Post.mono (Post.bind p3) fun d4 st4 as4 H4 e4 w4 p4 z rz => ⟨as4, st4, d2, d4, w4, (ry.evo e3).evo e4, rz, p4⟩⟩
theorem pe_chainS {op op' : CmpOp} {r r' : L2.St → R2} {t1 t2 t3 : TE} (ho : ∀ σ, OpR X (compareOp op) (r σ)) (ho' : ∀ σ, OpR X (compareOp op') (r' σ)) (ha : PE X a t1) (hb : PE X b t2) (hc : PE X c t3)
    (hm : lastMarks [op, op'] [b, c] = false) : PE X (.Compare a [op, op'] [b, c] pos) (fun σ H Q => tChain (r σ) (r' σ) t1 t2 t3 σ H Q) :=
  ⟨fun pins s σ H Q I h => (pe_chain (pos := pos) (ho σ) (ho' σ) ha hb hc hm).run pins s σ H Q I h⟩
theorem pt_chainS {op op' : CmpOp} {r r' : L2.St → R2} {t1 t2 t3 : TE} (ho : ∀ σ, OpR X (compareOp op) (r σ)) (ho' : ∀ σ, OpR X (compareOp op') (r' σ)) (ha : PE X a t1) (hb : PE X b t2) (hc : PE X c t3)
    (hm : lastMarks [op, op'] [b, c] = false) : PT X (.Compare a [op, op'] [b, c] pos) (fun σ H Q => tTest (tChain (r σ) (r' σ) t1 t2 t3) σ H Q) :=
  ⟨fun pins s σ H Q I h => (pt_chain (pos := pos) (ho σ) (ho' σ) ha hb hc hm).run pins s σ H Q I h⟩
theorem j_chain {op op' : CmpOp} {r r' : D2} (ho : OpJ X cl (compareOp op) r) (ho' : OpJ X cl (compareOp op') r') (ha : JE X cl W a ta) (hb : JE X cl W b tb) (hc : JE X cl W c tc) (hm : lastMarks [op, op'] [b, c] = false := by with_unfolding_all rfl) :
    JE X cl W (.Compare a [op, op'] [b, c] pos) (dChain r r' ta tb tc) := PE.mono (pe_chainS (fun σ => ho (WE W σ)) (fun σ => ho' (WE W σ)) ha hb hc hm) fun _ _ _ h => lift_chain h
theorem j_tchain {op op' : CmpOp} {r r' : D2} (ho : OpJ X cl (compareOp op) r) (ho' : OpJ X cl (compareOp op') r') (ha : JE X cl W a ta) (hb : JE X cl W b tb) (hc : JE X cl W c tc) (hm : lastMarks [op, op'] [b, c] = false := by with_unfolding_all rfl) :
    JT X cl W (.Compare a [op, op'] [b, c] pos) (dTst (dChain r r' ta tb tc)) := by
  refine PT.mono (pt_chainS (fun σ => ho (WE W σ)) (fun σ => ho' (WE W σ)) ha hb hc hm) fun σ H Q ⟨as, st, τ, w, e, p⟩ => ?_
  show tChain _ _ _ _ _ σ H _
  refine lift_chain ⟨as, st, τ, w, e, p.tru.mono fun d st1 as1 H1 e1 w1 ⟨k, hk, p1⟩ v rv => ?_⟩
  subst hk
  cases rv
  exact ⟨k, rfl, p1⟩
end

/-! ### lists of expressions -/
def dNil : DA := fun _ st => .ok [] st
def dCons (t : DE) (u : DA) : DA := fun τ st => (t τ st).bind fun d st => (u τ st).bind fun ds st => .ok (d :: ds) st
section
variable {X : Cx} {cl : Cl} {W : WX} {pos : Pos} {e : Expr} {es : List Expr} {te : DE} {t : DA}
theorem ja_nil : JA X cl W [] dNil := PA.mono pa_nil fun σ H Q ⟨as, st, τ, w, e, p⟩ => p.here w _ .nil
theorem ja_cons (he : JE X cl W e te) (hr : JA X cl W es t) (hs : starEach (e :: es) X.env = (false, eval e X.env) :: starEach es X.env := by rfl) : JA X cl W (e :: es) (dCons te t) := by
  refine PA.mono (pa_cons he hr hs) fun σ H Q ⟨as, st, τ, w, e, p⟩ => ⟨as, st, τ, w, e, p.bind.mono fun d st1 as1 H1 e1 w1 p1 x rx => ⟨as1, st1, τ, w1, e.evo e1, p1.bind.mono fun ds st2 as2 H2 e2 w2 p2 xs rxs => ?_⟩⟩
  exact p2.here w2 _ (.cons (rx.evo e2) rxs)
def dTup (t : DA) : DE := fun τ st => (t τ st).bind fun ds st => if ds.length ≤ sizeLine then .ok (.tup ds) st else .bad
def dLst (t : DA) : DE := fun τ st => (t τ st).bind fun ds st => if ds.length ≤ sizeLine then .ok (.lst ds) st else .bad
/-- a list that will change -/
def dNew (t : DA) : DE := fun τ st => (t τ st).bind fun ds st => if ds.length ≤ sizeLine then .ok (.ref st.length) (st ++ [.lst ds]) else .bad
theorem Rep.newT {K : PySem.W.Frag} {as : Mp} {st : Sto} {H : Hp} {p : Addr} {ds : List D} {xs : List V} (w : Wd K cl as st H) (hp : H p = none) (r : Reps K as H ds xs) : Rep K as (upd H p (.tup xs)) (.tup ds) (.ref p) :=
  .tup (.inl ⟨w.nin hp, upd_same⟩) (r.evo (Evo.new w hp))
theorem Rep.newL {K : PySem.W.Frag} {as : Mp} {st : Sto} {H : Hp} {p : Addr} {ds : List D} {xs : List V} (w : Wd K cl as st H) (hp : H p = none) (r : Reps K as H ds xs) : Rep K as (upd H p (.lst xs)) (.lst ds) (.ref p) :=
  .lst (w.nin hp) upd_same (r.evo (Evo.new w hp))
theorem Rep.newRef {K : PySem.W.Frag} {as : Mp} {st : Sto} {H H2 : Hp} {p : Addr} (w : Wd K cl as st H) : Rep K (as.push p) H2 (.ref st.length) (.ref p) :=
  .ref (by rw [← w.len]; simp)
theorem j_tup {k} (h : JA X cl W es t) : JE X cl W (.Tuple es k pos) (dTup t) := by
  refine PE.mono (pe_tup h) fun σ H Q ⟨as, st, τ, w, e, p⟩ => ⟨as, st, τ, w, e, p.bind.mono fun ds st1 as1 H1 e1 w1 p1 xs rx => ?_⟩
  by_cases hl : ds.length ≤ sizeLine
  · rw [if_pos hl] at p1
    exact ⟨by rw [← rx.len]; exact hl, fun a ha => p1 as1 _ (Evo.new w1 ha) (w1.new ha) _ (Rep.newT w1 ha rx)⟩
  · rw [if_neg hl] at p1; exact p1.elim
theorem j_lst (h : JA X cl W es t) : JE X cl W (.List es pos) (dLst t) := by
  refine PE.mono (pe_lst h) fun σ H Q ⟨as, st, τ, w, e, p⟩ => ⟨as, st, τ, w, e, p.bind.mono fun ds st1 as1 H1 e1 w1 p1 xs rx => ?_⟩
  by_cases hl : ds.length ≤ sizeLine
  · rw [if_pos hl] at p1
    exact ⟨by rw [← rx.len]; exact hl, fun a ha => p1 as1 _ (Evo.new w1 ha) (w1.new ha) _ (Rep.newL w1 ha rx)⟩
  · rw [if_neg hl] at p1; exact p1.elim
theorem j_new (h : JA X cl W es t) : JE X cl W (.List es pos) (dNew t) := by
  refine PE.mono (pe_lst h) fun σ H Q ⟨as, st, τ, w, e, p⟩ => ⟨as, st, τ, w, e, p.bind.mono fun ds st1 as1 H1 e1 w1 p1 xs rx => ?_⟩
  by_cases hl : ds.length ≤ sizeLine
  · rw [if_pos hl] at p1
    exact ⟨by rw [← rx.len]; exact hl, fun a ha => p1 _ _ (Evo.push w1 ha) (w1.push ha (.lst rx)) _ (Rep.newRef w1)⟩
  · rw [if_neg hl] at p1; exact p1.elim
end

/-! ### statements -/
def dNext : DS := fun τ st => .ok (.nx, τ) st
def dSeq (t u : DS) : DS := fun τ st => (t τ st).bind fun r st => match r with
  | (.nx, τ) => u τ st
  | r => .ok r st
def dRet (t : DE) : DS := fun τ st => (t τ st).stm τ fun d st => .ok (.rt d, τ) st
def dRetN : DS := fun τ st => .ok (.rt .non, τ) st
def dDrop (t : DE) : DS := fun τ st => (t τ st).stm τ fun _ st => .ok (.nx, τ) st
def dBreak : DS := fun τ st => .ok (.bk, τ) st
def dCont : DS := fun τ st => .ok (.ct, τ) st
def dIfS (c : DT) (t u : DS) : DS := fun τ st => (c τ st).stm τ fun b st => if b = true then t τ st else u τ st
def dNever : DS := fun _ _ => .bad
section
variable {X : Cx} {cl : Cl} {W : WX} {pos : Pos} {e : Expr} {te : DE} {t u : DS} {s : Stmt} {rest body : List Stmt} {c : DT}
theorem Post.stm {α : Type} {K : PySem.W.Frag} {as : Mp} {H : Hp} {σ : L2.St} {τ : En} {r : R α} {k : α → Sto → R (Fl × En)} {M : Ends} (e : RepE K as H τ σ)
    (p : Post K cl E00 as H (r.stm τ k) fun r _ as' H' => FlOk K cl W M as' H' r.2 r.1) :
    Post K cl (WE W σ) as H r fun a st as' H' => Post K cl E00 as' H' (k a st) fun r _ as' H' => FlOk K cl W M as' H' r.2 r.1 := by
  cases r with
  | ok a st => exact fun bs J f w => Post.evo f p
  | exc x st => exact fun u dx bs J f w rx => p bs J f w σ u dx (e.evo f) rx
  | bad => exact p
theorem js_nil : JSs X cl W [] dNext := PSs.mono pss_nil fun M σ H ⟨as, st, τ, w, e, p⟩ => p.here w σ e
theorem js_cons (h1 : JS X cl W s t) (h2 : JSs X cl W rest u) : JSs X cl W (s :: rest) (dSeq t u) := by
  refine PSs.mono (pss_cons h1 h2) fun M σ H ⟨as, st, τ, w, e, p⟩ => ⟨as, st, τ, w, e, p.bind.mono fun r st1 as1 H1 e1 w1 p1 => ?_⟩
  obtain ⟨f, τ1⟩ := r
  cases f with
  | nx => exact fun σ1 r1 => ⟨as1, st1, τ1, w1, r1, p1⟩
  | rt d => exact p1.here w1
  | bk => exact p1.here w1
  | ct => exact p1.here w1
  | ex x => exact p1.here w1
theorem js_one (h1 : JS X cl W s t) : JSs X cl W [s] t := pss_one h1
theorem js_ret (he : JE X cl W e te) : JS X cl W (.Return (some e) pos) (dRet te) := by
  refine PS.mono (ps_ret he) fun M σ H ⟨as, st, τ, w, e, p⟩ => ⟨as, st, τ, w, e, (Post.stm e p).mono fun d st1 as1 H1 e1 w1 p1 v rv => ?_⟩
  exact p1.here w1 v rv
theorem js_retN : JS X cl W (.Return none pos) dRetN := PS.mono ps_retN fun M σ H ⟨as, st, τ, w, e, p⟩ => p.here w _ .non
theorem js_pass : JS X cl W (.Pass pos) dNext := PS.mono ps_pass fun M σ H ⟨as, st, τ, w, e, p⟩ => p.here w σ e
theorem js_break : JS X cl W (.Break pos) dBreak := PS.mono ps_break fun M σ H ⟨as, st, τ, w, e, p⟩ => p.here w σ e
theorem js_cont : JS X cl W (.Continue pos) dCont := PS.mono ps_continue fun M σ H ⟨as, st, τ, w, e, p⟩ => p.here w σ e
theorem js_never : JS X cl W s dNever := PS.mono ps_never fun M σ H ⟨as, st, τ, w, e, p⟩ => p.elim
theorem js_doc {x j p p'} : JS X cl W (.Expr (.Constant (.str x) j p) p') dNext := PS.mono ps_doc fun M σ H ⟨as, st, τ, w, e, p⟩ => p.here w σ e
theorem js_expr (he : JE X cl W e te) (hs : swapsWith e none pos.line X.env = pure false := by rfl) : JS X cl W (.Expr e pos) (dDrop te) := by
  refine PS.mono (ps_expr he hs) fun M σ H ⟨as, st, τ, w, e, p⟩ => ⟨as, st, τ, w, e, (Post.stm e p).mono fun d st1 as1 H1 e1 w1 p1 v rv => ?_⟩
  exact p1.here w1 σ (e.evo e1)
theorem js_if {c : Expr} {a b : List Stmt} {tc : DT} (hc : JT X cl W c tc) (ha : JSs X cl W a t) (hb : JSs X cl W b u) : JS X cl W (.If c a b pos) (dIfS tc t u) := by
  refine PS.mono (ps_if hc ha hb) fun M σ H ⟨as, st, τ, w, e, p⟩ => ⟨as, st, τ, w, e, (Post.stm e p).mono fun d st1 as1 H1 e1 w1 p1 => ?_⟩
  cases d with
  | true => exact ⟨as1, st1, τ, w1, e.evo e1, p1⟩
  | false => exact ⟨as1, st1, τ, w1, e.evo e1, p1⟩
end

/-! ### targets -/
abbrev DG := D → En → Sto → R En
def liftG (K : PySem.W.Frag) (cl : Cl) (W : WX) (t : DG) : TG := fun v σ H Q => ∃ as st τ d, Wd K cl as st H ∧ RepE K as H τ σ ∧ Rep K as H d v ∧ Post K cl (WE W σ) as H (t d τ st) fun τ' _ as' H' => ∀ σ', RepE K as' H' τ' σ' → Q σ' H'
abbrev JG (X : Cx) (cl : Cl) (W : WX) (e : Expr) (t : DG) : Prop := PG X e (liftG X.K cl W t)
def gN (i : Nat) : DG := fun d τ st => .ok (τ.set i (some d)) st
def dAsg (te : DE) (g : DG) : DS := fun τ st => (te τ st).stm τ fun d st => (g d τ st).stm τ fun τ' st => .ok (.nx, τ') st
section
variable {X : Cx} {cl : Cl} {W : WX} {pos : Pos} {e tg : Expr} {te : DE} {g : DG}
theorem jg_name {i : Nat} (h : PG X e (gName i)) : JG X cl W e (gN i) := PG.mono h fun v σ H Q ⟨as, st, τ, d, w, e, r, p⟩ => p.here w _ (e.set i r)
theorem js_asg (he : JE X cl W e te) (hg : JG X cl W tg g) (hs : swapsWithSole [tg] e pos.line X.env = pure false := by rfl) (hw : swappedStores [tg] e X.env = pure none := by rfl)
    (h1 : (assignEach [tg] X.env).map (·.2) = [assign tg X.env] := by rfl) : JS X cl W (.Assign [tg] e pos) (dAsg te g) := by
  refine PS.mono (ps_asg he hg hs hw h1) fun M σ H ⟨as, st, τ, w, e, p⟩ => ⟨as, st, τ, w, e, (Post.stm e p).mono fun d st1 as1 H1 e1 w1 p1 v rv => ?_⟩
  refine ⟨as1, st1, τ, d, w1, e.evo e1, rv, (Post.stm (e.evo e1) p1).mono fun τ' st2 as2 H2 e2 w2 p2 σ' r' => ?_⟩
  exact p2.here w2 σ' r'
/-- name = value -/
theorem js_set {i : Nat} {x : Str} {pos' : Pos} (hN : X.N.Nodup) (hi : X.N[i]? = some x) (hx : Loc X.env.scope x) (he : JE X cl W e te) (hs : swapsWith e (some (.Name x pos')) pos.line X.env = pure false := by rfl)
    (hf : X.fn x = true ∨ X.env.scope.names.lookup x = some .local := by first | exact .inl rfl | exact .inr rfl | assumption) : JS X cl W (.Assign [.Name x pos'] e pos) (dAsg te (gN i)) := by
  refine PS.mono (ps_set hN hi hx he hs hf) fun M σ H ⟨as, st, τ, w, e, p⟩ => ⟨as, st, τ, w, e, (Post.stm e p).mono fun d st1 as1 H1 e1 w1 p1 v rv => ?_⟩
  exact p1.here w1 _ ((e.evo e1).set i rv)
end
/-- several targets, for a tuple -/
abbrev DGs := List D → En → Sto → R En
def liftGs (K : PySem.W.Frag) (cl : Cl) (W : WX) (t : DGs) : TGs := fun vs σ H Q => ∃ as st τ ds, Wd K cl as st H ∧ RepE K as H τ σ ∧ Reps K as H ds vs ∧ Post K cl (WE W σ) as H (t ds τ st) fun τ' _ as' H' => ∀ σ', RepE K as' H' τ' σ' → Q σ' H'
theorem PGs.mono {X : Cx} {e : List Expr} {t t' : TGs} (h : PGs X e t) (k : ∀ v σ H Q, t' v σ H Q → t v σ H Q) : PGs X e t' := ⟨fun pins s σ H v u Q I r q => h.run pins s σ H v u Q I r (k _ _ _ _ q)⟩
abbrev JGs (X : Cx) (cl : Cl) (W : WX) (e : List Expr) (t : DGs) : Prop := PGs X e (liftGs X.K cl W t)
/-- names alone, by their places -/
def gNames : List Nat → DGs
  | [], ds, τ, st => if ds.isEmpty then .ok τ st else .bad
  | i :: is, ds, τ, st => match ds with
    | d :: ds => gNames is ds (τ.set i (some d)) st
    | [] => .bad
/-- the items of a tuple -/
def tupOf : D → Option (List D)
  | .tup ds => some ds
  | _ => none
def gTupN (is : List Nat) : DG := fun d τ st => match d with
  | .tup ds => if ds.length = is.length then gNames is ds τ st else .bad
  | _ => .bad
section
variable {X : Cx} {cl : Cl} {W : WX} {pos : Pos}
theorem jgs_nil : JGs X cl W [] (gNames []) := PGs.mono pgs_nil fun vs σ H Q ⟨as, st, τ, ds, w, e, r, p⟩ => by
  cases r with
  | nil => exact ⟨rfl, Post.here (show Post X.K cl (WE W σ) as H (.ok τ st) _ from p) w σ e⟩
  | cons _ _ => exact (show False from p).elim
theorem gNames_ok : ∀ (is : List Nat) (ds : List D) (τ : En) (st : Sto), (∃ τ', gNames is ds τ st = .ok τ' st) ∨ gNames is ds τ st = .bad
  | [], ds, τ, st => by
    cases ds with
    | nil => exact .inl ⟨τ, rfl⟩
    | cons _ _ => exact .inr rfl
  | i :: is, ds, τ, st => by
    cases ds with
    | nil => exact .inr rfl
    | cons d ds => exact gNames_ok is ds _ st
theorem jgs_cons {e : Expr} {es : List Expr} {i : Nat} {is : List Nat} (h1 : PG X e (gName i)) (h2 : JGs X cl W es (gNames is))
    (hs : (assignEach (e :: es) X.env).map (·.2) = assign e X.env :: (assignEach es X.env).map (·.2) := by rfl) : JGs X cl W (e :: es) (gNames (i :: is)) := by
  refine PGs.mono (pgs_cons h1 h2 hs) fun vs σ H Q ⟨as, st, τ, ds, w, e, r, p⟩ => ?_
  cases r with
  | nil => exact (show False from p).elim
  | @cons d v ds vs r rs =>
    refine ⟨v, vs, rfl, as, st, τ.set i (some d), ds, w, e.set i r, rs, ?_⟩
    have p : Post X.K cl (WE W σ) as H (gNames is ds (τ.set i (some d)) st) fun τ' _ as' H' => ∀ σ', RepE X.K as' H' τ' σ' → Q σ' H' := p
    rcases gNames_ok is ds (τ.set i (some d)) st with ⟨τ', h⟩ | h
    · rw [h] at p ⊢; exact p
    · rw [h] at p ⊢; exact p
theorem jg_tup {es : List Expr} {k : Nat} {is : List Nat} (hc : X.calm = true) (h : JGs X cl W es (gNames is))
    (hn : (assignEach es X.env).length = is.length := by rfl) (hst : (assignEach es X.env).findIdx? (·.1) = none := by rfl) : JG X cl W (.Tuple es k pos) (gTupN is) := by
  refine PG.mono (pg_tup hc h hn hst) fun v σ H Q ⟨as, st, τ, d, w, e, r, p⟩ => ?_
  unfold gTupN at p
  split at p
  · rename_i ds
    by_cases hl : ds.length = is.length
    · rw [if_pos hl] at p
      cases r with
      | tup s rs => exact ⟨_, _, rfl, s.t, by rw [← rs.len]; exact hl, as, st, τ, ds, w, e, rs, p⟩
    · rw [if_neg hl] at p; exact p.elim
  · exact p.elim
end

/-! ### defs -/
/-- a body's end, as its def's -/
@[reducible] def R.fin (r : R (Fl × En)) : R D := match r with
  | .ok (.nx, _) st => .ok .non st
  | .ok (.rt d, _) st => .ok d st
  | .ok (.ex x, _) st => .exc x st
  | _ => .bad
def dDef (N n : Nat) (body : DS) : DF := fun ds st => if ds.length = n then (body (startD N ds) st).fin else .bad
theorem def_go {N n : Nat} {body : DS} {ds : List D} {st : Sto} (h : ds.length = n) : dDef N n body ds st = (body (startD N ds) st).fin := if_pos h
/-- a promise by a plain function -/
def spD (K : PySem.W.Frag) (cl : Cl) (F : DF) : Sp := fun vs H Q E => ∃ as st ds, Wd K cl as st H ∧ Reps K as H ds vs ∧ Post K cl E as H (F ds st) (QV K Q)
/-! ### room, counted in single frames -/
structure Rm (k : Nat) (A : Around) : Prop where
  hd : A.handled = none
  dp : A.depth + k + 8 < recursionLimit
  un : A.units + 5 * k + 200 < cLine
theorem Rm.mono {j k : Nat} {A : Around} (r : Rm k A) (h : j ≤ k) : Rm j A := ⟨r.hd, by have := r.dp; omega, by have := r.un; omega⟩
theorem Rm.deeper {k : Nat} {A : Around} (r : Rm (k + 1) A) (env : Env) : Rm k (A.deeper env) :=
  ⟨r.hd, by have := r.dp; show A.depth + 1 + k + 8 < _; omega, by have := r.un; show A.units + 3 + 5 * k + 200 < _; omega⟩
theorem Rm.make {k : Nat} {A : Around} (r : Rm (k + 1) A) (C : Addr) (us : List Value) (kw : List (Str × Value)) : Rm k (A.under (.builtin "type.__call__" ⟨.ref C :: us, kw⟩)) :=
  ⟨r.hd, by have := r.dp; rw [make_depth]; omega, by have := r.un; rw [make_units]; omega⟩
theorem Rm.depth {k : Nat} {A : Around} (r : Rm k A) : A.depth < recursionLimit := by have := r.dp; omega
theorem Rm.of {n k : Nat} {A : Around} (r : Room k A) (h : n + 3 ≤ 3 * k) : Rm n A := ⟨r.hd, by have := r.dp; omega, by have := r.un; omega⟩
/-- a def's promise, in that room -/
structure FnQ (P : Program) (w : World) (K : PySem.W.Frag) (mg : Str → Option Value) (base : Heap) (CX : CXT) (k : Nat) (f : Addr) (fd : FuncData) (ps : List Str) (sp : Sp) : Prop where
  len : ∀ vs H Q E, sp vs H Q E → vs.length = ps.length
  run : ∀ (A : Around) (outer : List Env) (s : Shared) (H : Hp) (args : Args) (us : List Value) (vs : List V) (Q : VK) (E : XK), Rm k A → Env0 P w K mg base A outer s H → BindsTo s fd args (ps.zip us) → Vals vs us → sp vs H Q E →
    codeAny (model P w) A (.call (.ref f) args) (CR CX outer P w H s Q E) s
section
variable {P : Program} {w : World} {K : PySem.W.Frag} {mg : Str → Option Value} {base : Heap} {CX : CXT} {k : Nat} {f : Addr} {fd : FuncData} {ps : List Str} {sp sp' : Sp}
theorem FnQ.mono {j : Nat} (F : FnQ P w K mg base CX j f fd ps sp) (h : j ≤ k) : FnQ P w K mg base CX k f fd ps sp :=
  ⟨F.len, fun A outer s H args us vs Q E hr => F.run A outer s H args us vs Q E (hr.mono h)⟩
theorem FnQ.imp (F : FnQ P w K mg base CX k f fd ps sp) (h : ∀ vs H Q E, sp' vs H Q E → sp vs H Q E) : FnQ P w K mg base CX k f fd ps sp' :=
  ⟨fun vs H Q E q => F.len vs H Q E (h _ _ _ _ q), fun A outer s H args us vs Q E hr he hb hv hs => F.run A outer s H args us vs Q E hr he hb hv (h _ _ _ _ hs)⟩
theorem FnQ.ok {j : Nat} (F : FnQ P w K mg base CX j f fd ps sp) (h : j + 3 ≤ 3 * k) : FnOk P w K mg base CX k f fd ps sp :=
  ⟨F.len, fun A outer s H args us vs Q E hr => F.run A outer s H args us vs Q E (Rm.of hr h)⟩
end
theorem fnq_of {CX : CXT} {P : Program} {w : World} {K : PySem.W.Frag} {mg : Str → Option Value} {base : Heap} {k : Nat} {f : Addr} {name qual : Str} {params : Arguments} {body : List Stmt} {scope : Scope} {dV kV doc pm cdv ct oc : Value} {an od : Option Addr}
    {osl : Array (Option Value)} {N ps : List Str} {sp : Sp} (lk : K.lookup f = some ⟨oc, od, .func (PySem.W.fnOf name qual params body scope dV kV doc pm an cdv ct), osl⟩) (hcd : PySem.W.codeIn K cdv qual = true) (S : FnScope N ps scope)
    (len : ∀ vs H Q E, sp vs H Q E → vs.length = ps.length)
    (hbody : ∀ (A : Around) (outer : List Env) (s : Shared) (H : Hp) (vs : List V) (Q : VK) (E : XK), Rm k (A.deeper (envOfC qual scope s.heap.objs.size f cdv)) → sp vs H Q E →
      ∃ t, PSs (cxOf CX P w K mg base N qual scope f cdv A outer s H E) body t ∧ t { nx := fun _ H' => Q .non H', rt := Q } (start N vs) H) :
    FnQ P w K mg base CX (k + 1) f (PySem.W.fnOf name qual params body scope dV kV doc pm an cdv ct) ps sp := by
  refine ⟨len, fun A outer s H args us vs Q E hr e0 hb r hsp => ?_⟩
  have hl := len _ _ _ _ hsp
  have KX : K.In s.heap := e0.mod.kin.keeps fun b o e => (e0.bs b o e).1
  have lim : s.heap.NoLimit := e0.mod.nolimit.keeps fun b o e => (e0.bs b o e).1
  have hkind : ∀ y ∈ ps.zip us, scope.names.lookup y.1 = some .local ∨ (scope.names.lookup y.1 = some .cell ∧ ((cellsFrom (s.heap.objs.size + 1) scope.names []).lookup y.1).isSome = true) := fun ⟨n, v⟩ hy => by
    rcases S.par n (List.of_mem_zip hy).1 with q | q
    · exact .inl q
    · exact .inr ⟨q, PySem.W.cellsFrom_some _ _ _ (.inl q)⟩
  refine codeAny_call_function hr.depth (KX _ _ lk) rfl S.co S.gen rfl (PySem.W.codeRec_of KX hcd) (hb _ _ _ _ ?_)
  refine wpAny_newFunctionEnv_cells S.kind hkind fun env he s1 x => ?_
  subst he
  refine ⟨lim.keeps x.toInCall.keep, codeAny_func ?_⟩
  obtain ⟨t, ht, hq⟩ := hbody A outer s H vs Q E (hr.deeper _) hsp
  have I : Inv (cxOf CX P w K mg base N qual scope f cdv A outer s H E) [] (start N vs) H s1 := inv_start S hr.hd e0 hl r x
  refine wpAny_mono (ht.run [] s1 (start N vs) H _ I hq) (fun fl s' hs => ?_) fun e s' hs => hs
  have fin : ∀ {σ' : L2.St} {H' : Hp} {v : V} {u : Value}, Inv (cxOf CX P w K mg base N qual scope f cdv A outer s H E) [] σ' H' s' → RelV v u → Q v H' → CE outer P w H s Q u s' :=
    fun {σ' H' v u} J rv q => ⟨v, H', J.os, J.bare, J.base, J.hok, rv, q⟩
  cases fl with
  | ret u =>
    obtain ⟨v, σ', H', J, rv, q⟩ := hs
    exact fin J rv q
  | next =>
    obtain ⟨σ', H', J, q⟩ := hs
    exact fin (v := V.non) (u := Value.none) J rfl q
  | brk =>
    obtain ⟨_, _, _, q⟩ := hs
    exact False.elim q
  | cont =>
    obtain ⟨_, _, _, q⟩ := hs
    exact False.elim q
theorem Fun.okQ {P : Program} {w : World} {K : PySem.W.Frag} {mg : Str → Option Value} {base : Heap} {x qual : Str} {st : Stmt} {f : Addr} {fd : FuncData} {N ps : List Str} {k : Nat} {sp : Sp} (F : Fun K x qual st f fd) (S : FnScope N ps (defScope st)) (len : ∀ vs H Q E, sp vs H Q E → vs.length = ps.length)
    (hbody : ∀ (cdv : Value) (A : Around) (outer : List Env) (s : Shared) (H : Hp) (vs : List V) (Q : VK) (E : XK), Rm k (A.deeper (envOfC qual (defScope st) s.heap.objs.size f cdv)) → sp vs H Q E →
      ∃ t, PSs (cxOf (L2.CX P w) P w K mg base N qual (defScope st) f cdv A outer s H E) (defBody st) t ∧ t { nx := fun _ H' => Q .non H', rt := Q } (start N vs) H) : FnQ P w K mg base (L2.CX P w) (k + 1) f fd ps sp := by
  obtain ⟨oc, od, kV, doc, pm, an, cdv, ct, osl, rfl, lk, hcd⟩ := F.ex
  exact fnq_of lk hcd S len fun A outer s H vs Q E hr hsp => hbody cdv A outer s H vs Q E hr hsp
/-- a def that keeps the promise of a plain function -/
abbrev FnD (P : Program) (w : World) (K : PySem.W.Frag) (mg : Str → Option Value) (base : Heap) (cl : Cl) (k : Nat) (f : Addr) (fd : FuncData) (ps : List Str) (F : DF) : Prop :=
  FnQ P w K mg base (L2.CX P w) k f fd ps (spD K cl F)
/-- a def's wish -/
abbrev Wk (E : XK) : WX := fun u dx _ H => E u dx H
section
variable {P : Program} {w : World} {K : PySem.W.Frag} {mg : Str → Option Value} {base : Heap} {cl : Cl}
theorem FnD.of {x qual : Str} {st : Stmt} {f : Addr} {fd : FuncData} {N ps : List Str} {k : Nat} {body : DS} (F : Fun K x qual st f fd) (S : FnScope N ps (defScope st))
    (hb : ∀ (cdv : Value) (A : Around) (outer : List Env) (s : Shared) (H : Hp) (E : XK), Rm k (A.deeper (envOfC qual (defScope st) s.heap.objs.size f cdv)) →
      JSs (cxOf (L2.CX P w) P w K mg base N qual (defScope st) f cdv A outer s H E) cl (Wk E) (defBody st) body) :
    FnD P w K mg base cl (k + 1) f fd ps (dDef N.length ps.length body) := by
  refine Fun.okQ F S (fun vs H Q E h => ?_) fun cdv A outer s H vs Q E hr h => ⟨_, hb cdv A outer s H E hr, ?_⟩
  · obtain ⟨as, st, ds, wd, r, p⟩ := h
    unfold dDef at p
    split at p
    · rename_i hl
      rw [← r.len]; exact hl
    · exact p.elim
  · obtain ⟨as, st, ds, wd, r, p⟩ := h
    refine ⟨as, st, startD N.length ds, wd, RepE.start r, ?_⟩
    unfold dDef at p
    split at p
    · cases h : body (startD N.length ds) st with
      | bad => rw [h] at p; exact p.elim
      | exc x st1 => rw [h] at p; exact p.elim
      | ok r st1 =>
        rw [h] at p
        obtain ⟨fl, τ1⟩ := r
        cases fl with
        | nx => exact fun as1 H1 e1 w1 σ1 r1 => p as1 H1 e1 w1 .non .non
        | rt d => exact fun as1 H1 e1 w1 v rv => p as1 H1 e1 w1 v rv
        | bk => exact p.elim
        | ct => exact p.elim
        | ex x => exact fun as1 H1 e1 w1 σ1 u dx r1 rx => p u dx as1 H1 e1 w1 rx
    · exact p.elim
/-- another function that says the same where it says something -/
theorem FnD.imp {k : Nat} {f : Addr} {fd : FuncData} {ps : List Str} {F G : DF} (h : FnD P w K mg base cl k f fd ps F) (hg : ∀ ds st, G ds st ≠ .bad → F ds st = G ds st) : FnD P w K mg base cl k f fd ps G :=
  FnQ.imp h fun vs H Q E ⟨as, st, ds, wd, r, p⟩ => ⟨as, st, ds, wd, r, by
    rw [hg ds st (fun e => by rw [e] at p; exact p)]
    exact p⟩
end
end DL

/-! DL3: operators, calls of built-ins, subscripts, loops, comprehensions, dicts, fields, calls of defs. -/
namespace DL
open PySem PySem.Spec PyProof.Rows L2

/-! ### rows of values -/
def seqOf (d : D) (st : Sto) : Option (List D) := match d with
  | .tup ds => some ds
  | .lst ds => some ds
  | .fro ds => some ds
  | .ref n => match st[n]? with
    | some (.lst ds) => some ds
    | _ => none
  | _ => none
section
variable {K : PySem.W.Frag} {cl : Cl} {as : Mp} {st : Sto} {H : Hp}
theorem Wd.lst (w : Wd K cl as st H) {n : Nat} {a : Addr} {ds : List D} (h1 : as.m[n]? = some a) (hs : st[n]? = some (.lst ds)) : ∃ xs, H a = some (.lst xs) ∧ Reps K as H ds xs := by
  obtain ⟨ho, h2, h3⟩ := w.at h1 hs
  cases h3 with
  | lst r => exact ⟨_, h2, r⟩
theorem Wd.dK (w : Wd K cl as st H) {n : Nat} {a : Addr} {ds : List (Key × D)} (h1 : as.m[n]? = some a) (hs : st[n]? = some (.dK ds)) : ∃ xs, H a = some (.dK xs) ∧ RepF K as H ds xs := by
  obtain ⟨ho, h2, h3⟩ := w.at h1 hs
  cases h3 with
  | dK r => exact ⟨_, h2, r⟩
theorem Wd.dT (w : Wd K cl as st H) {n : Nat} {a : Addr} {ds : List (List Key × D)} (h1 : as.m[n]? = some a) (hs : st[n]? = some (.dT ds)) : ∃ a' o xs, H a = some (dtO a' o) ∧ DTok cl.w a' o xs ∧ RepT K as H ds xs := by
  obtain ⟨ho, h2, h3⟩ := w.at h1 hs
  cases h3 with
  | dT k r => exact ⟨_, _, _, h2, k, r⟩
theorem Wd.ins (w : Wd K cl as st H) {n : Nat} {a : Addr} {c : Str} {ds : List (Str × D)} (h1 : as.m[n]? = some a) (hs : st[n]? = some (.ins c ds)) : ∃ dx xs, H a = some (.ins (cl c) dx xs) ∧ RepF K as H ds xs := by
  obtain ⟨ho, h2, h3⟩ := w.at h1 hs
  cases h3 with
  | ins r => exact ⟨_, _, h2, r⟩
theorem seqOf_ok {d : D} {v : V} {ds : List D} (w : Wd K cl as st H) (r : Rep K as H d v) (h : seqOf d st = some ds) : ∃ p xs, v = .ref p ∧ (SqL K H p xs ∨ SqT K H p xs) ∧ Reps K as H ds xs := by
  cases r with
  | tup s r => cases h; exact ⟨_, _, rfl, .inr s.t, r⟩
  | lst n h1 r => cases h; exact ⟨_, _, rfl, .inl (.of h1), r⟩
  | fro s r => cases h; exact ⟨_, _, rfl, .inl s.l, r⟩
  | @ref n a h1 =>
    have h : (match st[n]? with | some (.lst ds) => some ds | _ => none) = some ds := h
    cases hs : st[n]? with
    | none => rw [hs] at h; cases h
    | some o =>
      rw [hs] at h
      cases o with
      | lst es =>
        cases h
        obtain ⟨xs, h2, r⟩ := w.lst h1 hs
        exact ⟨_, _, rfl, .inl (.of h2), r⟩
      | _ => cases h
  | _ => cases h
/-- lists alone -/
def lstOf (d : D) (st : Sto) : Option (List D) := match d with
  | .lst ds => some ds
  | .ref n => match st[n]? with
    | some (.lst ds) => some ds
    | _ => none
  | _ => none
theorem lstOf_ok {d : D} {v : V} {ds : List D} (w : Wd K cl as st H) (r : Rep K as H d v) (h : lstOf d st = some ds) : ∃ p xs, v = .ref p ∧ H p = some (.lst xs) ∧ Reps K as H ds xs := by
  cases r with
  | lst n h1 r => cases h; exact ⟨_, _, rfl, h1, r⟩
  | @ref n a h1 =>
    have h : (match st[n]? with | some (.lst ds) => some ds | _ => none) = some ds := h
    cases hs : st[n]? with
    | none => rw [hs] at h; cases h
    | some o =>
      rw [hs] at h
      cases o with
      | lst es =>
        cases h
        obtain ⟨xs, h2, r⟩ := w.lst h1 hs
        exact ⟨_, _, rfl, h2, r⟩
      | _ => cases h
  | _ => cases h
/-- dicts by ints and texts -/
def dicOf (d : D) (st : Sto) : Option (List (Key × D)) := match d with
  | .dic ds => some ds
  | .ref n => match st[n]? with
    | some (.dK ds) => some ds
    | _ => none
  | _ => none
theorem dicOf_ok {d : D} {v : V} {ds : List (Key × D)} (w : Wd K cl as st H) (r : Rep K as H d v) (h : dicOf d st = some ds) : ∃ p xs, v = .ref p ∧ H p = some (.dK xs) ∧ RepF K as H ds xs := by
  cases r with
  | dic n h1 r => cases h; exact ⟨_, _, rfl, h1, r.f⟩
  | @ref n a h1 =>
    have h : (match st[n]? with | some (.dK ds) => some ds | _ => none) = some ds := h
    cases hs : st[n]? with
    | none => rw [hs] at h; cases h
    | some o =>
      rw [hs] at h
      cases o with
      | dK es =>
        cases h
        obtain ⟨xs, h2, r⟩ := w.dK h1 hs
        exact ⟨_, _, rfl, h2, r⟩
      | _ => cases h
  | _ => cases h

/-! ### equality of data -/
mutual
def toPy : D → Option PyData
  | .non => some .none
  | .bl b => some (.bool b)
  | .int i => some (.int i)
  | .str x => some (.str x)
  | .tup ds => (toPys ds).map .tuple
  | .lst ds => (toPys ds).map .list
  | .fro ds => (toPys ds).map .list
  | .dic _ => none
  | .ref _ => none
  | .raw _ => none
def toPys : List D → Option (List PyData)
  | [] => some []
  | d :: ds => match toPy d, toPys ds with
    | some p, some ps => some (p :: ps)
    | _, _ => none
end
mutual
theorem toPy_ok : ∀ {d : D} {v : V} {p : PyData}, Rep K as H d v → toPy d = some p → Dp K H v p
  | _, _, _, .non, h => by cases h; exact .non
  | _, _, _, .bl b, h => by cases h; exact .bl b
  | _, _, _, .int i, h => by cases h; exact .int i
  | _, _, _, .str x, h => by cases h; exact .str x
  | .tup ds, _, _, .tup s r, h => by
    have h : (toPys ds).map PyData.tuple = some _ := h
    obtain ⟨ps, h1, h2⟩ := Option.map_eq_some_iff.mp h
    subst h2
    exact .tup s.t (toPys_ok r h1)
  | .lst ds, _, _, .lst n h0 r, h => by
    have h : (toPys ds).map PyData.list = some _ := h
    obtain ⟨ps, h1, h2⟩ := Option.map_eq_some_iff.mp h
    subst h2
    exact .lst (.of h0) (toPys_ok r h1)
  | .fro ds, _, _, .fro s r, h => by
    have h : (toPys ds).map PyData.list = some _ := h
    obtain ⟨ps, h1, h2⟩ := Option.map_eq_some_iff.mp h
    subst h2
    exact .lst s.l (toPys_ok r h1)
theorem toPys_ok : ∀ {ds : List D} {vs : List V} {ps : List PyData}, Reps K as H ds vs → toPys ds = some ps → DpAll K H vs ps
  | _, _, _, .nil, h => by cases h; exact .nil
  | d :: ds, _, _, .cons r rs, h => by
    unfold toPys at h
    cases h1 : toPy d with
    | none => rw [h1] at h; cases h
    | some p =>
      cases h2 : toPys ds with
      | none => rw [h1, h2] at h; cases h
      | some ps =>
        rw [h1, h2] at h
        cases h
        exact .cons (toPy_ok r h1) (toPys_ok rs h2)
end
/-- with the store's lists -/
def topPy (d : D) (st : Sto) : Option PyData := match d with
  | .ref n => match st[n]? with
    | some (.lst ds) => (toPys ds).map .list
    | _ => none
  | d => toPy d
theorem topPy_ok {d : D} {v : V} {p : PyData} (w : Wd K cl as st H) (r : Rep K as H d v) (h : topPy d st = some p) : Dp K H v p := by
  cases d with
  | ref n =>
    have h : (match st[n]? with | some (.lst ds) => (toPys ds).map PyData.list | _ => none) = some p := h
    cases r with
    | ref h1 =>
      cases hs : st[n]? with
      | none => rw [hs] at h; cases h
      | some o =>
        rw [hs] at h
        cases o with
        | lst es =>
          obtain ⟨xs, h2, r⟩ := w.lst h1 hs
          obtain ⟨ps, h3, h4⟩ := Option.map_eq_some_iff.mp h
          subst h4
          exact .lst (.of h2) (toPys_ok r h3)
        | _ => cases h
  | _ => exact toPy_ok r h
def flatD : D → Bool
  | .non => true
  | .bl _ => true
  | .int _ => true
  | .str _ => true
  | _ => false
def eqF : D → D → Bool
  | .non, .non => true
  | .bl a, .bl b => a == b
  | .bl a, .int b => (if a then 1 else 0) == b
  | .int a, .bl b => a == (if b then 1 else 0)
  | .int a, .int b => a == b
  | .str a, .str b => a == b
  | _, _ => false
theorem flatD_ok {d : D} {v : V} (r : Rep K as H d v) (h : flatD d = true) : flatV v = true := by
  cases r <;> first | rfl | cases h
theorem eqF_ok {d e : D} {v u : V} (r : Rep K as H d v) (s : Rep K as H e u) (h : flatD d = true) (h' : flatD e = true) : eqV v u = eqF d e := by
  cases r <;> first | (cases h; done) | (cases s <;> first | (cases h'; done) | rfl)
theorem flats_ok : ∀ {ds : List D} {vs : List V}, Reps K as H ds vs → ds.all flatD = true → vs.all flatV = true
  | _, _, .nil, _ => rfl
  | d :: ds, _, .cons r rs, h => by
    rw [List.all_cons, Bool.and_eq_true_iff] at h
    rw [List.all_cons, flatD_ok r h.1, flats_ok rs h.2]
    rfl
def inD (x : D) (ds : List D) : Bool := ds.any fun y => eqF y x
theorem inD_ok {x : D} {v : V} (r : Rep K as H x v) (hx : flatD x = true) : ∀ {ds : List D} {vs : List V}, Reps K as H ds vs → ds.all flatD = true → inV v vs = inD x ds
  | _, _, .nil, _ => rfl
  | d :: ds, _, .cons q rs, h => by
    rw [List.all_cons, Bool.and_eq_true_iff] at h
    unfold inV inD
    rw [List.any_cons, List.any_cons, eqF_ok q r h.1 hx]
    congr 1
    exact inD_ok r hx rs h.2
end

/-! ### operators -/
section
variable {X : Cx} {cl : Cl}
theorem OpJ.of {f : Value → Value → Sem Value} {r : D2} {r0 : R2} (h : OpR X f r0)
    (k : ∀ (E : XK) (as : Mp) (st : Sto) (H : Hp) (x y : V) (dx dy : D) (Q : VK), Wd X.K cl as st H → Rep X.K as H dx x → Rep X.K as H dy y → Post X.K cl E as H (r dx dy st) (QV X.K Q) → r0 x y H Q) : OpJ X cl f r :=
  fun E => OpR.mono h fun x y H Q ⟨as, st, dx, dy, w, rx, ry, p⟩ => k E as st H x y dx dy Q w rx ry p
/-- the end of a step that makes nothing -/
theorem Post.val {K : PySem.W.Frag} {E : XK} {as : Mp} {st : Sto} {H : Hp} {d : D} {v : V} {Q : VK} (p : Post K cl E as H (.ok d st) (QV K Q)) (w : Wd K cl as st H) (r : Rep K as H d v) : Q v H := p as H .refl w v r

def cmpI (f : Int → Int → Bool) : D2 := fun x y st => match x, y with
  | .int i, .int j => .ok (.bl (f i j)) st
  | _, _ => .bad
def opI2 (f : Int → Int → Int) (c : Int → Int → Bool) : D2 := fun x y st => match x, y with
  | .int i, .int j => if c i j = true then .ok (.int (f i j)) st else .bad
  | _, _ => .bad
theorem oj_I0 {f : Value → Value → Sem Value} {g : Int → Int → Bool} (h : OpR X f (rI0 fun i j => .bl (g i j))) : OpJ X cl f (cmpI g) := OpJ.of h fun E as st H x y dx dy Q w rx ry p => by
  unfold cmpI at p
  split at p
  · cases rx; cases ry
    exact ⟨_, _, rfl, rfl, p.val w (.bl _)⟩
  · exact p.elim
theorem oj_I {f : Value → Value → Sem Value} {C : Int → Int → Prop} {g : Int → Int → Int} {c : Int → Int → Bool} (h : OpR X f (rI C fun i j => .int (g i j))) (hc : ∀ i j, c i j = true → C i j) : OpJ X cl f (opI2 g c) := OpJ.of h fun E as st H x y dx dy Q w rx ry p => by
  unfold opI2 at p
  split at p
  · cases rx; cases ry
    split at p
    · rename_i i j hq
      exact ⟨i, j, rfl, rfl, hc _ _ hq, p.val w (.int _)⟩
    · exact p.elim
  · exact p.elim
def dLtI : D2 := cmpI fun i j => decide (i < j)
def dLeI : D2 := cmpI fun i j => decide (i ≤ j)
def dGtI : D2 := cmpI fun i j => decide (j < i)
def dGeI : D2 := cmpI fun i j => decide (j ≤ i)
theorem oj_lt : OpJ X cl (compareOp .Lt) dLtI := oj_I0 op_lt
theorem oj_le : OpJ X cl (compareOp .LtE) dLeI := oj_I0 op_le
theorem oj_gt : OpJ X cl (compareOp .Gt) dGtI := oj_I0 op_gt
theorem oj_ge : OpJ X cl (compareOp .GtE) dGeI := oj_I0 op_ge
def dSub : D2 := opI2 (fun i j => i - j) fun _ _ => true
def dMul : D2 := opI2 (fun i j => i * j) fun i j => decide (i.natAbs.log2 + j.natAbs.log2 < 1000000)
def dDiv : D2 := opI2 (fun i j => i / j) fun i j => decide (0 < j) && decide (j.natAbs.log2 < 9000)
def dMod : D2 := opI2 (fun i j => i % j) fun _ j => decide (0 < j)
def dPow : D2 := opI2 (fun i j => i ^ j.toNat) fun i j => decide (0 ≤ j) && decide (j ≤ 1000000) && decide (i.natAbs < 2 ^ 64)
def dShl : D2 := opI2 (fun i j => i * 2 ^ j.toNat) fun i j => decide (0 ≤ j) && decide (j ≤ 1000000) && decide (i.natAbs < 2 ^ 64)
theorem op_subC : OpR X (binaryOp .Sub) (rI (fun _ _ => True) fun i j => .int (i - j)) := OpR.mono op_sub fun _ _ _ _ ⟨i, j, h1, h2, _, q⟩ => ⟨i, j, h1, h2, q⟩
theorem oj_sub : OpJ X cl (binaryOp .Sub) dSub := oj_I op_subC fun _ _ _ => trivial
theorem oj_mul : OpJ X cl (binaryOp .Mult) dMul := oj_I op_mulW fun i j h => show i.natAbs.log2 + j.natAbs.log2 < 1000000 from of_decide_eq_true h
theorem oj_div : OpJ X cl (binaryOp .FloorDiv) dDiv := oj_I op_fdivW fun _ _ h => by
  rw [Bool.and_eq_true_iff] at h
  exact ⟨of_decide_eq_true h.1, of_decide_eq_true h.2⟩
theorem oj_mod : OpJ X cl (binaryOp .Mod) dMod := oj_I op_mod fun _ _ h => of_decide_eq_true h
theorem oj_pow : OpJ X cl (binaryOp .Pow) dPow := oj_I op_pow fun _ _ h => by
  rw [Bool.and_eq_true_iff, Bool.and_eq_true_iff] at h
  exact ⟨of_decide_eq_true h.1.1, of_decide_eq_true h.1.2, of_decide_eq_true h.2⟩
theorem oj_shl : OpJ X cl (binaryOp .LShift) dShl := oj_I op_shl fun _ _ h => by
  rw [Bool.and_eq_true_iff, Bool.and_eq_true_iff] at h
  exact ⟨of_decide_eq_true h.1.1, of_decide_eq_true h.1.2, of_decide_eq_true h.2⟩
/-- +: ints, texts, tuples, lists -/
def dAdd : D2 := fun x y st => match x, y with
  | .int i, .int j => .ok (.int (i + j)) st
  | .str a, .str b => if a.length + b.length ≤ sizeLine then .ok (.str (a ++ b)) st else .bad
  | .tup a, .tup b => if a.length + b.length ≤ sizeLine then .ok (.tup (a ++ b)) st else .bad
  | x, y => match lstOf x st, lstOf y st with
    | some a, some b => if a.length + b.length ≤ sizeLine then .ok (.lst (a ++ b)) st else .bad
    | _, _ => .bad
theorem Post.newT {K : PySem.W.Frag} {E : XK} {as : Mp} {st : Sto} {H : Hp} {ds : List D} {xs : List V} {Q : VK} (p : Post K cl E as H (.ok (.tup ds) st) (QV K Q)) (w : Wd K cl as st H) (r : Reps K as H ds xs) :
    ∀ a, H a = none → Q (.ref a) (upd H a (.tup xs)) := fun a ha => p as _ (Evo.new w ha) (w.new ha) _ (Rep.newT w ha r)
theorem Post.newL {K : PySem.W.Frag} {E : XK} {as : Mp} {st : Sto} {H : Hp} {ds : List D} {xs : List V} {Q : VK} (p : Post K cl E as H (.ok (.lst ds) st) (QV K Q)) (w : Wd K cl as st H) (r : Reps K as H ds xs) :
    ∀ a, H a = none → Q (.ref a) (upd H a (.lst xs)) := fun a ha => p as _ (Evo.new w ha) (w.new ha) _ (Rep.newL w ha r)
theorem oj_add : OpJ X cl (binaryOp .Add) dAdd := OpJ.of (OpR.or (X := X) op_add (OpR.or op_add_str (OpR.or op_catA op_cat))) fun E as st H x y dx dy Q w rx ry p => by
  unfold dAdd at p
  split at p
  · cases rx; cases ry
    exact .inl ⟨_, _, rfl, rfl, p.val w (.int _)⟩
  · cases rx; cases ry
    split at p
    · rename_i hl
      exact .inr (.inl ⟨_, _, rfl, rfl, hl, p.val w (.str _)⟩)
    · exact p.elim
  · rename_i a b
    cases rx with
    | tup s1 r1 =>
      cases ry with
      | tup s2 r2 =>
        split at p
        · rename_i hl
          refine .inr (.inr (.inl ⟨_, _, _, _, rfl, rfl, s1.t, s2.t, by rw [← r1.len, ← r2.len]; exact hl, fun e => ?_, fun _ e => ?_, fun _ _ => p.newT w (r1.append r2)⟩))
          · subst e; cases r1; exact p.val w (.tup s2 r2)
          · subst e; cases r2; rw [List.append_nil] at p; exact p.val w (.tup s1 r1)
        · exact p.elim
  · cases h1 : lstOf dx st with
    | none => rw [h1] at p; exact p.elim
    | some a =>
      cases h2 : lstOf dy st with
      | none => rw [h1, h2] at p; exact p.elim
      | some b =>
        rw [h1, h2] at p
        dsimp only at p
        obtain ⟨pa, xs, rfl, ha, ra⟩ := lstOf_ok w rx h1
        obtain ⟨pb, ys, rfl, hb, rb⟩ := lstOf_ok w ry h2
        split at p
        · rename_i hl
          exact .inr (.inr (.inr ⟨pa, pb, xs, ys, rfl, rfl, ha, hb, by rw [← ra.len, ← rb.len]; exact hl, p.newL w (ra.append rb)⟩))
        · exact p.elim
/-- == and != -/
def dEq (neg : Bool) : D2 := fun x y st => match topPy x st, topPy y st with
  | some p, some q => if SeqAt.shaped p && SeqAt.shaped q then .ok (.bl (neg ^^ PyData.eqv p q)) st else .bad
  | _, _ => .bad
theorem dEq_ok {E : XK} {as : Mp} {st : Sto} {H : Hp} {x y : V} {dx dy : D} {Q : VK} {neg : Bool} (w : Wd X.K cl as st H) (rx : Rep X.K as H dx x) (ry : Rep X.K as H dy y) (p : Post X.K cl E as H (dEq neg dx dy st) (QV X.K Q)) :
    ∃ d e, Dp X.K H x d ∧ Dp X.K H y e ∧ SeqAt.shaped d = true ∧ SeqAt.shaped e = true ∧ Q (.bl (neg ^^ PyData.eqv d e)) H := by
  unfold dEq at p
  cases h1 : topPy dx st with
  | none => rw [h1] at p; exact p.elim
  | some a =>
    cases h2 : topPy dy st with
    | none => rw [h1, h2] at p; exact p.elim
    | some b =>
      rw [h1, h2] at p
      dsimp only at p
      split at p
      · rename_i hs
        rw [Bool.and_eq_true_iff] at hs
        exact ⟨a, b, topPy_ok w rx h1, topPy_ok w ry h2, hs.1, hs.2, p.val w (.bl _)⟩
      · exact p.elim
theorem oj_eq (hu : X.A.units + 64 < cLine) : OpJ X cl (compareOp .Eq) (dEq false) := OpJ.of (op_eqD hu) fun E as st H x y dx dy Q w rx ry p => by
  obtain ⟨d, e, h1, h2, h3, h4, h5⟩ := dEq_ok w rx ry p
  exact ⟨d, e, h1, h2, h3, h4, by rw [Bool.false_xor] at h5; exact h5⟩
theorem oj_ne (hu : X.A.units + 64 < cLine) : OpJ X cl (compareOp .NotEq) (dEq true) := OpJ.of (op_neD hu) fun E as st H x y dx dy Q w rx ry p => by
  obtain ⟨d, e, h1, h2, h3, h4, h5⟩ := dEq_ok w rx ry p
  exact ⟨d, e, h1, h2, h3, h4, by rw [Bool.true_xor] at h5; exact h5⟩
/-- in and not in: texts; flat rows; lists of data -/
def dIn (neg : Bool) : D2 := fun x y st => match x, y with
  | .str a, .str b => .ok (.bl (neg ^^ !(Builtin.Str.occurrences b a 0 b.length 1).isEmpty)) st
  | x, y => match seqOf y st with
    | some ds => if flatD x && ds.all flatD then .ok (.bl (neg ^^ inD x ds)) st else
      match toPy x, topPy y st with
      | some p, some (.list qs) => if SeqAt.shaped p && SeqAt.shaped (.list qs) then .ok (.bl (neg ^^ qs.any fun z => PyData.eqv z p)) st else .bad
      | _, _ => .bad
    | none => .bad
theorem dIn_ok {E : XK} {as : Mp} {st : Sto} {H : Hp} {x y : V} {dx dy : D} {Q : VK} {neg : Bool} (w : Wd X.K cl as st H) (rx : Rep X.K as H dx x) (ry : Rep X.K as H dy y) (p : Post X.K cl E as H (dIn neg dx dy st) (QV X.K Q)) :
    (∃ i j, x = .str i ∧ y = .str j ∧ Q (.bl (neg ^^ !(Builtin.Str.occurrences j i 0 j.length 1).isEmpty)) H) ∨ rIn X.K neg x y H Q ∨
    ∃ d ds, Dp X.K H x d ∧ Dp X.K H y (.list ds) ∧ SeqAt.shaped d = true ∧ SeqAt.shaped (.list ds) = true ∧ Q (.bl (neg ^^ ds.any fun z => PyData.eqv z d)) H := by
  unfold dIn at p
  split at p
  · cases rx; cases ry
    exact .inl ⟨_, _, rfl, rfl, p.val w (.bl _)⟩
  · cases h1 : seqOf dy st with
    | none => rw [h1] at p; exact p.elim
    | some ds =>
      rw [h1] at p
      dsimp only at p
      by_cases hf : (flatD dx && ds.all flatD) = true
      · rw [if_pos hf] at p
        rw [Bool.and_eq_true_iff] at hf
        obtain ⟨q, xs, rfl, hq, rs⟩ := seqOf_ok w ry h1
        refine .inr (.inl ⟨q, xs, rfl, hq, flatD_ok rx hf.1, flats_ok rs hf.2, ?_⟩)
        have e := p.val w (.bl _)
        rw [inD_ok rx hf.1 rs hf.2]
        cases neg
        · rw [Bool.false_xor] at e; exact e
        · rw [Bool.true_xor] at e; exact e
      · rw [if_neg hf] at p
        cases h2 : toPy dx with
        | none => rw [h2] at p; exact p.elim
        | some d =>
          cases h3 : topPy dy st with
          | none => rw [h2, h3] at p; exact p.elim
          | some e =>
            rw [h2, h3] at p
            cases e with
            | list qs =>
              dsimp only at p
              split at p
              · rename_i hs
                rw [Bool.and_eq_true_iff] at hs
                exact .inr (.inr ⟨d, qs, toPy_ok rx h2, topPy_ok w ry h3, hs.1, hs.2, p.val w (.bl _)⟩)
              · exact p.elim
            | _ => exact p.elim
theorem oj_in (hu : X.A.units + 65 < cLine) : OpJ X cl (compareOp .In) (dIn false) := OpJ.of (OpR.or (X := X) op_in_str (OpR.or op_in_seq (op_inD hu))) fun E as st H x y dx dy Q w rx ry p => by
  rcases dIn_ok w rx ry p with ⟨i, j, h1, h2, h3⟩ | h | ⟨d, ds, h1, h2, h3, h4, h5⟩
  · exact .inl ⟨i, j, h1, h2, by rw [Bool.false_xor] at h3; exact h3⟩
  · exact .inr (.inl h)
  · exact .inr (.inr ⟨d, ds, h1, h2, h3, h4, by rw [Bool.false_xor] at h5; exact h5⟩)
theorem oj_notIn (hu : X.A.units + 65 < cLine) : OpJ X cl (compareOp .NotIn) (dIn true) := OpJ.of (OpR.or (X := X) op_notIn_str (OpR.or op_notIn_seq (op_notInD hu))) fun E as st H x y dx dy Q w rx ry p => by
  rcases dIn_ok w rx ry p with ⟨i, j, h1, h2, h3⟩ | h | ⟨d, ds, h1, h2, h3, h4, h5⟩
  · exact .inl ⟨i, j, h1, h2, by rw [Bool.true_xor] at h3; exact h3⟩
  · exact .inr (.inl h)
  · exact .inr (.inr ⟨d, ds, h1, h2, h3, h4, by rw [Bool.true_xor] at h5; exact h5⟩)
/-- is, is not: None, truths -/
def isNon : D → Option Bool
  | .non => some true
  | .bl _ => some false
  | .int _ => some false
  | .str _ => some false
  | .tup _ => some false
  | .lst _ => some false
  | .fro _ => some false
  | .dic _ => some false
  | .ref _ => some false
  | .raw _ => none
def dIs (neg : Bool) : D2 := fun x y st => match x, y with
  | .bl a, .bl b => .ok (.bl (neg ^^ decide (a = b))) st
  | x, .non => match isNon x with
    | some b => .ok (.bl (neg ^^ b)) st
    | none => .bad
  | _, _ => .bad
theorem isNon_ok {K : PySem.W.Frag} {as : Mp} {H : Hp} {d : D} {v : V} {b : Bool} (r : Rep K as H d v) (h : isNon d = some b) : decide (v = .non) = b := by
  cases r <;> cases h <;> simp
theorem dIs_ok {E : XK} {as : Mp} {st : Sto} {H : Hp} {x y : V} {dx dy : D} {Q : VK} {neg : Bool} (w : Wd X.K cl as st H) (rx : Rep X.K as H dx x) (ry : Rep X.K as H dy y) (p : Post X.K cl E as H (dIs neg dx dy st) (QV X.K Q)) :
    (y = .non ∧ Q (.bl (neg ^^ decide (x = .non))) H) ∨ ∃ a b : Bool, x = .bl a ∧ y = .bl b ∧ Q (.bl (neg ^^ decide (a = b))) H := by
  unfold dIs at p
  split at p
  · cases rx; cases ry
    exact .inr ⟨_, _, rfl, rfl, p.val w (.bl _)⟩
  · cases ry
    split at p
    · rename_i b hb
      exact .inl ⟨rfl, by rw [isNon_ok rx hb]; exact p.val w (.bl _)⟩
    · exact p.elim
  · exact p.elim
theorem oj_is : OpJ X cl (compareOp .Is) (dIs false) := OpJ.of (OpR.or (X := X) op_isN op_isBl) fun E as st H x y dx dy Q w rx ry p => by
  rcases dIs_ok w rx ry p with ⟨h1, h2⟩ | ⟨a, b, h1, h2, h3⟩
  · exact .inl ⟨h1, by rw [Bool.false_xor] at h2; exact h2⟩
  · exact .inr ⟨a, b, h1, h2, by rw [Bool.false_xor] at h3; exact h3⟩
theorem oj_isNot : OpJ X cl (compareOp .IsNot) (dIs true) := OpJ.of (OpR.or (X := X) op_notN op_notBl) fun E as st H x y dx dy Q w rx ry p => by
  rcases dIs_ok w rx ry p with ⟨h1, h2⟩ | ⟨a, b, h1, h2, h3⟩
  · exact .inl ⟨h1, by rw [Bool.true_xor] at h2; exact h2⟩
  · exact .inr ⟨a, b, h1, h2, by rw [Bool.true_xor] at h3; exact h3⟩
end

/-! ### -a -/
def dNeg (t : DE) : DE := fun τ st => (t τ st).bind fun d st => match d with
  | .int i => .ok (.int (-i)) st
  | _ => .bad
section
variable {X : Cx} {cl : Cl} {W : WX} {pos : Pos} {a b : Expr} {ta tb : DE}
theorem j_neg (ha : JE X cl W a ta) : JE X cl W (.UnaryOp .USub a pos) (dNeg ta) := by
  refine PE.mono (pe_un un_neg ha) fun σ H Q ⟨as, st, τ, w, e, p⟩ => ⟨as, st, τ, w, e, p.bind.mono fun d st1 as1 H1 e1 w1 p1 v rv => ?_⟩
  cases d with
  | int i => cases rv; exact ⟨i, rfl, p1.val w1 (.int _)⟩
  | _ => exact p1.elim
end

/-! ### built-ins by their names -/
abbrev DC := DF
def liftC (K : PySem.W.Frag) (cl : Cl) (E : XK) (r : DC) : List V → Hp → VK → Prop := fun xs H Q => ∃ as st ds, Wd K cl as st H ∧ Reps K as H ds xs ∧ Post K cl E as H (r ds st) (QV K Q)
def CallJ (X : Cx) (cl : Cl) (f : Value) (r : DC) : Prop := ∀ E : XK, CallR X f (liftC X.K cl E r)
theorem CallR.or' {X : Cx} {f : Value} {r r' : List V → Hp → VK → Prop} (h : CallR X f r) (h' : CallR X f r') : CallR X f (fun xs H Q => r xs H Q ∨ r' xs H Q) := fun pins s σ H xs us Q I r q =>
  q.elim (h pins s σ H xs us Q I r) (h' pins s σ H xs us Q I r)
theorem CallJ.of {X : Cx} {cl : Cl} {f : Value} {r : DC} {r0 : List V → Hp → VK → Prop} (h : CallR X f r0)
    (k : ∀ (E : XK) (as : Mp) (st : Sto) (H : Hp) (xs : List V) (ds : List D) (Q : VK), Wd X.K cl as st H → Reps X.K as H ds xs → Post X.K cl E as H (r ds st) (QV X.K Q) → r0 xs H Q) : CallJ X cl f r :=
  fun E => CallR.mono h fun xs H Q ⟨as, st, ds, w, rs, p⟩ => k E as st H xs ds Q w rs p
def dApp (r : DC) (t : DA) : DE := fun τ st => (t τ st).bind fun ds st => r ds st
section
variable {X : Cx} {cl : Cl} {W : WX} {p pos : Pos} {e : Expr} {es : List Expr} {t : DA} {x : Str} {r : DC}
theorem lift_app {σ : L2.St} {H : Hp} {Q : VK} (h : lift X.K cl W (dApp r t) σ H Q) : tCB (liftC X.K cl (WE W σ) r) (liftA X.K cl W t) σ H Q := by
  obtain ⟨as, st, τ, w, e, p⟩ := h
  exact ⟨as, st, τ, w, e, p.bind.mono fun ds st1 as1 H1 e1 w1 p1 xs rx => ⟨as1, st1, ds, w1, rx, p1⟩⟩
theorem j_callB {id : String} (hc : CallJ X cl (.builtin id) r) (hg : Gl X x) (hm : X.mg x = none) (hv : bootBuiltins x = some (.builtin id)) (ha : JA X cl W (e :: es) t) (hn : x ≠ "__name__" := by decide) (hdb : (x == ("__debug__" : Str)) = false := by decide)
    (he : starEach (e :: es) X.env = (false, eval e X.env) :: starEach es X.env := by rfl) (hpl : (backTo pos (starEach es X.env)).any (·.1) = false := by rfl) : JE X cl W (.Call (.Name x p) (e :: es) [] pos) (dApp r t) :=
  ⟨fun pins s σ H Q I h => (pe_callB (hc (WE W σ)) hg hm hv ha hn hdb he hpl).run pins s σ H Q I (lift_app h)⟩
theorem j_callTy {T : String} (hc : CallJ X cl (.type T) r) (hg : Gl X x) (hm : X.mg x = none) (hv : bootBuiltins x = some (.type T)) (ha : JA X cl W (e :: es) t) (hn : x ≠ "__name__" := by decide) (hdb : (x == ("__debug__" : Str)) = false := by decide)
    (he : starEach (e :: es) X.env = (false, eval e X.env) :: starEach es X.env := by rfl) (hpl : (backTo pos (starEach es X.env)).any (·.1) = false := by rfl) : JE X cl W (.Call (.Name x p) (e :: es) [] pos) (dApp r t) :=
  ⟨fun pins s σ H Q I h => (pe_callTy (hc (WE W σ)) hg hm hv ha hn hdb he hpl).run pins s σ H Q I (lift_app h)⟩
end
section
variable {X : Cx} {cl : Cl}
theorem Reps.one {K : PySem.W.Frag} {as : Mp} {H : Hp} {d : D} : ∀ {xs : List V}, Reps K as H [d] xs → ∃ v, xs = [v] ∧ Rep K as H d v
  | _, .cons r .nil => ⟨_, rfl, r⟩
theorem Reps.two {K : PySem.W.Frag} {as : Mp} {H : Hp} {d e : D} : ∀ {xs : List V}, Reps K as H [d, e] xs → ∃ v u, xs = [v, u] ∧ Rep K as H d v ∧ Rep K as H e u
  | _, .cons r (.cons q .nil) => ⟨_, _, rfl, r, q⟩
/-- len -/
def cLen : DC := fun ds st => match ds with
  | [.str y] => if y.length ≤ sizeLine then .ok (.int y.length) st else .bad
  | [d] => match seqOf d st with
    | some xs => .ok (.int xs.length) st
    | none => match dicOf d st with
      | some kvs => .ok (.int kvs.length) st
      | none => .bad
  | _ => .bad
theorem cj_len : CallJ X cl (.builtin "len") cLen := CallJ.of (CallR.or' (X := X) call_len_str (CallR.or' call_len_seq call_lenD)) fun E as st H xs ds Q w rs p => by
  unfold cLen at p
  split at p
  · obtain ⟨v, rfl, r⟩ := rs.one
    cases r
    split at p
    · rename_i hl
      exact .inl ⟨_, rfl, hl, p.val w (.int _)⟩
    · exact p.elim
  · rename_i d _
    obtain ⟨v, rfl, r⟩ := rs.one
    cases h1 : seqOf d st with
    | some ys =>
      rw [h1] at p
      obtain ⟨q, zs, rfl, hq, rz⟩ := seqOf_ok w r h1
      exact .inr (.inl ⟨q, zs, rfl, hq, by rw [← rz.len]; exact p.val w (.int _)⟩)
    | none =>
      rw [h1] at p
      cases h2 : dicOf d st with
      | none => rw [h2] at p; exact p.elim
      | some kvs =>
        rw [h2] at p
        obtain ⟨q, zs, rfl, hq, rz⟩ := dicOf_ok w r h2
        exact .inr (.inr ⟨q, zs, rfl, hq, by rw [← rz.len]; exact p.val w (.int _)⟩)
  · exact p.elim
def cAbs : DC := fun ds st => match ds with
  | [.int i] => .ok (.int (if i < 0 then -i else i)) st
  | _ => .bad
theorem cj_abs : CallJ X cl (.builtin "abs") cAbs := CallJ.of call_abs fun E as st H xs ds Q w rs p => by
  unfold cAbs at p
  split at p
  · obtain ⟨v, rfl, r⟩ := rs.one
    cases r
    exact ⟨_, rfl, p.val w (.int _)⟩
  · exact p.elim
def cMin2 : DC := fun ds st => match ds with
  | [.int i, .int j] => .ok (.int (if j < i then j else i)) st
  | _ => .bad
theorem cj_min2 (hc : X.calm = true) : CallJ X cl (.builtin "min") cMin2 := CallJ.of (call_min2 hc) fun E as st H xs ds Q w rs p => by
  unfold cMin2 at p
  split at p
  · obtain ⟨v, u, rfl, r, q⟩ := rs.two
    cases r; cases q
    exact ⟨_, _, rfl, p.val w (.int _)⟩
  · exact p.elim
def cMax2 : DC := fun ds st => match ds with
  | [.int i, .int j] => .ok (.int (if j > i then j else i)) st
  | _ => .bad
theorem cj_max2 (hc : X.calm = true) : CallJ X cl (.builtin "max") cMax2 := CallJ.of (call_max2 hc) fun E as st H xs ds Q w rs p => by
  unfold cMax2 at p
  split at p
  · obtain ⟨v, u, rfl, r, q⟩ := rs.two
    cases r; cases q
    exact ⟨_, _, rfl, p.val w (.int _)⟩
  · exact p.elim
def cInt : DC := fun ds st => match ds with
  | [.int i] => .ok (.int i) st
  | [.bl b] => .ok (.int (if b then 1 else 0)) st
  | _ => .bad
theorem cj_int : CallJ X cl (.type "int") cInt := CallJ.of call_int1 fun E as st H xs ds Q w rs p => by
  unfold cInt at p
  split at p
  · obtain ⟨v, rfl, r⟩ := rs.one
    cases r
    exact .inl ⟨_, rfl, p.val w (.int _)⟩
  · obtain ⟨v, rfl, r⟩ := rs.one
    cases r
    exact .inr ⟨_, rfl, p.val w (.int _)⟩
  · exact p.elim
/-- tuple(xs), list(xs) -/
def cTuple : DC := fun ds st => match ds with
  | [.tup xs] => .ok (.tup xs) st
  | [d] => match seqOf d st with
    | some xs => .ok (.tup xs) st
    | none => .bad
  | _ => .bad
theorem seqOf_list {K : PySem.W.Frag} {as : Mp} {st : Sto} {H : Hp} {d : D} {v : V} {ds : List D} (w : Wd K cl as st H) (r : Rep K as H d v) (h : seqOf d st = some ds) : (d = .tup ds) ∨ ∃ p xs, v = .ref p ∧ SqL K H p xs ∧ Reps K as H ds xs := by
  cases r with
  | tup s r => cases h; exact .inl rfl
  | lst n h1 r => cases h; exact .inr ⟨_, _, rfl, .of h1, r⟩
  | fro s r => cases h; exact .inr ⟨_, _, rfl, s.l, r⟩
  | @ref n a h1 =>
    have h : (match st[n]? with | some (.lst ds) => some ds | _ => none) = some ds := h
    cases hs : st[n]? with
    | none => rw [hs] at h; cases h
    | some o =>
      rw [hs] at h
      cases o with
      | lst es =>
        cases h
        obtain ⟨xs, h2, r⟩ := w.lst h1 hs
        exact .inr ⟨_, _, rfl, .of h2, r⟩
      | _ => cases h
  | _ => cases h
theorem cj_tuple : CallJ X cl (.type "tuple") cTuple := CallJ.of call_tuple_of fun E as st H xs ds Q w rs p => by
  unfold cTuple at p
  split at p
  · obtain ⟨v, rfl, r⟩ := rs.one
    cases r with
    | tup s r => exact ⟨_, _, rfl, .inr ⟨s.t, p.val w (.tup s r)⟩⟩
  · rename_i d hd
    obtain ⟨v, rfl, r⟩ := rs.one
    cases h1 : seqOf d st with
    | none => rw [h1] at p; exact p.elim
    | some ys =>
      rw [h1] at p
      rcases seqOf_list w r h1 with e | ⟨q, zs, rfl, hq, rz⟩
      · exact (hd ys e).elim
      · exact ⟨q, zs, rfl, .inl ⟨hq, p.newT w rz⟩⟩
  · exact p.elim
def cList : DC := fun ds st => match ds with
  | [d] => match seqOf d st with
    | some xs => .ok (.lst xs) st
    | none => .bad
  | _ => .bad
theorem cj_list : CallJ X cl (.type "list") cList := CallJ.of call_list_of fun E as st H xs ds Q w rs p => by
  unfold cList at p
  split at p
  · rename_i d
    obtain ⟨v, rfl, r⟩ := rs.one
    cases h1 : seqOf d st with
    | none => rw [h1] at p; exact p.elim
    | some ys =>
      rw [h1] at p
      obtain ⟨q, zs, rfl, hq, rz⟩ := seqOf_ok w r h1
      exact ⟨q, zs, rfl, hq, p.newL w rz⟩
  · exact p.elim
/-- .. that will change -/
def cListN : DC := fun ds st => match ds with
  | [d] => match seqOf d st with
    | some xs => .ok (.ref st.length) (st ++ [.lst xs])
    | none => .bad
  | _ => .bad
theorem cj_listN : CallJ X cl (.type "list") cListN := CallJ.of call_list_of fun E as st H xs ds Q w rs p => by
  unfold cListN at p
  split at p
  · rename_i d
    obtain ⟨v, rfl, r⟩ := rs.one
    cases h1 : seqOf d st with
    | none => rw [h1] at p; exact p.elim
    | some ys =>
      rw [h1] at p
      obtain ⟨q, zs, rfl, hq, rz⟩ := seqOf_ok w r h1
      exact ⟨q, zs, rfl, hq, fun a ha => p _ _ (Evo.push w ha) (w.push ha (.lst rz)) _ (Rep.newRef w)⟩
  · exact p.elim
/-- isinstance(x, T), T a built-in type -/
def tyNm : D → Sto → Option String
  | .non, _ => some "NoneType"
  | .bl _, _ => some "bool"
  | .int _, _ => some "int"
  | .str _, _ => some "str"
  | .tup _, _ => some "tuple"
  | .lst _, _ => some "list"
  | .fro _, _ => some "list"
  | .dic _, _ => some "dict"
  | .ref n, st => match st[n]? with
    | some (.lst _) => some "list"
    | some (.dK _) => some "dict"
    | _ => none
  | .raw _, _ => none
def isTy (T : String) (n : String) : Bool := n == T || (n == "bool" && T == "int")
def cIsi (T : String) : DC := fun ds st => match ds with
  | [d, .raw (.ty U)] => if U = T then (match tyNm d st with
    | some n => .ok (.bl (isTy T n)) st
    | none => .bad) else .bad
  | _ => .bad
theorem tyNm_ok {as : Mp} {st : Sto} {H : Hp} {d : D} {v : V} {n : String} (w : Wd X.K cl as st H) (r : Rep X.K as H d v) (h : tyNm d st = some n) :
    TyX X.K H v (.type n) ∧ n ∈ ["NoneType", "bool", "int", "str", "tuple", "list", "dict"] := by
  cases r with
  | non => cases h; exact ⟨.base .non, by decide⟩
  | bl b => cases h; exact ⟨.base (.bl _), by decide⟩
  | int i => cases h; exact ⟨.base (.int _), by decide⟩
  | str x => cases h; exact ⟨.base (.str _), by decide⟩
  | tup s r =>
    cases h
    rcases s with ⟨_, s⟩ | ⟨o, its, n, h1, h2, _⟩
    · exact ⟨.base (.tup s), by decide⟩
    · exact ⟨.kTuple h1 h2, by decide⟩
  | lst n h1 r => cases h; exact ⟨.base (.lst h1), by decide⟩
  | fro s r =>
    cases h
    rcases s with ⟨_, o, s⟩ | ⟨o, its, n, h1, h2, _⟩
    · exact ⟨.base (.frz s), by decide⟩
    · exact ⟨.kList h1 h2, by decide⟩
  | dic n h1 r => cases h; exact ⟨.base (.dK h1), by decide⟩
  | @ref m a h1 =>
    have h : (match st[m]? with | some (.lst _) => some "list" | some (.dK _) => some "dict" | _ => none) = some n := h
    cases hs : st[m]? with
    | none => rw [hs] at h; cases h
    | some o =>
      rw [hs] at h
      cases o with
      | lst es =>
        cases h
        obtain ⟨xs, h2, r⟩ := w.lst h1 hs
        exact ⟨.base (.lst h2), by decide⟩
      | dK es =>
        cases h
        obtain ⟨xs, h2, r⟩ := w.dK h1 hs
        exact ⟨.base (.dK h2), by decide⟩
      | _ => cases h
  | raw => cases h
theorem cj_isi {T : String} (hT : ∀ n ∈ ["NoneType", "bool", "int", "str", "tuple", "list", "dict"], PySem.W.kitOne X.K (.type n) (.type T) = some (isTy T n)) : CallJ X cl (.builtin "isinstance") (cIsi T) := CallJ.of call_isi fun E as st H xs ds Q w rs p => by
  unfold cIsi at p
  split at p
  · rename_i d U
    by_cases hU : U = T
    · rw [if_pos hU] at p
      subst hU
      obtain ⟨v, u, rfl, r, q⟩ := rs.two
      cases q
      cases h1 : tyNm d st with
      | none => rw [h1] at p; exact p.elim
      | some n =>
        rw [h1] at p
        obtain ⟨h2, h3⟩ := tyNm_ok w r h1
        exact ⟨v, .ty U, _, _, _, rfl, .ty U, h2, hT n h3, p.val w (.bl _)⟩
    · rw [if_neg hU] at p; exact p.elim
  · exact p.elim
theorem kit_all {K : PySem.W.Frag} {T : String} (h : (["NoneType", "bool", "int", "str", "tuple", "list", "dict"].all fun n => L2.kitB n T == some (isTy T n)) = true) :
    ∀ n ∈ ["NoneType", "bool", "int", "str", "tuple", "list", "dict"], PySem.W.kitOne K (.type n) (.type T) = some (isTy T n) := fun n hn => kit_ty (by
  have := List.all_eq_true.mp h n hn
  exact beq_iff_eq.mp this)
theorem cj_isi_int : CallJ X cl (.builtin "isinstance") (cIsi "int") := cj_isi (kit_all (by decide +kernel))
theorem cj_isi_bool : CallJ X cl (.builtin "isinstance") (cIsi "bool") := cj_isi (kit_all (by decide +kernel))
theorem cj_isi_str : CallJ X cl (.builtin "isinstance") (cIsi "str") := cj_isi (kit_all (by decide +kernel))
theorem cj_isi_tuple : CallJ X cl (.builtin "isinstance") (cIsi "tuple") := cj_isi (kit_all (by decide +kernel))
theorem cj_isi_list : CallJ X cl (.builtin "isinstance") (cIsi "list") := cj_isi (kit_all (by decide +kernel))
theorem cj_isi_dict : CallJ X cl (.builtin "isinstance") (cIsi "dict") := cj_isi (kit_all (by decide +kernel))
end
end DL

/-! DL4: subscripts, slices, dicts, fields, calls of defs, loops, comprehensions, methods of lists. -/
namespace DL
open PySem PySem.Spec PyProof.Rows L2

/-! ### subscripts -/
theorem pe_ixS {X : Cx} {a b : Expr} {t1 t2 : TE} {pos : Pos} {r : L2.St → R2} (hr : ∀ σ, IxR X (r σ)) (ha : PE X a t1) (hb : PE X b t2) (hs : PlainIx b) : PE X (.Subscript a b pos) (fun σ H Q => tOp (r σ) t1 t2 σ H Q) :=
  ⟨fun pins s σ H Q I h => (pe_ix (pos := pos) (hr σ) ha hb hs).run pins s σ H Q I h⟩
def dIx : D2 := fun x y st => match x, y with
  | .str z, .int i => if z.length ≤ sizeLine then (match atI z.cps.toList i with
    | some c => .ok (.str ⟨#[c]⟩) st
    | none => .bad) else .bad
  | x, .int i => match seqOf x st with
    | some ds => (match atI ds i with
      | some d => .ok d st
      | none => .bad)
    | none => .bad
  | _, _ => .bad
section
variable {X : Cx} {cl : Cl} {W : WX} {pos : Pos} {a b : Expr} {ta tb : DE}
theorem atI_rep {K : PySem.W.Frag} {as : Mp} {H : Hp} {ds : List D} {xs : List V} {i : Int} {d : D} (r : Reps K as H ds xs) (h : atI ds i = some d) : ∃ v, atI xs i = some v ∧ Rep K as H d v := by
  unfold atI at h ⊢
  rw [← r.len]
  cases hn : ixN ds.length i with
  | none => rw [hn] at h; cases h
  | some j =>
    rw [hn] at h
    obtain ⟨v, h1, h2⟩ := r.get (i := j) (d := d) h
    exact ⟨v, h1, h2⟩
theorem IxR.or3 {r r' r'' : R2} (h : IxR X r) (h' : IxR X r') (h'' : IxR X r'') : IxR X (fun x y H Q => r x y H Q ∨ r' x y H Q ∨ r'' x y H Q) := IxR.or h (IxR.or h' h'')
theorem ix_ok (E : XK) : IxR X (liftR X.K cl E dIx) := IxR.mono (IxR.or3 (X := X) ix_str ix_list ix_tup) fun x y H Q ⟨as, st, dx, dy, w, rx, ry, p⟩ => by
  unfold dIx at p
  split at p
  · rename_i z i
    cases rx; cases ry
    split at p
    · rename_i hz
      cases h : atI z.cps.toList i with
      | none => rw [h] at p; exact p.elim
      | some c => rw [h] at p; exact .inl ⟨_, _, _, rfl, rfl, hz, h, p.val w (.str _)⟩
    · exact p.elim
  · rename_i i _
    cases ry
    cases h1 : seqOf dx st with
    | none => rw [h1] at p; exact p.elim
    | some ds =>
      rw [h1] at p
      dsimp only at p
      obtain ⟨q, xs, rfl, hq, rs⟩ := seqOf_ok w rx h1
      cases h2 : atI ds i with
      | none => rw [h2] at p; exact p.elim
      | some d =>
        rw [h2] at p
        obtain ⟨v, h3, h4⟩ := atI_rep rs h2
        rcases hq with hq | hq
        · exact .inr (.inl ⟨q, xs, i, v, rfl, rfl, hq, h3, p.val w h4⟩)
        · exact .inr (.inr ⟨q, xs, i, v, rfl, rfl, hq, h3, p.val w h4⟩)
  · exact p.elim
theorem j_ix (ha : JE X cl W a ta) (hb : JE X cl W b tb) (hs : PlainIx b := by intro _ _; rfl) : JE X cl W (.Subscript a b pos) (dBin dIx ta tb) :=
  PE.mono (pe_ixS (fun σ => ix_ok (WE W σ)) ha hb hs) fun _ _ _ h => lift_bin h
end

/-! ### slices -/
abbrev DO := En → Sto → R (Option Int)
def liftO (K : PySem.W.Frag) (cl : Cl) (W : WX) (t : DO) : TO := fun σ H Q => ∃ as st τ, Wd K cl as st H ∧ RepE K as H τ σ ∧ Post K cl (WE W σ) as H (t τ st) fun o _ _ H' => Q o H'
abbrev JO (X : Cx) (cl : Cl) (W : WX) (e : Option Expr) (t : DO) : Prop := PO X e (liftO X.K cl W t)
theorem PO.mono {X : Cx} {e : Option Expr} {t t' : TO} (h : PO X e t) (k : ∀ σ H Q, t' σ H Q → t σ H Q) : PO X e t' := ⟨fun pins s σ H Q I q => h.run pins s σ H Q I (k _ _ _ q)⟩
def dNoPart : DO := fun _ st => .ok none st
def dPart (t : DE) : DO := fun τ st => (t τ st).bind fun d st => match d with
  | .int i => .ok (some i) st
  | _ => .bad
def cutL {α : Type} (xs : List α) (lo hi : Option Int) : List α := (xs.drop (HT.sIx xs.length 0 lo)).take (HT.sIx xs.length xs.length hi - HT.sIx xs.length 0 lo)
def dCut (x : D) (lo hi : Option Int) (st : Sto) : R D := match x with
  | .str z => if z.length ≤ sizeLine then .ok (.str (cutS z lo hi)) st else .bad
  | .tup ds => .ok (.tup (cutL ds lo hi)) st
  | x => match seqOf x st with
    | some ds => .ok (.lst (cutL ds lo hi)) st
    | none => .bad
def dSl (te : DE) (tl th : DO) : DE := fun τ st => (te τ st).bind fun x st => (tl τ st).bind fun lo st => (th τ st).bind fun hi st => dCut x lo hi st
section
variable {X : Cx} {cl : Cl} {W : WX} {pos p2 : Pos} {e : Expr} {lo hi : Option Expr} {te : DE} {tl th : DO}
theorem jo_none : JO X cl W none dNoPart := PO.mono po_none fun σ H Q ⟨as, st, τ, w, e, p⟩ => p.here w
theorem jo_some (h : JE X cl W e te) : JO X cl W (some e) (dPart te) := PO.mono (po_some h) fun σ H Q ⟨as, st, τ, w, e, p⟩ => ⟨as, st, τ, w, e, p.bind.mono fun d st1 as1 H1 e1 w1 p1 v rv => by
  cases d with
  | int i => cases rv; exact ⟨i, rfl, p1.here w1⟩
  | _ => exact p1.elim⟩
theorem cutL_whole {α : Type} {xs : List α} {lo hi : Option Int} (h : HT.sIx xs.length 0 lo = 0 ∧ HT.sIx xs.length xs.length hi = xs.length) : cutL xs lo hi = xs := by
  unfold cutL
  rw [h.1, h.2, List.drop_zero, Nat.sub_zero, List.take_length]
theorem Reps.cut {K : PySem.W.Frag} {as : Mp} {H : Hp} {ds : List D} {xs : List V} (r : Reps K as H ds xs) (lo hi : Option Int) : Reps K as H (cutL ds lo hi) (cutV xs lo hi) := by
  unfold cutL cutV
  rw [r.len]
  exact (r.drop _).take _
theorem SlR.mono {r r' : V → Option Int → Option Int → Hp → VK → Prop} (h : SlR X r) (k : ∀ x lo hi H Q, r' x lo hi H Q → r x lo hi H Q) : SlR X r' := fun pins s σ H x v vl vu lo hi sl Q I rx hs pl pu q => h pins s σ H x v vl vu lo hi sl Q I rx hs pl pu (k _ _ _ _ _ q)
def rSlD (K : PySem.W.Frag) (cl : Cl) (E : XK) : V → Option Int → Option Int → Hp → VK → Prop := fun x lo hi H Q => ∃ as st d, Wd K cl as st H ∧ Rep K as H d x ∧ Post K cl E as H (dCut d lo hi st) (QV K Q)
theorem sl_ok (E : XK) : SlR X (rSlD X.K cl E) := SlR.mono (SlR.or (X := X) sl_str (SlR.or sl_tupA sl_list)) fun x lo hi H Q ⟨as, st, d, w, rx, p⟩ => by
  unfold dCut at p
  split at p
  · cases rx
    split at p
    · rename_i hz
      exact .inl ⟨_, rfl, hz, p.val w (.str _)⟩
    · exact p.elim
  · cases rx with
    | tup s r =>
      refine .inr (.inl ⟨_, _, rfl, s.t, fun hw => ?_, fun _ => p.newT w (r.cut lo hi)⟩)
      rw [cutL_whole (by rw [r.len]; exact hw)] at p
      exact p.val w (.tup s r)
  · rename_i hx1 hx2
    cases h1 : seqOf d st with
    | none => rw [h1] at p; exact p.elim
    | some ds =>
      rw [h1] at p
      rcases seqOf_list w rx h1 with e | ⟨q, xs, rfl, hq, rs⟩
      · exact (hx2 ds e).elim
      · exact .inr (.inr ⟨q, xs, rfl, hq, p.newL w (rs.cut lo hi)⟩)
theorem pe_sliceS {r : L2.St → V → Option Int → Option Int → Hp → VK → Prop} {t1 : TE} {t2 t3 : TO} (hr : ∀ σ, SlR X (r σ)) (he : PE X e t1) (hl : PO X lo t2) (hu : PO X hi t3) : PE X (.Subscript e (.Slice lo hi none p2) pos) (fun σ H Q => tSl (r σ) t1 t2 t3 σ H Q) :=
  ⟨fun pins s σ H Q I h => (pe_slice (pos := pos) (p2 := p2) (hr σ) he hl hu).run pins s σ H Q I h⟩
theorem j_slice (he : JE X cl W e te) (hl : JO X cl W lo tl) (hu : JO X cl W hi th) : JE X cl W (.Subscript e (.Slice lo hi none p2) pos) (dSl te tl th) :=
  PE.mono (pe_sliceS (fun σ => sl_ok (WE W σ)) he hl hu) fun σ H Q ⟨as, st, τ, w, e, p⟩ => ⟨as, st, τ, w, e, p.bind.mono fun d st1 as1 H1 e1 w1 p1 x rx => ⟨as1, st1, τ, w1, e.evo e1, p1.bind.mono fun l st2 as2 H2 e2 w2 p2 =>
    ⟨as2, st2, τ, w2, (e.evo e1).evo e2, p2.bind.mono fun h st3 as3 H3 e3 w3 p3 => ⟨as3, st3, d, w3, (rx.evo e2).evo e3, p3⟩⟩⟩⟩
end

/-! ### dicts -/
section
variable {κ α : Type} [DecidableEq κ]
def valD (kvs : List (κ × α)) (k : κ) : Option α := match kvs with
  | [] => none
  | (k', v) :: r => if k' = k then some v else valD r k
def setD (kvs : List (κ × α)) (k : κ) (v : α) : List (κ × α) := match kvs with
  | [] => []
  | (k', u) :: r => if k' = k then (k', v) :: setD r k v else (k', u) :: setD r k v
def putD (kvs : List (κ × α)) (k : κ) (v : α) : List (κ × α) := if (valD kvs k).isSome then setD kvs k v else kvs ++ [(k, v)]
def dropD (kvs : List (κ × α)) (k : κ) : List (κ × α) := match kvs with
  | [] => []
  | (k', u) :: r => if k' = k then dropD r k else (k', u) :: dropD r k
end
def keyOf : D → Option Key
  | .int i => some (.inl i)
  | .str x => some (.inr x)
  | _ => none
section
variable {K : PySem.W.Frag} {as : Mp} {H : Hp} {κ : Type} [DecidableEq κ]
theorem keyOf_ok {d : D} {v : V} {k : Key} (r : Rep K as H d v) (h : keyOf d = some k) : v = kV k := by
  cases r <;> cases h <;> rfl
theorem valD_ok {k : κ} : ∀ {kvs : List (κ × D)} {xs : List (κ × V)}, RepF K as H kvs xs → (valD kvs k = none ∧ valV xs k = none) ∨ ∃ d v, valD kvs k = some d ∧ valV xs k = some v ∧ Rep K as H d v
  | _, _, .nil => .inl ⟨rfl, rfl⟩
  | _, _, .cons (k := k') r t => by
    unfold valD
    by_cases e : k' = k
    · rw [if_pos e, valV_pos (p := (k', _)) e]; exact .inr ⟨_, _, rfl, rfl, r⟩
    · rw [if_neg e, valV_neg (p := (k', _)) e]; exact valD_ok t
theorem RepF.append {kvs kvs' : List (κ × D)} {xs xs' : List (κ × V)} (r : RepF K as H kvs xs) (r' : RepF K as H kvs' xs') : RepF K as H (kvs ++ kvs') (xs ++ xs') := by
  induction r with
  | nil => exact r'
  | cons q _ ih => exact .cons q ih
theorem setD_ok {k : κ} {d : D} {v : V} (q : Rep K as H d v) {kvs : List (κ × D)} {xs : List (κ × V)} (r : RepF K as H kvs xs) : RepF K as H (setD kvs k d) (xs.map fun kv => if kv.1 = k then (kv.1, v) else kv) := by
  induction r with
  | nil => exact .nil
  | @cons k' d' v' ds vs r t ih =>
    unfold setD
    rw [List.map_cons]
    by_cases e : k' = k
    · rw [if_pos e]; simp only [e, if_true]; exact .cons q ih
    · rw [if_neg e]; simp only [e, if_false]; exact .cons r ih
theorem putD_ok {k : κ} {d : D} {v : V} (q : Rep K as H d v) {kvs : List (κ × D)} {xs : List (κ × V)} (r : RepF K as H kvs xs) : RepF K as H (putD kvs k d) (putK xs k v) := by
  unfold putD putK
  rw [valV_any]
  rcases valD_ok (k := k) r with ⟨h1, h2⟩ | ⟨d', v', h1, h2, _⟩
  · rw [h1, h2]; exact r.append (.cons q .nil)
  · rw [h1, h2]; exact setD_ok q r
theorem dropD_ok {k : κ} {kvs : List (κ × D)} {xs : List (κ × V)} (r : RepF K as H kvs xs) : RepF K as H (dropD kvs k) (dropK xs k) := by
  induction r with
  | nil => exact .nil
  | @cons k' d' v' ds vs r t ih =>
    unfold dropD dropK
    rw [List.filter_cons]
    by_cases e : k' = k
    · rw [if_pos e]; simp only [e, ne_eq, not_true_eq_false, decide_false, Bool.false_eq_true, if_false]; exact ih
    · rw [if_neg e]; simp only [e, ne_eq, not_false_eq_true, decide_true, if_true]; exact .cons r ih
end
def dGetK : D2 := fun x y st => match dicOf x st, keyOf y with
  | some kvs, some k => (match valD kvs k with
    | some d => .ok d st
    | none => .bad)
  | _, _ => .bad
def dInK (neg : Bool) : D2 := fun y x st => match dicOf x st, keyOf y with
  | some kvs, some k => .ok (.bl (neg ^^ (valD kvs k).isSome)) st
  | _, _ => .bad
/-- d[k] = v for a dict of the store -/
def sPutK (x y v : D) (τ : En) (st : Sto) : R (Fl × En) := match x, keyOf y with
  | .ref n, some k => match st[n]? with
    | some (.dK kvs) => if kvs.length < sizeLine then .ok (.nx, τ) (st.set n (.dK (putD kvs k v))) else .bad
    | _ => .bad
  | _, _ => .bad
def sDelK (x y : D) (τ : En) (st : Sto) : R (Fl × En) := match x, keyOf y with
  | .ref n, some k => match st[n]? with
    | some (.dK kvs) => if (valD kvs k).isSome then .ok (.nx, τ) (st.set n (.dK (dropD kvs k))) else .bad
    | _ => .bad
  | _, _ => .bad
def dPutS (td ty tv : DE) : DS := fun τ st => (tv τ st).stm τ fun v st => (td τ st).stm τ fun x st => (ty τ st).stm τ fun y st => sPutK x y v τ st
def dDelS (td ty : DE) : DS := fun τ st => (td τ st).stm τ fun x st => (ty τ st).stm τ fun y st => sDelK x y τ st
section
variable {X : Cx} {cl : Cl} {W : WX} {pos pos' tpos : Pos} {o i value : Expr} {td ty tv : DE}
theorem j_dget (hu : X.A.units + 1 < cLine) (ho : JE X cl W o td) (hi : JE X cl W i ty) (hs : NoSl i := by intro _ _; rfl) : JE X cl W (.Subscript o i pos) (dBin dGetK td ty) := by
  refine PE.mono (pe_dget hu ho hi hs) fun σ H Q ⟨as, st, τ, w, e, p⟩ => ⟨as, st, τ, w, e, p.bind.mono fun d st1 as1 H1 e1 w1 p1 x rx => ⟨as1, st1, τ, w1, e.evo e1, p1.bind.mono fun y st2 as2 H2 e2 w2 p2 yv ry => ?_⟩⟩
  unfold dGetK at p2
  cases h1 : dicOf d st2 with
  | none => rw [h1] at p2; exact p2.elim
  | some kvs =>
    cases h2 : keyOf y with
    | none => rw [h1, h2] at p2; exact p2.elim
    | some k =>
      rw [h1, h2] at p2
      dsimp only at p2
      obtain ⟨q, xs, rfl, hq, rs⟩ := dicOf_ok w2 (rx.evo e2) h1
      have hy := keyOf_ok ry h2
      subst hy
      rcases valD_ok (k := k) rs with ⟨h3, _⟩ | ⟨d', v', h3, h4, r'⟩
      · rw [h3] at p2; exact p2.elim
      · rw [h3] at p2
        exact ⟨q, v', rfl, by rw [← h4]; exact DGet.k hq, p2.val w2 r'⟩
theorem dInK_ok {E : XK} {as : Mp} {st : Sto} {H : Hp} {x y : V} {dx dy : D} {Q : VK} {neg : Bool} (w : Wd X.K cl as st H) (ry : Rep X.K as H dy y) (rx : Rep X.K as H dx x) (p : Post X.K cl E as H (dInK neg dy dx st) (QV X.K Q)) :
    ∃ a o, x = .ref a ∧ DGet H a y o ∧ Q (.bl (neg ^^ o.isSome)) H := by
  unfold dInK at p
  cases h1 : dicOf dx st with
  | none => rw [h1] at p; exact p.elim
  | some kvs =>
    cases h2 : keyOf dy with
    | none => rw [h1, h2] at p; exact p.elim
    | some k =>
      rw [h1, h2] at p
      dsimp only at p
      obtain ⟨q, xs, rfl, hq, rs⟩ := dicOf_ok w rx h1
      have hy := keyOf_ok ry h2
      subst hy
      refine ⟨q, valV xs k, rfl, DGet.k hq, ?_⟩
      rcases valD_ok (k := k) rs with ⟨h3, h4⟩ | ⟨d', v', h3, h4, r'⟩
      · rw [h3] at p; rw [h4]; exact p.val w (.bl _)
      · rw [h3] at p; rw [h4]; exact p.val w (.bl _)
theorem lift_din {neg : Bool} {σ : L2.St} {H : Hp} {Q : VK} (h : lift X.K cl W (dBin (dInK neg) ty td) σ H Q) :
    lift X.K cl W ty σ H fun y H1 => lift X.K cl W td σ H1 fun x H2 => ∃ a o, x = .ref a ∧ DGet H2 a y o ∧ Q (.bl (neg ^^ o.isSome)) H2 := by
  obtain ⟨as, st, τ, w, e, p⟩ := h
  exact ⟨as, st, τ, w, e, p.bind.mono fun d st1 as1 H1 e1 w1 p1 x rx => ⟨as1, st1, τ, w1, e.evo e1, p1.bind.mono fun y st2 as2 H2 e2 w2 p2 yv ry => dInK_ok w2 (rx.evo e2) ry p2⟩⟩
theorem fx {b : Bool} : (false ^^ b) = b := Bool.false_xor b
theorem lift_din0 {σ : L2.St} {H : Hp} {Q : VK} (h : lift X.K cl W (dBin (dInK false) ty td) σ H Q) : tDIn (lift X.K cl W ty) (lift X.K cl W td) σ H Q := by
  have h := lift_din h
  simp only [Bool.false_xor] at h
  exact h
theorem lift_din1 {σ : L2.St} {H : Hp} {Q : VK} (h : lift X.K cl W (dBin (dInK true) ty td) σ H Q) : tDNotIn (lift X.K cl W ty) (lift X.K cl W td) σ H Q := by
  have h := lift_din h
  simp only [Bool.true_xor] at h
  exact h
theorem j_din (hu : X.A.units + 1 < cLine) (hi : JE X cl W i ty) (ho : JE X cl W o td) (hm : behindInMarks .In o = false := by rfl) : JE X cl W (.Compare i [.In] [o] pos) (dBin (dInK false) ty td) := PE.mono (pe_cmp (pc_din hu hi ho) hm) fun _ _ _ h => lift_din0 h
theorem j_dnotin (hu : X.A.units + 1 < cLine) (hi : JE X cl W i ty) (ho : JE X cl W o td) (hm : behindInMarks .NotIn o = false := by rfl) : JE X cl W (.Compare i [.NotIn] [o] pos) (dBin (dInK true) ty td) := PE.mono (pe_cmp (pc_dnotin hu hi ho) hm) fun _ _ _ h => lift_din1 h
theorem Post.ok {α : Type} {K : PySem.W.Frag} {E : XK} {as : Mp} {H : Hp} {st : Sto} {a : α} {Q : α → Sto → Mp → Hp → Prop} (p : Post K cl E as H (.ok a st) Q) {as' : Mp} {H' : Hp} (e : Evo as H as' H') (w : Wd K cl as' st H') : Q a st as' H' := p as' H' e w
theorem Rep.refAt {K : PySem.W.Frag} {as : Mp} {H : Hp} {n : Nat} {v : V} (r : Rep K as H (.ref n) v) : ∃ a, v = .ref a ∧ as.m[n]? = some a := by
  cases r with
  | ref h => exact ⟨_, rfl, h⟩
theorem js_dput (hu : X.A.units + 1 < cLine) (ho : JE X cl W o td) (hi : JE X cl W i ty) (hv : JE X cl W value tv) (hs : swapsWith value (some (.Subscript o i pos')) pos.line X.env = pure false := by rfl) :
    JS X cl W (.Assign [.Subscript o i pos'] value pos) (dPutS td ty tv) := by
  refine PS.mono (ps_dput hu ho hi hv hs) fun M σ H ⟨as, st, τ, w, e, p⟩ => ⟨as, st, τ, w, e, (Post.stm e p).mono fun d st1 as1 H1 e1 w1 p1 v rv => ?_⟩
  refine ⟨as1, st1, τ, w1, e.evo e1, (Post.stm (e.evo e1) p1).mono fun d2 st2 as2 H2 e2 w2 p2 x rx => ?_⟩
  refine ⟨as2, st2, τ, w2, (e.evo e1).evo e2, (Post.stm ((e.evo e1).evo e2) p2).mono fun d3 st3 as3 H3 e3 w3 p3 y ry => ?_⟩
  have rx3 := rx.evo e3
  unfold sPutK at p3
  split at p3
  · rename_i n k hk
    obtain ⟨a, rfl, ha⟩ := rx3.refAt
    split at p3
    · rename_i kvs hn
      split at p3
      · rename_i hl
        obtain ⟨xs, hH, rs⟩ := w3.dK ha hn
        have hy := keyOf_ok ry hk
        subst hy
        refine ⟨a, _, rfl, DPut.k hH (by rw [← rs.len]; exact hl), ?_⟩
        exact p3.ok (Evo.wr w3 ha) (w3.wr ha (.dK (putD_ok ((rv.evo e2).evo e3) rs))) σ ((((e.evo e1).evo e2).evo e3).evo (Evo.wr w3 ha))
      · exact p3.elim
    · exact p3.elim
  · exact p3.elim
theorem js_ddel (ho : JE X cl W o td) (hi : JE X cl W i ty) : JS X cl W (.Delete [.Subscript o i tpos] pos) (dDelS td ty) := by
  refine PS.mono (ps_ddel ho hi) fun M σ H ⟨as, st, τ, w, e, p⟩ => ⟨as, st, τ, w, e, (Post.stm e p).mono fun d2 st2 as2 H2 e2 w2 p2 x rx => ?_⟩
  refine ⟨as2, st2, τ, w2, e.evo e2, (Post.stm (e.evo e2) p2).mono fun d3 st3 as3 H3 e3 w3 p3 y ry => ?_⟩
  have rx3 := rx.evo e3
  unfold sDelK at p3
  split at p3
  · rename_i n k hk
    obtain ⟨a, rfl, ha⟩ := rx3.refAt
    split at p3
    · rename_i kvs hn
      split at p3
      · rename_i hl
        obtain ⟨xs, hH, rs⟩ := w3.dK ha hn
        have hy := keyOf_ok ry hk
        subst hy
        refine ⟨a, xs, k, rfl, hH, rfl, ?_, ?_⟩
        · rcases valD_ok (k := k) rs with ⟨h3, h4⟩ | ⟨d', v', h3, h4, r'⟩
          · rw [h3] at hl; cases hl
          · rw [h4]; rfl
        · exact p3.ok (Evo.wr w3 ha) (w3.wr ha (.dK (dropD_ok rs))) σ (((e.evo e2).evo e3).evo (Evo.wr w3 ha))
      · exact p3.elim
    · exact p3.elim
  · exact p3.elim
end

/-! ### dict displays -/
abbrev DPs := En → Sto → R (List (Key × D))
def dPNil : DPs := fun _ st => .ok [] st
def dPCons (tk tv : DE) (u : DPs) : DPs := fun τ st => (tk τ st).bind fun k st => (tv τ st).bind fun v st => (u τ st).bind fun r st => match keyOf k with
  | some k => .ok ((k, v) :: r) st
  | none => .bad
def mergeD (kvs : List (Key × D)) : List (Key × D) := kvs.foldl (fun acc kv => putD acc kv.1 kv.2) []
/-- a new dict of the store; one that nobody changes -/
def dDisp (t : DPs) : DE := fun τ st => (t τ st).bind fun kvs st => if kvs.length ≤ 15 then .ok (.ref st.length) (st ++ [.dK (mergeD kvs)]) else .bad
def dDispF (t : DPs) : DE := fun τ st => (t τ st).bind fun kvs st => if kvs.length ≤ 15 then .ok (.dic (mergeD kvs)) st else .bad
/-- the readings of a display's pairs -/
inductive JPs (X : Cx) (cl : Cl) (W : WX) : Pos → List (Option Expr) → List Expr → List (TE × TE) → DPs → Prop
  | nil {pos : Pos} : JPs X cl W pos [] [] [] dPNil
  | cons {pos : Pos} {k v : Expr} {ks : List (Option Expr)} {vs : List Expr} {tk tv : DE} {trs : List (TE × TE)} {u : DPs} : JE X cl W k tk → JE X cl W v tv → JPs X cl W pos ks vs trs u →
      JPs X cl W pos (some k :: ks) (v :: vs) ((lift X.K cl W tk, lift X.K cl W tv) :: trs) (dPCons tk tv u)
section
variable {X : Cx} {cl : Cl} {W : WX} {pos : Pos}
theorem JPs.pps {ks : List (Option Expr)} {vs : List Expr} {trs : List (TE × TE)} {u : DPs} (h : JPs X cl W pos ks vs trs u) : PPs X pos ks vs trs := by
  induction h with
  | nil => exact pps_nil
  | cons h1 h2 _ ih => exact pps_cons h1 h2 ih
theorem JPs.run {ks : List (Option Expr)} {vs : List Expr} {trs : List (TE × TE)} {u : DPs} (h : JPs X cl W pos ks vs trs u) : ∀ {as : Mp} {st : Sto} {τ : En} {σ : L2.St} {H : Hp} {Q : List (V × V) → Hp → Prop}, Wd X.K cl as st H → RepE X.K as H τ σ →
    Post X.K cl (WE W σ) as H (u τ st) (fun kvs st' as' H' => ∀ xs : List (Key × V), RepF X.K as' H' kvs xs → Q (xs.map fun kv => (kV kv.1, kv.2)) H') → tPairs trs σ H Q := by
  induction h with
  | nil => exact fun w e p => p.here w [] .nil
  | cons h1 h2 _ ih =>
    intro as st τ σ H Q w e p
    refine ⟨as, st, τ, w, e, p.bind.mono fun d st1 as1 H1 e1 w1 p1 x rx => ⟨as1, st1, τ, w1, e.evo e1, p1.bind.mono fun y st2 as2 H2 e2 w2 p2 yv ry => ?_⟩⟩
    refine ih w2 ((e.evo e1).evo e2) (p2.bind.mono fun r st3 as3 H3 e3 w3 p3 xs rs => ?_)
    cases hk : keyOf d with
    | none => rw [hk] at p3; exact p3.elim
    | some k =>
      rw [hk] at p3
      have hx := keyOf_ok ((rx.evo e2).evo e3) hk
      subst hx
      exact p3.here w3 ((k, yv) :: xs) (.cons (ry.evo e3) rs)
theorem mergeD_ok {K : PySem.W.Frag} {as : Mp} {H : Hp} {kvs : List (Key × D)} {xs : List (Key × V)} (r : RepF K as H kvs xs) : RepF K as H (mergeD kvs) (mergeK [] xs) := by
  unfold mergeD mergeK
  suffices h : ∀ (acc : List (Key × D)) (bcc : List (Key × V)), RepF K as H acc bcc → RepF K as H (kvs.foldl (fun acc kv => putD acc kv.1 kv.2) acc) (xs.foldl (fun acc kv => putK acc kv.1 kv.2) bcc) from h [] [] .nil
  induction r with
  | nil => exact fun _ _ h => h
  | cons q _ ih => exact fun acc bcc h => ih _ _ (putD_ok q h)
theorem RepX.mv {K : PySem.W.Frag} {cl : Cl} {as as' : Mp} {H H' : Hp} {x : Exn} {u : Value} {dx : Option Addr} (e : Mv as H as' H') (r : RepX K cl as H x u dx) : RepX K cl as' H' x u dx := by
  obtain ⟨h, r⟩ := r
  refine ⟨h, r.imp id fun ⟨d, fx, h1, h2, h3, h4⟩ => let q := e.k _ _ h3 h2; ⟨d, fx, h1, q.1, q.2, h4.mv e⟩⟩
theorem j_disp {ks : List (Option Expr)} {vs : List Expr} {trs : List (TE × TE)} {u : DPs} (h : JPs X cl W pos ks vs trs u) (hall : ks.all (·.isSome) = true := by rfl) (hl : ks.length = vs.length := by rfl) (h0 : ks ≠ [] := by decide)
    (h15 : ks.length ≤ 15 := by decide) : JE X cl W (.Dict ks vs pos) (dDisp u) := by
  refine PE.mono (pe_disp h.pps hall hl h0 h15) fun σ H Q ⟨as, st, τ, w, e, p⟩ a ha => ?_
  have m0 : Mk1 as H a (as.hide a) (upd H a (.dK [])) := Mk1.start w ha
  refine h.run (w.hide ha) (e.mv (Mv.hide ha)) ?_
  unfold dDisp at p
  cases hr : u τ st with
  | bad => rw [hr] at p; exact p.elim
  | exc x st1 =>
    rw [hr] at p
    intro c dx as1 H1 e1 w1 r1
    obtain ⟨m1, k1⟩ := m0.next e1 w
    exact p c dx _ H1 m1.evo (m1.fix w w1).1 (r1.mv m1.mv)
  | ok kvs st1 =>
    rw [hr] at p
    intro as1 H1 e1 w1 xs rs
    obtain ⟨m1, k1⟩ := m0.next e1 w
    have p : Post X.K cl (WE W σ) as H (if kvs.length ≤ 15 then .ok (.ref st1.length) (st1 ++ [.dK (mergeD kvs)]) else .bad) (QV X.K Q) := p
    split at p
    · rename_i hl
      refine ⟨k1.trans upd_same, xs, rfl, by rw [← rs.len]; exact hl, ?_⟩
      have m2 : Mk1 as H a as1 (upd H1 a (.dK (mergeK [] xs))) := m1.set w
      obtain ⟨e2, w2⟩ := m2.push w (w1.wrx m1.mem) upd_same (.dK ((mergeD_ok rs).mv (Mv.side (.inr m1.mem))))
      refine p _ _ e2 w2 _ (.ref ?_)
      show (as1.m ++ [a])[st1.length]? = some a
      rw [← w1.len]; simp
    · exact p.elim
end
end DL

/-! DL5: fields, calls of defs, loops, comprehensions, methods of lists. -/
namespace DL
open PySem PySem.Spec PyProof.Rows L2

/-! ### fields -/
def getF (fs : List (Str × D)) (f : Str) : Option D := valD fs f
def fldV (f : Str) (cs : List Str) (d : D) (st : Sto) : R D := match d with
  | .ref n => match st[n]? with
    | some (.ins c fs) => if c ∈ cs then (match valD fs f with
      | some d => .ok d st
      | none => .bad) else .bad
    | _ => .bad
  | _ => .bad
def dFld (f : Str) (cs : List Str) (t : DE) : DE := fun τ st => (t τ st).bind fun d st => fldV f cs d st
def putFD (f : Str) (v : D) : List (Str × D) → List (Str × D)
  | [] => [(f, v)]
  | (g, x) :: r => if g = f then (g, v) :: r else (g, x) :: putFD f v r
def setF (f : Str) (cs : List Str) (d v : D) (τ : En) (st : Sto) : R (Fl × En) := match d with
  | .ref n => match st[n]? with
    | some (.ins c fs) => if c ∈ cs ∧ fs.length < 1000 then .ok (.nx, τ) (st.set n (.ins c (putFD f v fs))) else .bad
    | _ => .bad
  | _ => .bad
def dFldS (f : Str) (cs : List Str) (to tv : DE) : DS := fun τ st => (tv τ st).stm τ fun v st => (to τ st).stm τ fun d st => setF f cs d v τ st
/-- the classes' facts for a field -/
def FldOk (K : PySem.W.Frag) (cl : Cl) (f : Str) (cs : List Str) : Prop := ∀ c ∈ cs, Cls K (cl c) ∧ NoAttr K (cl c) f
section
variable {K : PySem.W.Frag} {as : Mp} {H : Hp}
theorem lookup_rep {f : Str} : ∀ {fs : List (Str × D)} {fx : List (Str × V)} {d : D}, RepF K as H fs fx → valD fs f = some d → ∃ v, fx.lookup f = some v ∧ Rep K as H d v
  | _, _, _, .nil, h => by cases h
  | _, _, d, .cons (k := k) r t, h => by
    unfold valD at h
    by_cases e : k = f
    · rw [if_pos e] at h; cases h
      refine ⟨_, ?_, r⟩
      rw [e, List.lookup_cons, beq_self_eq_true]
    · rw [if_neg e] at h
      obtain ⟨v, h1, h2⟩ := lookup_rep t h
      refine ⟨v, ?_, h2⟩
      rw [List.lookup_cons, show (f == k) = false from beq_eq_false_iff_ne.mpr (Ne.symm e)]
      exact h1
theorem lookup_none {f : Str} : ∀ {fs : List (Str × D)} {fx : List (Str × V)}, RepF K as H fs fx → valD fs f = none → fx.lookup f = none
  | _, _, .nil, _ => rfl
  | _, _, .cons (k := k) r t, h => by
    unfold valD at h
    by_cases e : k = f
    · rw [if_pos e] at h; cases h
    · rw [if_neg e] at h
      rw [List.lookup_cons, show (f == k) = false from beq_eq_false_iff_ne.mpr (Ne.symm e)]
      exact lookup_none t h
end
section
variable {K : PySem.W.Frag} {as : Mp} {H : Hp}
theorem putFD_ok {f : Str} {d : D} {v : V} (q : Rep K as H d v) : ∀ {fs : List (Str × D)} {fx : List (Str × V)}, RepF K as H fs fx → RepF K as H (putFD f d fs) (putF f v fx)
  | _, _, .nil => .cons q .nil
  | _, _, .cons (k := k) r t => by
    unfold putFD putF
    by_cases e : k = f
    · rw [if_pos e, if_pos e]; exact .cons q t
    · rw [if_neg e, if_neg e]; exact .cons r (putFD_ok q t)
end
section
variable {X : Cx} {cl : Cl} {W : WX} {pos pos' : Pos} {e o value : Expr} {te to tv : DE} {f : Str} {cs : List Str}
theorem j_fld (hf : FldOk X.K cl f cs) (he : JE X cl W e te) (hb : attributeBase e f X.env (eval e X.env) = eval e X.env := by rfl) : JE X cl W (.Attribute e f pos) (dFld f cs te) := by
  refine PE.mono (pe_fld he hb) fun σ H Q ⟨as, st, τ, w, e, p⟩ => ⟨as, st, τ, w, e, p.bind.mono fun d st1 as1 H1 e1 w1 p1 v rv => ?_⟩
  unfold fldV at p1
  split at p1
  · rename_i n
    obtain ⟨a, rfl, ha⟩ := rv.refAt
    split at p1
    · rename_i c fs hn
      split at p1
      · rename_i hc
        obtain ⟨dx, fx, hH, rs⟩ := w1.ins ha hn
        cases hv : valD fs f with
        | none => rw [hv] at p1; exact p1.elim
        | some d =>
          rw [hv] at p1
          obtain ⟨v, h1, h2⟩ := lookup_rep rs hv
          exact ⟨a, cl c, dx, fx, v, rfl, hH, (hf c hc).1, (hf c hc).2, h1, p1.val w1 h2⟩
      · exact p1.elim
    · exact p1.elim
  · exact p1.elim
theorem js_fld (hf : FldOk X.K cl f cs) (ho : JE X cl W o to) (hv : JE X cl W value tv) (hs : swapsWith value (some (.Attribute o f pos')) pos.line X.env = pure false := by rfl) : JS X cl W (.Assign [.Attribute o f pos'] value pos) (dFldS f cs to tv) := by
  refine PS.mono (ps_fld ho hv hs) fun M σ H ⟨as, st, τ, w, e, p⟩ => ⟨as, st, τ, w, e, (Post.stm e p).mono fun d st1 as1 H1 e1 w1 p1 y ry => ?_⟩
  refine ⟨as1, st1, τ, w1, e.evo e1, (Post.stm (e.evo e1) p1).mono fun d2 st2 as2 H2 e2 w2 p2 x rx => ?_⟩
  unfold setF at p2
  split at p2
  · rename_i n
    obtain ⟨a, rfl, ha⟩ := rx.refAt
    split at p2
    · rename_i c fs hn
      split at p2
      · rename_i hc
        obtain ⟨dx, fx, hH, rs⟩ := w2.ins ha hn
        refine ⟨a, cl c, dx, fx, rfl, hH, (hf c hc.1).1, (hf c hc.1).2, by rw [← rs.len]; exact hc.2, ?_⟩
        exact p2.ok (Evo.wr w2 ha) (w2.wr ha (.ins (putFD_ok (ry.evo e2) rs))) σ (((e.evo e1).evo e2).evo (Evo.wr w2 ha))
      · exact p2.elim
    · exact p2.elim
  · exact p2.elim
/-- o.f op= e -/
def dFldAug (f : Str) (cs : List Str) (to tv : DE) (r : D2) : DS := fun τ st => (to τ st).stm τ fun d st => (fldV f cs d st).stm τ fun x st => (tv τ st).stm τ fun y st => (r x y st).stm τ fun z st => setF f cs d z τ st
theorem fldV_ok {K : PySem.W.Frag} {as : Mp} {H : Hp} {st : Sto} {d : D} {v : V} {E : XK} {Q : D → Sto → Mp → Hp → Prop} (w : Wd K cl as st H) (rv : Rep K as H d v) (p : Post K cl E as H (fldV f cs d st) Q) :
    ∃ a n c fs dx fx d' v', d = .ref n ∧ st[n]? = some (.ins c fs) ∧ c ∈ cs ∧ v = .ref a ∧ as.m[n]? = some a ∧ H a = some (.ins (cl c) dx fx) ∧ RepF K as H fs fx ∧ fx.lookup f = some v' ∧ Rep K as H d' v' ∧ fldV f cs d st = .ok d' st := by
  unfold fldV at p ⊢
  split at p
  · rename_i n
    obtain ⟨a, rfl, ha⟩ := rv.refAt
    split at p
    · rename_i c fs hn
      split at p
      · rename_i hc
        obtain ⟨dx, fx, hH, rs⟩ := w.ins ha hn
        cases hv : valD fs f with
        | none => rw [hv] at p; exact p.elim
        | some d =>
          obtain ⟨v, h1, h2⟩ := lookup_rep rs hv
          refine ⟨a, n, c, fs, dx, fx, d, v, rfl, hn, hc, rfl, ha, hH, rs, h1, h2, ?_⟩
          simp only [hn, hc, if_true, hv]
      · exact p.elim
    · exact p.elim
  · exact p.elim
theorem js_fldaug {op : Operator} {r : D2} {k : Str} (hf : FldOk X.K cl f [k]) (ho : JE X cl W o to) (hv : JE X cl W value tv) (hop : OpJ X cl (inplaceOp op) r) : JS X cl W (.AugAssign (.Attribute o f pos') op value pos) (dFldAug f [k] to tv r) := by
  have hop' : ∀ E, InOp X op (liftR X.K cl E r) := fun E pins s σ H x y v u Q I r1 r2 q => hop E pins s σ H x y v u Q I r1 r2 q
  refine ⟨fun pins s σ H M I ⟨as, st, τ, w, e, p⟩ => (ps_fldaug (tpos := pos') (pos := pos) ho hv (hop' (WE W σ))).run pins s σ H M I ⟨as, st, τ, w, e, (Post.stm e p).mono fun d st1 as1 H1 e1 w1 p1 x rx => ?_⟩⟩
  obtain ⟨a, n, c, fs, dx, fx, d', v', rfl, hn, hc, rfl, ha, hH, rs, h1, h2, h3⟩ := fldV_ok w1 rx (Post.stm (W := W) (e.evo e1) p1)
  refine ⟨a, cl c, dx, fx, v', rfl, hH, (hf c hc).1, (hf c hc).2, h1, ?_⟩
  rw [h3] at p1
  replace p1 : Post X.K cl E00 as1 H1 ((tv τ st1).stm τ fun y st => (r d' y st).stm τ fun z st => setF f [k] (.ref n) z τ st) _ := p1
  refine ⟨as1, st1, τ, w1, e.evo e1, (Post.stm (e.evo e1) p1).mono fun d2 st2 as2 H2 e2 w2 p2 y ry => ?_⟩
  refine ⟨as2, st2, d', d2, w2, h2.evo e2, ry, (Post.stm ((e.evo e1).evo e2) p2).mono fun d3 st3 as3 H3 e3 w3 p3 z rz => ?_⟩
  unfold setF at p3
  dsimp only at p3
  split at p3
  · rename_i c' fs' hn'
    split at p3
    · rename_i hc'
      have ha3 := (e2.trans e3).get ha
      obtain ⟨dx', fx', hH', rs'⟩ := w3.ins ha3 hn'
      have hcc : cl c' = cl c := by rw [List.mem_singleton.mp hc'.1, List.mem_singleton.mp hc]
      refine ⟨dx', fx', by rw [hH', hcc], by rw [← rs'.len]; exact hc'.2, ?_⟩
      rw [← hcc]
      exact p3.ok (Evo.wr w3 ha3) (w3.wr ha3 (.ins (putFD_ok rz rs'))) σ ((((e.evo e1).evo e2).evo e3).evo (Evo.wr w3 ha3))
    · exact p3.elim
  · exact p3.elim
end

section
variable {X : Cx} {CX : CXT} {k : Nat} {f : Addr} {fd : FuncData} {ps : List Str} {sp : Sp} {dvs : List V} {ds : List Value} {E : L2.St → XK} {x : Str} {p pos : Pos} {e : Expr} {es : List Expr} {t : TA}
theorem run_fnQ {pins : List (Addr × Obj)} {σ : L2.St} {H : Hp} {s : Shared} {Q : VK} {us : List Value} {vs : List V} (F : FnQ X.prog X.w X.K X.mg X.base CX k f fd ps sp) (hr : Rm k X.A) (hb : Binds X.K fd ps ds) (hd : Vals dvs ds) (hx : PassesAt CX X σ (E σ))
    (I : Inv X pins σ H s) (r : Vals vs us) (h : sp (vs ++ dvs) H Q (E σ)) : wpAny (model X.prog X.w) X.A (call (.ref f) us) (EP X pins σ Q) X.xe s := by
  have r2 : Vals (vs ++ dvs) (us ++ ds) := r.append hd
  have hl : (us ++ ds).length = ps.length := by rw [← r2.length]; exact F.len _ _ _ _ h
  refine wpAny_call (codeAny_mono (F.run X.A X.stack s H ⟨us, []⟩ (us ++ ds) (vs ++ dvs) Q (E σ) hr I.env0 (hb s us I.kIn hl) r2 h) fun r s' hq => ?_)
  cases r with
  | error e => exact hx pins H s e s' I hq
  | ok fl =>
    cases fl with
    | ret u => exact I.after hq
    | next => exact False.elim hq
    | brk => exact False.elim hq
    | cont => exact False.elim hq
theorem pe_callQ (F : FnQ X.prog X.w X.K X.mg X.base CX k f fd ps sp) (hr : Rm k X.A) (hg : Gl X x) (hm : X.mg x = some (.ref f)) (hk : PySem.W.keepIn X.K (.ref f) = true) (hb : Binds X.K fd ps ds) (hd : Vals dvs ds) (hx : ∀ σ, PassesAt CX X σ (E σ))
    (ha : PA X (e :: es) t) (hdb : (x == ("__debug__" : Str)) = false := by decide) (he : starEach (e :: es) X.env = (false, eval e X.env) :: starEach es X.env := by rfl) (hpl : (backTo pos (starEach es X.env)).any (·.1) = false := by rfl) :
    PE X (.Call (.Name x p) (e :: es) [] pos) (tCallSD sp dvs E t) := by
  refine ⟨fun pins s σ H Q I h => ?_⟩
  refine wpAny_Call_Name_kw (ld_glob I hg hm ?_ hdb)
  refine PySem.W.callWith_K (h₀ := X.base) I.ok.mod.kin hk (thn (ha.run pos pins s σ H _ I h) fun us s1 ⟨vs, H1, I1, r, q⟩ => ⟨I1.kIn, ?_⟩) he hpl
  exact run_fnQ F hr hb hd (hx σ) I1 r q
end
/-! ### calls of defs -/
/-- what the rules ask of a context -/
structure CxOk (X : Cx) (W : WX) : Prop where
  calm : X.calm = true
  pass : ∀ σ, PassesAt (L2.CX X.prog X.w) X σ (WE W σ)
  own : PassesOwn (model X.prog X.w) X.A X.env X.xe
section
variable {X : Cx} {cl : Cl} {W : WX} {x m : Str} {p pos apos : Pos} {e o : Expr} {es : List Expr} {t : DA} {F : DF} {k : Nat} {f : Addr} {fd : FuncData} {ps : List Str} {dvs : List V} {dfs : List Value} {dds : List D} {to : DE}
theorem lift_call {σ : L2.St} {H : Hp} {Q : VK} (hd : ∀ as H, Reps X.K as H dds dvs) (h : lift X.K cl W (dApp (fun ds st => F (ds ++ dds) st) t) σ H Q) : tCallSD (spD X.K cl F) dvs (WE W) (liftA X.K cl W t) σ H Q := by
  obtain ⟨as, st, τ, w, e, p⟩ := h
  exact ⟨as, st, τ, w, e, p.bind.mono fun ds st1 as1 H1 e1 w1 p1 xs rx => ⟨as1, st1, ds ++ dds, w1, rx.append (hd _ _), p1⟩⟩
/-- f(e, ..), with defaults -/
theorem j_callD (hx : ∀ σ, PassesAt (L2.CX X.prog X.w) X σ (WE W σ)) (G : FnD X.prog X.w X.K X.mg X.base cl k f fd ps F) (hr : Rm k X.A) (hg : Gl X x) (hm : X.mg x = some (.ref f)) (hk : PySem.W.keepIn X.K (.ref f) = true) (hb : Binds X.K fd ps dfs) (hv : Vals dvs dfs)
    (hd : ∀ as H, Reps X.K as H dds dvs) (ha : JA X cl W (e :: es) t) (hdb : (x == ("__debug__" : Str)) = false := by decide) (he : starEach (e :: es) X.env = (false, eval e X.env) :: starEach es X.env := by rfl) (hpl : (backTo pos (starEach es X.env)).any (·.1) = false := by rfl) :
    JE X cl W (.Call (.Name x p) (e :: es) [] pos) (dApp (fun ds st => F (ds ++ dds) st) t) :=
  PE.mono (pe_callQ G hr hg hm hk hb hv hx ha hdb he hpl) fun _ _ _ h => lift_call hd h
theorem j_call (hx : ∀ σ, PassesAt (L2.CX X.prog X.w) X σ (WE W σ)) (G : FnD X.prog X.w X.K X.mg X.base cl k f fd ps F) (hr : Rm k X.A) (hg : Gl X x) (hm : X.mg x = some (.ref f)) (hk : PySem.W.keepIn X.K (.ref f) = true) (hb : Binds X.K fd ps [])
    (ha : JA X cl W (e :: es) t) (hdb : (x == ("__debug__" : Str)) = false := by decide) (he : starEach (e :: es) X.env = (false, eval e X.env) :: starEach es X.env := by rfl) (hpl : (backTo pos (starEach es X.env)).any (·.1) = false := by rfl) :
    JE X cl W (.Call (.Name x p) (e :: es) [] pos) (dApp F t) :=
  PE.mono (j_callD (dds := []) (dvs := []) hx G hr hg hm hk hb .nil (fun _ _ => .nil) ha hdb he hpl) fun σ H Q h => by
    simp only [List.append_nil]
    exact h
theorem pe_callS0 (G : FnD X.prog X.w X.K X.mg X.base cl k f fd ps F) (hx : ∀ σ, PassesAt (L2.CX X.prog X.w) X σ (WE W σ)) (hr : Rm k X.A) (hg : Gl X x) (hm : X.mg x = some (.ref f)) (hk : PySem.W.keepIn X.K (.ref f) = true) (hb : Binds X.K fd ps [])
    (hdb : (x == ("__debug__" : Str)) = false := by decide) : PE X (.Call (.Name x p) [] [] pos) (fun σ H Q => spD X.K cl F [] H Q (WE W σ)) := by
  refine ⟨fun pins s σ H Q I h => ?_⟩
  refine wpAny_Call_Name_kw (ld_glob I hg hm ?_ hdb)
  exact PySem.W.callWith_K0 I.kIn hk (run_fnQ (us := []) (vs := []) (dvs := []) (ds := []) (E := WE W) G hr hb .nil (hx σ) I .nil h)
theorem j_call0 (hx : ∀ σ, PassesAt (L2.CX X.prog X.w) X σ (WE W σ)) (G : FnD X.prog X.w X.K X.mg X.base cl k f fd ps F) (hr : Rm k X.A) (hg : Gl X x) (hm : X.mg x = some (.ref f)) (hk : PySem.W.keepIn X.K (.ref f) = true) (hb : Binds X.K fd ps [])
    (hdb : (x == ("__debug__" : Str)) = false := by decide) : JE X cl W (.Call (.Name x p) [] [] pos) (dApp F dNil) :=
  PE.mono (pe_callS0 G hx hr hg hm hk hb hdb) fun σ H Q ⟨as, st, τ, w, e, p⟩ => ⟨as, st, [], w, .nil, p⟩
/-- o.m(e, ..) -/
def dMeth (c m : Str) (F : DF) (to : DE) (t : DA) : DE := fun τ st => (to τ st).bind fun d st => match d with
  | .ref n => match st[n]? with
    | some (.ins c' fs) => if c' = c ∧ valD fs m = none then (t τ st).bind fun ds st => F (d :: ds) st else .bad
    | _ => .bad
  | _ => .bad
theorem pe_methS {pl : Sem Bool} {ta : TE} {tt : TA} {C : Addr} {sp : Sp} {E : L2.St → XK} (he : PE X o ta) (c : Cls X.K C) (hm : Meth X.K C m f) (G : FnQ X.prog X.w X.K X.mg X.base (L2.CX X.prog X.w) k f fd ps sp) (hr : Rm k X.A) (hb : Binds X.K fd ps dfs) (hd : Vals dvs dfs)
    (hx : ∀ σ, PassesAt (L2.CX X.prog X.w) X σ (E σ)) (ha : PA X (e :: es) tt)
    (hst : starEach (e :: es) X.env = (false, eval e X.env) :: starEach es X.env := by rfl) (hpl : (backTo pos (starEach es X.env)).any (·.1) = false := by rfl)
    (ht : eval (.Call (.Attribute o m apos) (e :: es) [] pos) X.env = (do
      let ov ← eval o X.env
      standAt apos.atName
      let (f, first) ← holding [ov] (getMethod ov m pl)
      callWith pos f first (backTo pos (starEach (e :: es) X.env)) (backToKw pos (keywordEach [] X.env))) := by rfl) :
    PE X (.Call (.Attribute o m apos) (e :: es) [] pos) (fun σ H Q => tMeth C m sp dvs (E σ) ta tt σ H Q) := by
  refine ⟨fun pins s σ H Q I h => ?_⟩
  refine PySem.W.methodCall_KW (pl := pl) (thn (he.run pins s σ H _ I h) fun u s1 ⟨x, H1, I1, rx, a, dx, fs, ex, ea, l, q⟩ => ?_) ht
  subst ex
  obtain rfl : u = Value.ref a := rx
  refine getmeth_ok I1 ea c hm l ?_
  refine PySem.W.callWith_K (first := [.ref a]) (h₀ := X.base) I.ok.mod.kin hm.kp (thn (ha.run pos pins s1 σ H1 _ I1 q) fun us s2 ⟨vs, H2, I2, r, q2⟩ => ⟨I2.kIn, ?_⟩) hst hpl
  exact run_fnQ (us := .ref a :: us) (vs := .ref a :: vs) G hr hb hd (hx σ) I2 (.cons rfl r) q2
theorem pe_methS0 {pl : Sem Bool} {ta : TE} {C : Addr} {sp : Sp} {E : L2.St → XK} (he : PE X o ta) (c : Cls X.K C) (hm : Meth X.K C m f) (G : FnQ X.prog X.w X.K X.mg X.base (L2.CX X.prog X.w) k f fd ps sp) (hr : Rm k X.A) (hb : Binds X.K fd ps dfs) (hd : Vals dvs dfs)
    (hx : ∀ σ, PassesAt (L2.CX X.prog X.w) X σ (E σ))
    (ht : eval (.Call (.Attribute o m apos) [] [] pos) X.env = (do
      let ov ← eval o X.env
      standAt apos.atName
      let (f, first) ← holding [ov] (getMethod ov m pl)
      callWith pos f first (backTo pos (starEach [] X.env)) (backToKw pos (keywordEach [] X.env))) := by rfl) :
    PE X (.Call (.Attribute o m apos) [] [] pos) (fun σ H Q => tMeth C m sp dvs (E σ) ta tNil σ H Q) := by
  refine ⟨fun pins s σ H Q I h => ?_⟩
  refine PySem.W.methodCall_KW (pl := pl) (thn (he.run pins s σ H _ I h) fun u s1 ⟨x, H1, I1, rx, a, dx, fs, ex, ea, l, q⟩ => ?_) ht
  subst ex
  obtain rfl : u = Value.ref a := rx
  refine getmeth_ok I1 ea c hm l ?_
  exact PySem.W.callWith_K0 (first := [.ref a]) I1.kIn hm.kp (run_fnQ (us := [.ref a]) (vs := [.ref a]) G hr hb hd (hx σ) I1 (.cons rfl .nil) q)
theorem lift_meth {c : Str} {σ : L2.St} {H : Hp} {Q : VK} (h : lift X.K cl W (dMeth c m (fun ds st => F (ds ++ dds) st) to t) σ H Q) (hd : ∀ as H, Reps X.K as H dds dvs) : tMeth (cl c) m (spD X.K cl F) dvs (WE W σ) (lift X.K cl W to) (liftA X.K cl W t) σ H Q := by
  obtain ⟨as, st, τ, w, e, p⟩ := h
  refine ⟨as, st, τ, w, e, p.bind.mono fun d st1 as1 H1 e1 w1 p1 v rv => ?_⟩
  split at p1
  · rename_i n
    obtain ⟨a, rfl, ha⟩ := rv.refAt
    split at p1
    · rename_i c' fs hn
      split at p1
      · rename_i hc
        obtain ⟨rfl, hc⟩ := hc
        obtain ⟨dx, fx, hH, rs⟩ := w1.ins ha hn
        refine ⟨a, dx, fx, rfl, hH, lookup_none rs hc, as1, st1, τ, w1, e.evo e1, p1.bind.mono fun ds st2 as2 H2 e2 w2 p2 xs rxs => ⟨as2, st2, _, w2, .cons (rv.evo e2) (rxs.append (hd _ _)), p2⟩⟩
      · exact p1.elim
    · exact p1.elim
  · exact p1.elim
theorem j_methD {c : Str} {pl : Sem Bool} (hx : ∀ σ, PassesAt (L2.CX X.prog X.w) X σ (WE W σ)) (hc : Cls X.K (cl c)) (hm : Meth X.K (cl c) m f) (G : FnD X.prog X.w X.K X.mg X.base cl k f fd ps F) (hr : Rm k X.A) (hb : Binds X.K fd ps dfs) (hv : Vals dvs dfs) (hd : ∀ as H, Reps X.K as H dds dvs)
    (ho : JE X cl W o to) (ha : JA X cl W (e :: es) t)
    (hst : starEach (e :: es) X.env = (false, eval e X.env) :: starEach es X.env := by rfl) (hpl : (backTo pos (starEach es X.env)).any (·.1) = false := by rfl)
    (ht : eval (.Call (.Attribute o m apos) (e :: es) [] pos) X.env = (do
      let ov ← eval o X.env
      standAt apos.atName
      let (f, first) ← holding [ov] (getMethod ov m pl)
      callWith pos f first (backTo pos (starEach (e :: es) X.env)) (backToKw pos (keywordEach [] X.env))) := by rfl) :
    JE X cl W (.Call (.Attribute o m apos) (e :: es) [] pos) (dMeth c m (fun ds st => F (ds ++ dds) st) to t) :=
  PE.mono (pe_methS ho hc hm G hr hb hv hx ha hst hpl ht) fun _ _ _ h => lift_meth h hd
theorem j_meth {c : Str} {pl : Sem Bool} (hx : ∀ σ, PassesAt (L2.CX X.prog X.w) X σ (WE W σ)) (hc : Cls X.K (cl c)) (hm : Meth X.K (cl c) m f) (G : FnD X.prog X.w X.K X.mg X.base cl k f fd ps F) (hr : Rm k X.A) (hb : Binds X.K fd ps [])
    (ho : JE X cl W o to) (ha : JA X cl W (e :: es) t)
    (hst : starEach (e :: es) X.env = (false, eval e X.env) :: starEach es X.env := by rfl) (hpl : (backTo pos (starEach es X.env)).any (·.1) = false := by rfl)
    (ht : eval (.Call (.Attribute o m apos) (e :: es) [] pos) X.env = (do
      let ov ← eval o X.env
      standAt apos.atName
      let (f, first) ← holding [ov] (getMethod ov m pl)
      callWith pos f first (backTo pos (starEach (e :: es) X.env)) (backToKw pos (keywordEach [] X.env))) := by rfl) :
    JE X cl W (.Call (.Attribute o m apos) (e :: es) [] pos) (dMeth c m F to t) :=
  PE.mono (j_methD (dds := []) (dvs := []) hx hc hm G hr hb .nil (fun _ _ => .nil) ho ha hst hpl ht) fun σ H Q h => by
    simp only [List.append_nil]
    exact h
theorem j_methD0 {c : Str} {pl : Sem Bool} (hx : ∀ σ, PassesAt (L2.CX X.prog X.w) X σ (WE W σ)) (hc : Cls X.K (cl c)) (hm : Meth X.K (cl c) m f) (G : FnD X.prog X.w X.K X.mg X.base cl k f fd ps F) (hr : Rm k X.A) (hb : Binds X.K fd ps dfs) (hv : Vals dvs dfs) (hd : ∀ as H, Reps X.K as H dds dvs)
    (ho : JE X cl W o to)
    (ht : eval (.Call (.Attribute o m apos) [] [] pos) X.env = (do
      let ov ← eval o X.env
      standAt apos.atName
      let (f, first) ← holding [ov] (getMethod ov m pl)
      callWith pos f first (backTo pos (starEach [] X.env)) (backToKw pos (keywordEach [] X.env))) := by rfl) :
    JE X cl W (.Call (.Attribute o m apos) [] [] pos) (dMeth c m (fun ds st => F (ds ++ dds) st) to dNil) :=
  PE.mono (pe_methS0 ho hc hm G hr hb hv hx ht) fun σ H Q h => by
    have h := lift_meth (t := dNil) h hd
    refine (show tMeth (cl c) m (spD X.K cl F) dvs (WE W σ) (lift X.K cl W to) tNil σ H Q from ?_)
    obtain ⟨as, st, τ, w, e, p⟩ := h
    refine ⟨as, st, τ, w, e, p.mono fun d st1 as1 H1 e1 w1 p1 v rv => ?_⟩
    obtain ⟨a, dx, fs, h1, h2, h3, as2, st2, τ2, w2, e2, p2⟩ := p1 v rv
    exact ⟨a, dx, fs, h1, h2, h3, p2.here w2 [] .nil⟩
theorem j_meth0 {c : Str} {pl : Sem Bool} (hx : ∀ σ, PassesAt (L2.CX X.prog X.w) X σ (WE W σ)) (hc : Cls X.K (cl c)) (hm : Meth X.K (cl c) m f) (G : FnD X.prog X.w X.K X.mg X.base cl k f fd ps F) (hr : Rm k X.A) (hb : Binds X.K fd ps [])
    (ho : JE X cl W o to)
    (ht : eval (.Call (.Attribute o m apos) [] [] pos) X.env = (do
      let ov ← eval o X.env
      standAt apos.atName
      let (f, first) ← holding [ov] (getMethod ov m pl)
      callWith pos f first (backTo pos (starEach [] X.env)) (backToKw pos (keywordEach [] X.env))) := by rfl) :
    JE X cl W (.Call (.Attribute o m apos) [] [] pos) (dMeth c m F to dNil) :=
  PE.mono (j_methD0 (dds := []) (dvs := []) hx hc hm G hr hb .nil (fun _ _ => .nil) ho ht) fun σ H Q h => by
    simp only [List.append_nil]
    exact h
/-- C(..) -/
def dMake (c : Str) (F : DF) (t : DA) : DE := fun τ st => (t τ st).bind fun ds st => (F (.ref st.length :: ds) (st ++ [.ins c []])).bind fun r st' => match r with
  | .non => .ok (.ref st.length) st'
  | _ => .bad
theorem Evo.push2 {K : PySem.W.Frag} {as : Mp} {st : Sto} {H : Hp} (w : Wd K cl as st H) {x dx : Addr} {c : Str} (hx : H x = none) (hd : H dx = none) (hne : dx ≠ x) :
    Evo as H (as.push x) (upd (upd H dx (.own x)) x (.ins (cl c) dx [])) ∧ Wd K cl (as.push x) (st ++ [.ins c []]) (upd (upd H dx (.own x)) x (.ins (cl c) dx [])) := by
  have w1 := w.new (o := .own x) hd
  have hx1 : upd H dx (.own x) x = none := by rw [upd_ne (Ne.symm hne)]; exact hx
  exact ⟨(Evo.new w hd).trans (Evo.push w1 hx1), w1.push hx1 (.ins .nil)⟩
theorem run_makeS {C : Addr} {sp : Sp} {E : L2.St → XK} {pins : List (Addr × Obj)} {σ : L2.St} {H : Hp} {s : Shared} {Q : VK} {us : List Value} {vs : List V} (M : Mk X.K C f) (G : FnQ X.prog X.w X.K X.mg X.base (L2.CX X.prog X.w) k f fd ps sp) (hr : Rm (k + 1) X.A) (hb : Binds X.K fd ps dfs) (hd : Vals dvs dfs)
    (hx : PassesAt (L2.CX X.prog X.w) X σ (E σ)) (I : Inv X pins σ H s) (r : Vals vs us)
    (h : ∀ x dx, H x = none → H dx = none → dx ≠ x → sp (.ref x :: (vs ++ dvs)) (upd (upd H dx (.own x)) x (.ins C dx [])) (fun v H2 => v = .non ∧ Q (.ref x) H2) (E σ)) :
    wpAny (model X.prog X.w) X.A (call (.ref C) us) (EP X pins σ Q) X.xe s := by
  have hq := h (s.heap.objs.size + 1) s.heap.objs.size (I.hok.fresh (Nat.le_succ _)) (I.hok.fresh (Nat.le_refl _)) (Nat.ne_of_lt (Nat.lt_succ_self _))
  have I2 := Inv.made (C := C) I
  have r2 : Vals (V.ref (s.heap.objs.size + 1) :: (vs ++ dvs)) (Value.ref (s.heap.objs.size + 1) :: (us ++ dfs)) := .cons rfl (r.append hd)
  have hl : (Value.ref (s.heap.objs.size + 1) :: us ++ dfs).length = ps.length := by
    have e := r2.length
    rw [G.len _ _ _ _ hq] at e
    exact e.symm
  refine wpAny_call (make_map (f := f) I.kIn M.makes M.init (beq_iff_eq.mp M.fn) (codeAny_mono (G.run _ X.stack _ _ ⟨Value.ref (s.heap.objs.size + 1) :: us, []⟩ (Value.ref (s.heap.objs.size + 1) :: (us ++ dfs)) _ _ (E σ) (hr.make C us [])
    (I2.env0.make C us []) (hb _ (Value.ref (s.heap.objs.size + 1) :: us) I2.kIn hl) r2 hq) fun r s' hq' => ?_))
  cases r with
  | error e => exact hx pins _ _ e s' I2 hq'
  | ok fl =>
    cases fl with
    | ret u =>
      obtain ⟨v, H', I3, rv, ev, q3⟩ := I2.after hq'
      subst ev
      exact ⟨rv, ⟨V.ref (s.heap.objs.size + 1), H', I3, rfl, q3⟩⟩
    | next => exact False.elim hq'
    | brk => exact False.elim hq'
    | cont => exact False.elim hq'
theorem make_lift {c : Str} {E : XK} {as : Mp} {st : Sto} {H : Hp} {ds : List D} {vs : List V} {Q : VK} (w : Wd X.K cl as st H) (rs : Reps X.K as H ds vs)
    (p : Post X.K cl E as H ((F (.ref st.length :: ds) (st ++ [.ins c []])).bind fun r st' => match r with | .non => .ok (.ref st.length) st' | _ => .bad) (QV X.K Q)) :
    ∀ x dx, H x = none → H dx = none → dx ≠ x → spD X.K cl F (.ref x :: (vs ++ [])) (upd (upd H dx (.own x)) x (.ins (cl c) dx [])) (fun v H2 => v = .non ∧ Q (.ref x) H2) E := by
  intro x dx hx hd hne
  obtain ⟨e1, w1⟩ := Evo.push2 (c := c) w hx hd hne
  rw [List.append_nil]
  refine ⟨_, _, .ref st.length :: ds, w1, .cons (Rep.newRef w) (rs.evo e1), (Post.evo e1 p).bind.mono fun d st2 as2 H2 e2 w2 p2 v rv => ?_⟩
  cases d with
  | non => cases rv; exact ⟨rfl, p2.here w2 _ ((Rep.newRef w).evo e2)⟩
  | _ => exact p2.elim
theorem j_make {c : Str} (hx : ∀ σ, PassesAt (L2.CX X.prog X.w) X σ (WE W σ)) (M : Mk X.K (cl c) f) (G : FnD X.prog X.w X.K X.mg X.base cl k f fd ps F) (hr : Rm (k + 1) X.A) (hg : Gl X x) (hm : X.mg x = some (.ref (cl c))) (hb : Binds X.K fd ps [])
    (ha : JA X cl W (e :: es) t) (hdb : (x == ("__debug__" : Str)) = false := by decide) (he : starEach (e :: es) X.env = (false, eval e X.env) :: starEach es X.env := by rfl) (hpl : (backTo pos (starEach es X.env)).any (·.1) = false := by rfl) :
    JE X cl W (.Call (.Name x p) (e :: es) [] pos) (dMake c F t) := by
  refine ⟨fun pins s σ H Q I ⟨as, st, τ, w, e, p⟩ => ?_⟩
  refine wpAny_Call_Name_kw (ld_glob I hg hm ?_ hdb)
  have hA := ha.run pos pins s σ H (fun xs H1 => ∀ x dx, H1 x = none → H1 dx = none → dx ≠ x → spD X.K cl F (.ref x :: (xs ++ [])) (upd (upd H1 dx (.own x)) x (.ins (cl c) dx [])) (fun v H2 => v = .non ∧ Q (.ref x) H2) (WE W σ)) I
    ⟨as, st, τ, w, e, p.bind.mono fun ds st1 as1 H1 e1 w1 p1 xs rx => make_lift w1 rx p1⟩
  refine PySem.W.callWith_K (h₀ := X.base) I.ok.mod.kin M.kp (thn hA fun us s1 ⟨vs, H1, I1, r, q⟩ => ⟨I1.kIn, ?_⟩) he hpl
  exact run_makeS (E := WE W) M G hr hb .nil (hx σ) I1 r q
theorem j_make0 {c : Str} (hx : ∀ σ, PassesAt (L2.CX X.prog X.w) X σ (WE W σ)) (M : Mk X.K (cl c) f) (G : FnD X.prog X.w X.K X.mg X.base cl k f fd ps F) (hr : Rm (k + 1) X.A) (hg : Gl X x) (hm : X.mg x = some (.ref (cl c))) (hb : Binds X.K fd ps [])
    (hdb : (x == ("__debug__" : Str)) = false := by decide) : JE X cl W (.Call (.Name x p) [] [] pos) (dMake c F dNil) := by
  refine ⟨fun pins s σ H Q I ⟨as, st, τ, w, e, p⟩ => ?_⟩
  refine wpAny_Call_Name_kw (ld_glob I hg hm ?_ hdb)
  exact PySem.W.callWith_K0 I.kIn M.kp (run_makeS (us := []) (vs := []) (E := WE W) M G hr hb .nil (hx σ) I .nil (make_lift w .nil p))
end
end DL

/-! DL6: loops, comprehensions, methods of lists. -/
namespace DL
open PySem PySem.Spec PyProof.Rows L2

/-! ### what is walked -/
abbrev DI := En → Sto → R (List D)
structure Walk (K : PySem.W.Frag) (cl : Cl) (as : Mp) (H : Hp) (J : It) (ds : List D) : Prop where
  go : ∀ i as' H', Mv as H as' H' → i < ds.length → J.go i H'
  yld : ∀ i as' st' H' x H'', i < ds.length → Mv as H as' H' → Wd K cl as' st' H' → J.yld i H' x H'' → ∃ d, ds[i]? = some d ∧ (H'' = H' ∨ ∃ p o, H' p = none ∧ H'' = upd H' p o) ∧ Rep K as' H'' d x
  stop : ∀ i as' H', Mv as H as' H' → ds.length ≤ i → J.stop i H'
theorem Walk.evo {K : PySem.W.Frag} {cl : Cl} {as' : Mp} {st' : Sto} {H' H'' : Hp} (h : H'' = H' ∨ ∃ p o, H' p = none ∧ H'' = upd H' p o) (w : Wd K cl as' st' H') : Evo as' H' as' H'' ∧ Wd K cl as' st' H'' := by
  rcases h with h | ⟨p, o, h1, h2⟩
  · subst h; exact ⟨.refl, w⟩
  · subst h2; exact ⟨Evo.new w h1, w.new h1⟩
def liftI (K : PySem.W.Frag) (cl : Cl) (W : WX) (t : DI) : TI := fun σ H Q => ∃ as st τ, Wd K cl as st H ∧ RepE K as H τ σ ∧ Post K cl (WE W σ) as H (t τ st) fun ds _ as' H' => ∀ J, Walk K cl as' H' J ds → Q J H'
abbrev JI (X : Cx) (cl : Cl) (W : WX) (tg e : Expr) (t : DI) : Prop := PI X tg e (liftI X.K cl W t)
/-- a tuple's items; a list's (nobody changes it meanwhile) -/
def iSeq (t : DE) : DI := fun τ st => (t τ st).bind fun d st => match d with
  | .lst ds => .ok ds st
  | .fro ds => .ok ds st
  | _ => .bad
def iTupD (t : DE) : DI := fun τ st => (t τ st).bind fun d st => match d with
  | .tup ds => .ok ds st
  | _ => .bad
def iStrD (t : DE) : DI := fun τ st => (t τ st).bind fun d st => match d with
  | .str x => .ok (x.cps.toList.map fun c => .str ⟨#[c]⟩) st
  | _ => .bad
def rng (lo hi : Int) : List D := (List.range (hi - lo).toNat).map fun (k : Nat) => D.int (lo + (k : Int))
def iRng1D (t : DA) : DI := fun τ st => (t τ st).bind fun ds st => match ds with
  | [.int n] => if -(2 ^ 62) ≤ n ∧ n < 2 ^ 62 then .ok (rng 0 n) st else .bad
  | _ => .bad
def iRng2D (t : DA) : DI := fun τ st => (t τ st).bind fun ds st => match ds with
  | [.int a, .int n] => if (-(2 ^ 62) ≤ a ∧ a < 2 ^ 62) ∧ (-(2 ^ 62) ≤ n ∧ n < 2 ^ 62) then .ok (rng a n) st else .bad
  | _ => .bad
section
variable {X : Cx} {cl : Cl} {W : WX} {tg e : Expr} {es : List Expr} {te : DE} {t : DA} {p pos : Pos}
theorem walk_list {K : PySem.W.Frag} {as : Mp} {H : Hp} {a : Addr} {xs : List V} {ds : List D} (hq : ∀ as' H', Mv as H as' H' → SqL K H' a xs) (hr : Reps K as H ds xs) : Walk K cl as H (Itl K a) ds where
  go := fun i as' H' e hi => by
    obtain ⟨v, h1, _⟩ := hr.get (List.getElem?_eq_getElem hi)
    exact ⟨xs, v, hq _ _ e, h1⟩
  yld := fun i as' st' H' x H'' hi e w ⟨h1, h2⟩ => by
    subst h1
    have h3 := h2 xs (hq _ _ e)
    obtain ⟨v, h4, h5⟩ := hr.get (List.getElem?_eq_getElem hi)
    rw [h3] at h4; cases h4
    exact ⟨_, List.getElem?_eq_getElem hi, .inl rfl, h5.mv e⟩
  stop := fun i as' H' e hi => ⟨xs, hq _ _ e, by rw [← hr.len]; exact hi⟩
theorem walk_tup {K : PySem.W.Frag} {as : Mp} {H : Hp} {a : Addr} {xs : List V} {ds : List D} (hq : ∀ as' H', Mv as H as' H' → SqT K H' a xs) (hr : Reps K as H ds xs) : Walk K cl as H (Itt K a) ds where
  go := fun i as' H' e hi => by
    obtain ⟨v, h1, _⟩ := hr.get (List.getElem?_eq_getElem hi)
    exact ⟨xs, v, hq _ _ e, h1⟩
  yld := fun i as' st' H' x H'' hi e w ⟨h1, h2⟩ => by
    subst h1
    have h3 := h2 xs (hq _ _ e)
    obtain ⟨v, h4, h5⟩ := hr.get (List.getElem?_eq_getElem hi)
    rw [h3] at h4; cases h4
    exact ⟨_, List.getElem?_eq_getElem hi, .inl rfl, h5.mv e⟩
  stop := fun i as' H' e hi => ⟨xs, hq _ _ e, by rw [← hr.len]; exact hi⟩
theorem StF.mvl {K : PySem.W.Frag} {as as' : Mp} {H H' : Hp} (e : Mv as H as' H') {a : Addr} {xs : List V} (h : StF K as H a xs) : SqL K H' a xs := (h.mv e).l
theorem ji_seq (he : JE X cl W e te) : JI X cl W tg e (iSeq te) := by
  refine PI.mono (pi_list he) fun σ H Q ⟨as, st, τ, w, e, p⟩ => ⟨as, st, τ, w, e, p.bind.mono fun d st1 as1 H1 e1 w1 p1 v rv => ?_⟩
  split at p1
  · cases rv with
    | lst n h r => exact ⟨_, rfl, ⟨_, .of h⟩, p1.here w1 _ (walk_list (fun as' H' f => .of (f.k _ _ h n).2) r)⟩
  · cases rv with
    | fro s r => exact ⟨_, rfl, ⟨_, s.l⟩, p1.here w1 _ (walk_list (fun as' H' f => s.mvl f) r)⟩
  · exact p1.elim
theorem ji_tup (he : JE X cl W e te) : JI X cl W tg e (iTupD te) := by
  refine PI.mono (pi_tup he) fun σ H Q ⟨as, st, τ, w, e, p⟩ => ⟨as, st, τ, w, e, p.bind.mono fun d st1 as1 H1 e1 w1 p1 v rv => ?_⟩
  split at p1
  · cases rv with
    | tup s r => exact ⟨_, rfl, ⟨_, s.t⟩, p1.here w1 _ (walk_tup (fun as' H' f => (s.mv f).t) r)⟩
  · exact p1.elim
theorem ji_str (he : JE X cl W e te) : JI X cl W tg e (iStrD te) := by
  refine PI.mono (pi_str he) fun σ H Q ⟨as, st, τ, w, e, p⟩ => ⟨as, st, τ, w, e, p.bind.mono fun d st1 as1 H1 e1 w1 p1 v rv => ?_⟩
  split at p1
  · rename_i x
    cases rv
    refine ⟨x, rfl, p1.here w1 _ ⟨fun i as' H' _ hi => ?_, fun i as' st' H' v H'' _ _ w' ⟨h1, c, h2, h3⟩ => ?_, fun i as' H' _ hi => ?_⟩⟩
    · show i < x.cps.size
      simpa using hi
    · subst h1; subst h3
      exact ⟨_, by rw [List.getElem?_map, Array.getElem?_toList, h2]; rfl, .inl rfl, .str _⟩
    · show x.cps.size ≤ i
      simpa using hi
  · exact p1.elim
theorem rng_get {lo hi : Int} {i : Nat} (h : i < (hi - lo).toNat) : (rng lo hi)[i]? = some (.int (lo + (i : Int))) := by
  unfold rng
  rw [List.getElem?_map, List.getElem?_range h]
  rfl
theorem rng_len {lo hi : Int} : (rng lo hi).length = (hi - lo).toNat := by unfold rng; simp
theorem walk_rng {K : PySem.W.Frag} {as : Mp} {H : Hp} {lo hi : Int} : Walk K cl as H (Itr lo (hi - lo).toNat) (rng lo hi) where
  go := fun i as' H' e h => by rw [rng_len] at h; exact h
  yld := fun i as' st' H' x H'' hi e w ⟨h1, h2⟩ => by
    subst h1; subst h2
    rw [rng_len] at hi
    exact ⟨_, rng_get hi, .inl rfl, .int _⟩
  stop := fun i as' H' e h => by rw [rng_len] at h; exact h
theorem ji_rng1 {a : Expr} (hg : Gl X "range") (hm : X.mg "range" = none) (ha : JA X cl W [a] t) (hs : starEach [a] X.env = [(false, eval a X.env)] := by rfl) : JI X cl W tg (.Call (.Name "range" p) [a] [] pos) (iRng1D t) := by
  refine PI.mono (pi_range1 hg hm ha hs) fun σ H Q ⟨as, st, τ, w, e, p⟩ => ⟨as, st, τ, w, e, p.bind.mono fun ds st1 as1 H1 e1 w1 p1 vs rv => ?_⟩
  split at p1
  · obtain ⟨v, rfl, r⟩ := rv.one
    cases r
    split at p1
    · rename_i n hn
      refine ⟨n, rfl, hn.1, hn.2, p1.here w1 _ ?_⟩
      have q := walk_rng (cl := cl) (K := X.K) (as := as1) (H := H1) (lo := 0) (hi := n)
      rw [Int.sub_zero] at q
      exact q
    · exact p1.elim
  · exact p1.elim
theorem ji_rng2 {a b : Expr} (hg : Gl X "range") (hm : X.mg "range" = none) (ha : JA X cl W [a, b] t) (hs : starEach [a, b] X.env = [(false, eval a X.env), (false, eval b X.env)] := by rfl) (hs2 : starEach [b] X.env = [(false, eval b X.env)] := by rfl) :
    JI X cl W tg (.Call (.Name "range" p) [a, b] [] pos) (iRng2D t) := by
  refine PI.mono (pi_range2 hg hm ha hs hs2) fun σ H Q ⟨as, st, τ, w, e, p⟩ => ⟨as, st, τ, w, e, p.bind.mono fun ds st1 as1 H1 e1 w1 p1 vs rv => ?_⟩
  split at p1
  · obtain ⟨v, u, rfl, r, q⟩ := rv.two
    cases r; cases q
    split at p1
    · rename_i hn
      exact ⟨_, _, rfl, ⟨hn.1.1, hn.1.2, hn.2.1, hn.2.2⟩, p1.here w1 _ walk_rng⟩
    · exact p1.elim
  · exact p1.elim
end

/-! ### for -/
/-- behind a turn -/
@[reducible] def R.turn (r : R (Fl × En)) (k : En → Sto → R (Fl × En)) : R (Fl × En) := r.bind fun r st => match r with
  | (.nx, τ) => k τ st
  | (.ct, τ) => k τ st
  | (.bk, τ) => .ok (.nx, τ) st
  | r => .ok r st
def forL (g : DG) (body : DS) : List D → DS
  | [], τ, st => .ok (.nx, τ) st
  | d :: ds, τ, st => (g d τ st).stm τ fun τ st => (body τ st).turn fun τ st => forL g body ds τ st
def dFor (it : DI) (g : DG) (body : DS) : DS := fun τ st => (it τ st).stm τ fun ds st => forL g body ds τ st
section
variable {X : Cx} {cl : Cl} {W : WX} {tg e c : Expr} {body : List Stmt} {it : DI} {g : DG} {t : DS} {pos : Pos}
theorem turn_ok {as : Mp} {st : Sto} {σ : L2.St} {τ : En} {H : Hp} {M : Ends} {N : L2.St → Hp → Prop} {k : En → Sto → R (Fl × En)} (w : Wd X.K cl as st H) (e : RepE X.K as H τ σ)
    (p : Post X.K cl E00 as H ((t τ st).turn k) fun r _ as' H' => FlOk X.K cl W M as' H' r.2 r.1)
    (hN : ∀ as' H' τ' st' σ', Evo as H as' H' → Wd X.K cl as' st' H' → RepE X.K as' H' τ' σ' → (Post X.K cl E00 as' H' (k τ' st') fun r _ as' H' => FlOk X.K cl W M as' H' r.2 r.1) → N σ' H') :
    liftS X.K cl W t { M with nx := N, ct := N, bk := M.nx } σ H := by
  refine ⟨as, st, τ, w, e, p.bind.mono fun r st1 as1 H1 e1 w1 p1 => ?_⟩
  obtain ⟨f, τ1⟩ := r
  cases f with
  | nx => exact fun σ1 r1 => hN as1 H1 τ1 st1 σ1 e1 w1 r1 p1
  | ct => exact fun σ1 r1 => hN as1 H1 τ1 st1 σ1 e1 w1 r1 p1
  | bk => exact p1.here w1
  | rt d => exact p1.here w1
  | ex x => exact p1.here w1
theorem js_for (hx : CxOk X W) (hi : JI X cl W tg e it) (hg : JG X cl W tg g) (hb : JSs X cl W body t) (hs : ∀ x, foldedSetIterable e X.env x = pure x := by intro _; rfl) : JS X cl W (.For tg e body [] pos) (dFor it g t) := by
  refine PS.mono (ps_for hx.own hx.calm hi hg hb hs) fun M σ H ⟨as, st, τ, w, e, p⟩ => ⟨as, st, τ, w, e, (Post.stm e p).mono fun ds st1 as1 H1 e1 w1 p1 J Wk => ?_⟩
  refine ⟨fun i m σ' H' => m = ds.length - i ∧ i ≤ ds.length ∧ ∃ as' st' τ', Evo as1 H1 as' H' ∧ Wd X.K cl as' st' H' ∧ RepE X.K as' H' τ' σ' ∧ Post X.K cl E00 as' H' (forL g t (ds.drop i) τ' st') (fun r _ as' H' => FlOk X.K cl W M as' H' r.2 r.1),
    ⟨ds.length, by simp, by simp, as1, st1, τ, .refl, w1, e.evo e1, p1⟩, ?_⟩
  rintro i m σ' H' ⟨rfl, hi, as', st', τ', e2, w2, r2, p2⟩
  by_cases hlt : i < ds.length
  · refine .inr ⟨Wk.go i as' H' e2.mv hlt, _, fun σ'' H'' n => n, fun x H'' y => ?_⟩
    obtain ⟨d, hd, hn, r3⟩ := Wk.yld i as' st' H' x H'' hlt e2.mv w2 y
    obtain ⟨e3, w3⟩ := Walk.evo hn w2
    have hdr : ds.drop i = d :: ds.drop (i + 1) := by
      rw [List.drop_eq_getElem_cons hlt]
      rw [List.getElem?_eq_getElem hlt] at hd
      rw [Option.some.inj hd]
    rw [hdr] at p2
    have p2 : Post X.K cl E00 as' H' ((g d τ' st').stm τ' fun τ st => (t τ st).turn fun τ st => forL g t (ds.drop (i + 1)) τ st) (fun r _ as' H' => FlOk X.K cl W M as' H' r.2 r.1) := p2
    refine ⟨as', st', τ', d, w3, r2.evo e3, r3, (Post.stm (r2.evo e3) (p2.evo e3)).mono fun τ4 st4 as4 H4 e4 w4 p4 σ4 r4 => ?_⟩
    refine turn_ok w4 r4 p4 fun as5 H5 τ5 st5 σ5 e5 w5 r5 p5 => ⟨ds.length - (i + 1), by omega, rfl, hlt, as5, st5, τ5, ((e2.trans e3).trans e4).trans e5, w5, r5, p5⟩
  · refine .inl ⟨Wk.stop i as' H' e2.mv (by omega), ?_⟩
    rw [List.drop_eq_nil_of_le (by omega)] at p2
    exact p2.here w2 σ' r2
/-! ### while -/
def whileN (c : DT) (body : DS) : Nat → DS
  | 0, _, _ => .bad
  | n + 1, τ, st => (c τ st).stm τ fun b st => if b = true then (body τ st).turn fun τ st => whileN c body n τ st else .ok (.nx, τ) st
def fuel : Nat := 1000000000
def dWhile (c : DT) (body : DS) : DS := whileN c body fuel
theorem js_while {uc : DT} (hx : CxOk X W) (hc : JT X cl W c uc) (hb : JSs X cl W body t) : JS X cl W (.While c body [] pos) (dWhile uc t) := by
  refine PS.mono (ps_while hx.own hc hb) fun M σ H ⟨as, st, τ, w, e, p⟩ => ?_
  refine ⟨fun m σ' H' => ∃ as' st' τ', Wd X.K cl as' st' H' ∧ RepE X.K as' H' τ' σ' ∧ Post X.K cl E00 as' H' (whileN uc t m τ' st') (fun r _ as' H' => FlOk X.K cl W M as' H' r.2 r.1), ⟨fuel, as, st, τ, w, e, p⟩, ?_⟩
  rintro m σ' H' ⟨as', st', τ', w1, e1, p1⟩
  cases m with
  | zero => exact p1.elim
  | succ m =>
    have p1 : Post X.K cl E00 as' H' ((uc τ' st').stm τ' fun b st => if b = true then (t τ' st).turn fun τ st => whileN uc t m τ st else .ok (.nx, τ') st) (fun r _ as' H' => FlOk X.K cl W M as' H' r.2 r.1) := p1
    refine ⟨as', st', τ', w1, e1, (Post.stm e1 p1).mono fun b st2 as2 H2 e2 w2 p2 => ?_⟩
    cases b with
    | true => exact ⟨_, fun σ'' H'' n => n, turn_ok w2 (e1.evo e2) p2 fun as5 H5 τ5 st5 σ5 e5 w5 r5 p5 => ⟨m, Nat.lt_succ_self m, as5, st5, τ5, w5, r5, p5⟩⟩
    | false => exact p2.here w2 σ' (e1.evo e2)
end

/-! ### comprehensions -/
/-- the targets: names, by their places -/
inductive Tgt where
  | one (i : Nat)
  | tup (is : List Nat)
def Tgt.put : Tgt → D → En → Option En
  | .one i, d, τ => some (τ.set i (some d))
  | .tup is, .tup ds, τ => if ds.length = is.length then some (go is ds τ) else none
  | .tup _, _, _ => none
where go : List Nat → List D → En → En
  | i :: is, d :: ds, τ => go is ds (τ.set i (some d))
  | _, _, τ => τ
def Tgt.names : Tgt → List Nat
  | .one i => [i]
  | .tup is => is
def gNamesR : List Nat → TGs
  | [] => gNil
  | i :: is => gCons (gName i) (gNamesR is)
/-- its reading -/
def Tgt.raw (K : PySem.W.Frag) : Tgt → TG
  | .one i => gName i
  | .tup is => gTup K is.length (gNamesR is)
def compL (tg : Tgt) (tt : DT) (te : DE) (τ : En) : List D → List D → Sto → R (List D)
  | [], acc, st => .ok acc st
  | d :: ds, acc, st => match tg.put d τ with
    | none => .bad
    | some τ1 => match tt τ1 st with
      | .ok b st => if b = true then (match te τ1 st with
        | .ok y st => if acc.length < sizeLine then compL tg tt te τ ds (acc ++ [y]) st else .bad
        | _ => .bad) else compL tg tt te τ ds acc st
      | _ => .bad
def dComp (it : DI) (tg : Tgt) (tt : DT) (te : DE) (vs : List Nat) : DE := fun τ st => (it τ st).bind fun ds st => (compL tg tt te (wipeD τ vs) ds [] st).bind fun out st => .ok (.lst out) st
/-- .. a list that will change -/
def dCompN (it : DI) (tg : Tgt) (tt : DT) (te : DE) (vs : List Nat) : DE := fun τ st => (it τ st).bind fun ds st => (compL tg tt te (wipeD τ vs) ds [] st).bind fun out st => .ok (.ref st.length) (st ++ [.lst out])
def dYes : DT := fun _ st => .ok true st
theorem wipe_set {σ : L2.St} {i : Nat} {x : Option V} : ∀ {vs : List Nat}, i ∈ vs → L2.wipe (σ.set i x) vs = L2.wipe σ vs
  | [], h => by cases h
  | v :: vs, h => by
    unfold L2.wipe
    by_cases e : i ∈ vs
    · rw [wipe_set e]
    · rcases List.mem_cons.mp h with rfl | h
      · -- the wiped rest keeps the place
        have go : ∀ (us : List Nat), i ∉ us → (L2.wipe (σ.set i x) us) = (L2.wipe σ us).set i x := fun us => by
          induction us with
          | nil => exact fun _ => rfl
          | cons u us ih =>
            intro hn
            rw [List.mem_cons, not_or] at hn
            unfold L2.wipe
            rw [ih hn.2, List.set_comm _ _ hn.1]
        rw [go vs e, List.set_set]
      · exact absurd h e
theorem wipe_wipe (σ : L2.St) : ∀ (vs : List Nat) (us : List Nat), (∀ v ∈ vs, v ∈ us) → L2.wipe (L2.wipe σ vs) us = L2.wipe σ us
  | [], _, _ => rfl
  | v :: vs, us, h => by
    show L2.wipe ((L2.wipe σ vs).set v none) us = _
    rw [wipe_set (h v List.mem_cons_self), wipe_wipe σ vs us fun u hu => h u (List.mem_cons_of_mem _ hu)]
section
variable {X : Cx} {cl : Cl} {W : WX}
theorem Tgt.go_ok {K : PySem.W.Frag} {as : Mp} {H : Hp} {vs : List Nat} {Q : L2.St → Hp → Prop} : ∀ {is : List Nat} {ds : List D} {xs : List V} {τ : En} {σ : L2.St}, (∀ i ∈ is, i ∈ vs) → Reps K as H ds xs → ds.length = is.length → RepE K as H τ σ →
    (∀ σ1, RepE K as H (Tgt.put.go is ds τ) σ1 → L2.wipe σ1 vs = L2.wipe σ vs → Q σ1 H) → gNamesR is xs σ H Q
  | [], _, _, τ, σ, hv, .nil, hl, e, q => ⟨rfl, q σ e rfl⟩
  | [], _, _, τ, σ, hv, .cons _ _, hl, e, q => by simp at hl
  | i :: is, _, _, τ, σ, hv, .nil, hl, e, q => by simp at hl
  | i :: is, _, _, τ, σ, hv, .cons r rs, hl, e, q => by
    refine ⟨_, _, rfl, ?_⟩
    exact Tgt.go_ok (fun j hj => hv j (List.mem_cons_of_mem _ hj)) rs (by simpa using hl) (e.set i r) fun σ1 h1 h2 => q σ1 h1 (by rw [h2, wipe_set (hv i List.mem_cons_self)])
/-- a target stores: what is wanted behind it -/
theorem Tgt.run {K : PySem.W.Frag} {as : Mp} {H : Hp} {d : D} {v : V} {τ τ1 : En} {σ : L2.St} {vs : List Nat} {Q : L2.St → Hp → Prop} (tg : Tgt) (hv : ∀ i ∈ tg.names, i ∈ vs) (e : RepE K as H τ σ) (r : Rep K as H d v) (h : tg.put d τ = some τ1)
    (q : ∀ σ1, RepE K as H τ1 σ1 → L2.wipe σ1 vs = L2.wipe σ vs → Q σ1 H) : tg.raw K v σ H Q := by
  cases tg with
  | one i =>
    cases h
    exact q _ (e.set i r) (wipe_set (hv i (by simp [Tgt.names])))
  | tup is =>
    cases d with
    | tup ds =>
      have h : (if ds.length = is.length then some (Tgt.put.go is ds τ) else none) = some τ1 := h
      split at h
      · rename_i hl
        cases h
        cases r with
        | tup s rs => exact ⟨_, _, rfl, s.t, by rw [← rs.len]; exact hl, Tgt.go_ok hv rs hl e q⟩
      · cases h
    | _ => cases h
theorem Mk1.mvs {as as' : Mp} {H H' : Hp} {p : Addr} (e : Mk1 as H p as' H') : Mv as H as' H' := ⟨let ⟨bs, h, _⟩ := e.evo.ext; ⟨bs, h⟩, fun a o h n => ⟨fun z => by
  rcases z with z | z
  · exact e.evo.out h n (.inl z)
  · rw [e.x] at z
    rcases List.mem_cons.mp z with z | z
    · exact ne_of_none h e.free z
    · exact n (.inr z), e.evo.keep a o h n⟩⟩
/-- the list in the making, as it is walked -/
theorem comp_core {as : Mp} {st : Sto} {σ : L2.St} {τ : En} {H : Hp} {J : It} {ds : List D} {tg : Tgt} {tt : DT} {te : DE} {vs : List Nat} {A : Addr} {Qf : Hp → Prop} {out : List D} {stf : Sto}
    (hv : ∀ i ∈ tg.names, i ∈ vs) (w : Wd X.K cl as st H) (e : RepE X.K as H τ σ) (Wk : Walk X.K cl as H J ds) (ha : H A = none) (hr : compL tg tt te (wipeD τ vs) ds [] st = .ok out stf)
    (hq : ∀ as' H' xs, Mk1 as H A as' H' → Wd X.K cl as' stf H' → H' A = some (.lst xs) → Reps X.K as' H' out xs → Qf H') :
    ∃ Wv : Nat → Nat → Hp → Prop, (∃ m, Wv 0 m (upd H A (.lst []))) ∧ ∀ i m H, Wv i m H →
      (J.stop i H ∧ Qf H) ∨ (J.go i H ∧ ∃ Nx : Hp → Prop, (∀ H', Nx H' → ∃ m', m' < m ∧ Wv (i + 1) m' H') ∧ ∀ x H', J.yld i H x H' → (tg.raw X.K) x (L2.wipe σ vs) H' fun σ2 H2 => L2.wipe σ2 vs = L2.wipe σ vs ∧ liftT X.K cl W0 tt σ2 H2 fun b H3 =>
        if b = true then lift X.K cl W0 te σ2 H3 fun y H4 => ∃ acc, H4 A = some (.lst acc) ∧ acc.length < sizeLine ∧ Nx (upd H4 A (.lst (acc ++ [y]))) else Nx H3) := by
  refine ⟨fun i m H' => m = ds.length - i ∧ i ≤ ds.length ∧ ∃ as' st' acc xs, Mk1 as H A as' H' ∧ Wd X.K cl as' st' H' ∧ H' A = some (.lst xs) ∧ Reps X.K as' H' acc xs ∧ compL tg tt te (wipeD τ vs) (ds.drop i) acc st' = .ok out stf,
    ⟨ds.length, by simp, by simp, as.hide A, st, [], [], Mk1.start w ha, w.hide ha, upd_same, .nil, hr⟩, ?_⟩
  rintro i m H' ⟨rfl, hi, as', st', acc, xs, m1, w1, hA, ra, hc⟩
  by_cases hlt : i < ds.length
  · have hdr : ds.drop i = ds[i] :: ds.drop (i + 1) := List.drop_eq_getElem_cons hlt
    rw [hdr] at hc
    unfold compL at hc
    refine .inr ⟨Wk.go i as' H' m1.mvs hlt, _, fun H'' n => n, fun x H'' y => ?_⟩
    obtain ⟨d, hd, hn, r3⟩ := Wk.yld i as' st' H' x H'' hlt m1.mvs w1 y
    obtain ⟨e3, w3⟩ := Walk.evo hn w1
    rw [List.getElem?_eq_getElem hlt] at hd
    cases hd
    cases hp : tg.put ds[i] (wipeD τ vs) with
    | none => rw [hp] at hc; cases hc
    | some τ1 =>
      rw [hp] at hc
      dsimp only at hc
      obtain ⟨m3, k3⟩ := m1.next e3 w
      refine tg.run hv ((e.mv m3.mvs).wipe vs) r3 hp fun σ1 q1 q2 => ⟨q2.trans (wipe_wipe σ vs vs fun _ h => h), as', st', τ1, w3, q1, ?_⟩
      cases ht : tt τ1 st' with
      | bad => rw [ht] at hc; cases hc
      | exc _ _ => rw [ht] at hc; cases hc
      | ok b st4 =>
        rw [ht] at hc
        dsimp only at hc
        intro as4 H4 e4 w4
        obtain ⟨m4, k4⟩ := m3.next e4 w
        cases b with
        | false => exact ⟨ds.length - (i + 1), by omega, rfl, hlt, as4, st4, acc, xs, m4, w4, k4.trans (k3.trans hA), (ra.evo e3).evo e4, hc⟩
        | true =>
          rw [if_pos rfl] at hc
          show lift X.K cl W0 te σ1 H4 _
          refine ⟨as4, st4, τ1, w4, q1.evo e4, ?_⟩
          cases hy : te τ1 st4 with
          | bad => rw [hy] at hc; cases hc
          | exc _ _ => rw [hy] at hc; cases hc
          | ok z st5 =>
            rw [hy] at hc
            dsimp only at hc
            intro as5 H5 e5 w5 v rv
            obtain ⟨m5, k5⟩ := m4.next e5 w
            split at hc
            · rename_i hl
              have ra5 := ((ra.evo e3).evo e4).evo e5
              refine ⟨xs, k5.trans (k4.trans (k3.trans hA)), by rw [← ra5.len]; exact hl, ?_⟩
              have sd : Mv as5 H5 as5 (upd H5 A (.lst (xs ++ [v]))) := Mv.side (.inr m5.mem)
              exact ⟨ds.length - (i + 1), by omega, rfl, hlt, as5, st5, acc ++ [z], xs ++ [v], m5.set w, w5.wrx m5.mem, upd_same, (ra5.append (.cons rv .nil)).mv sd, hc⟩
            · cases hc
  · rw [List.drop_eq_nil_of_le (by omega)] at hc
    unfold compL at hc
    cases hc
    exact .inl ⟨Wk.stop i as' H' m1.mvs (by omega), hq as' H' xs m1 w1 hA ra⟩
theorem lift_comp {it : DI} {tg : Tgt} {tt : DT} {te : DE} {vs : List Nat} (hv : ∀ i ∈ tg.names, i ∈ vs) {σ : L2.St} {H : Hp} {Q : VK} (h : lift X.K cl W (dComp it tg tt te vs) σ H Q) :
    tLc (liftI X.K cl W it) (tg.raw X.K) (liftT X.K cl W0 tt) (lift X.K cl W0 te) vs σ H Q := by
  obtain ⟨as, st, τ, w, e, p⟩ := h
  refine ⟨as, st, τ, w, e, p.bind.mono fun ds st1 as1 H1 e1 w1 p1 J Wk A ha => ?_⟩
  have he : ∀ x stx, compL tg tt te (wipeD τ vs) ds [] st1 ≠ .exc x stx := by
    suffices q : ∀ ds acc st x stx, compL tg tt te (wipeD τ vs) ds acc st ≠ .exc x stx from q ds [] st1
    intro ds
    induction ds with
    | nil => intro acc st x stx h; cases h
    | cons d ds ih =>
      intro acc st x stx h
      unfold compL at h
      split at h
      · cases h
      · split at h
        · split at h
          · split at h
            · split at h
              · exact ih _ _ _ _ h
              · cases h
            · cases h
          · exact ih _ _ _ _ h
        · cases h
  cases hc : compL tg tt te (wipeD τ vs) ds [] st1 with
  | bad => rw [hc] at p1; exact p1.elim
  | exc x stx => exact (he x stx hc).elim
  | ok out stf =>
    rw [hc] at p1
    refine comp_core hv w1 (e.evo e1) Wk ha hc fun as' H' xs m w' hA ra => ?_
    obtain ⟨w2, n2⟩ := m.fix w1 w'
    exact Post.ok p1 m.evo w2 _ (.lst n2 hA (ra.mv m.mv))
theorem lift_compN {it : DI} {tg : Tgt} {tt : DT} {te : DE} {vs : List Nat} (hv : ∀ i ∈ tg.names, i ∈ vs) {σ : L2.St} {H : Hp} {Q : VK} (h : lift X.K cl W (dCompN it tg tt te vs) σ H Q) :
    tLc (liftI X.K cl W it) (tg.raw X.K) (liftT X.K cl W0 tt) (lift X.K cl W0 te) vs σ H Q := by
  obtain ⟨as, st, τ, w, e, p⟩ := h
  refine ⟨as, st, τ, w, e, p.bind.mono fun ds st1 as1 H1 e1 w1 p1 J Wk A ha => ?_⟩
  have he : ∀ x stx, compL tg tt te (wipeD τ vs) ds [] st1 ≠ .exc x stx := by
    suffices q : ∀ ds acc st x stx, compL tg tt te (wipeD τ vs) ds acc st ≠ .exc x stx from q ds [] st1
    intro ds
    induction ds with
    | nil => intro acc st x stx h; cases h
    | cons d ds ih =>
      intro acc st x stx h
      unfold compL at h
      split at h
      · cases h
      · split at h
        · split at h
          · split at h
            · split at h
              · exact ih _ _ _ _ h
              · cases h
            · cases h
          · exact ih _ _ _ _ h
        · cases h
  cases hc : compL tg tt te (wipeD τ vs) ds [] st1 with
  | bad => rw [hc] at p1; exact p1.elim
  | exc x stx => exact (he x stx hc).elim
  | ok out stf =>
    rw [hc] at p1
    refine comp_core hv w1 (e.evo e1) Wk ha hc fun as' H' xs m w' hA ra => ?_
    obtain ⟨e2, w2⟩ := m.push w1 w' hA (.lst ra)
    refine Post.ok p1 e2 w2 _ (.ref ?_)
    show (as'.m ++ [A])[stf.length]? = some A
    rw [← w'.len]; simp
variable {elt tge iter : Expr} {ifs : List Expr} {scope : Scope} {own : List (Str × Nat)} {pos spos : Pos} {it : DI} {tg : Tgt} {tt : DT} {te : DE}
abbrev JTs (X : Cx) (cl : Cl) (ifs : List Expr) (t : DT) : Prop := PTs X ifs (liftT X.K cl W0 t)
theorem jts_nil : JTs X cl [] dYes := ⟨fun pins s σ H Q I ⟨as, st, τ, w, e, p⟩ => pts_nil.run pins s σ H Q I (p.here w)⟩
theorem jts_one {c : Expr} {t : DT} (h : JT X cl W0 c t) : JTs X cl [c] t := pts_one h
theorem j_lc (hc : X.calm = true) (hN : X.N.Nodup) (hi : JI X cl W tge iter it) (ok : BlkOk X.N X.env.scope scope own) (hv : ∀ i ∈ tg.names, i ∈ own.map (·.2))
    (hg : ∀ (s : Shared) (H : Hp) (C : Addr) (cl : List (Str × Addr)) (fp : List Addr), PG (X.blk s H scope (compEnvC scope cl C X.env) fp) tge (tg.raw X.K))
    (ht : ∀ (s : Shared) (H : Hp) (C : Addr) (cl' : List (Str × Addr)) (fp : List Addr), JTs (X.blk s H scope (compEnvC scope cl' C X.env) fp) cl ifs tt)
    (he : ∀ (s : Shared) (H : Hp) (C : Addr) (cl' : List (Str × Addr)) (fp : List Addr), JE (X.blk s H scope (compEnvC scope cl' C X.env) fp) cl W0 elt te) (hs : ∀ x, foldedSetIterable iter X.env x = pure x := by intro _; rfl) :
    JE X cl W (.ListComp elt [⟨tge, iter, ifs, 0⟩] scope pos) (dComp it tg tt te (own.map (·.2))) :=
  PE.mono (pe_lc hc hN hi ok hg ht he hs) fun _ _ _ h => lift_comp hv h
theorem j_lcN (hc : X.calm = true) (hN : X.N.Nodup) (hi : JI X cl W tge iter it) (ok : BlkOk X.N X.env.scope scope own) (hv : ∀ i ∈ tg.names, i ∈ own.map (·.2))
    (hg : ∀ (s : Shared) (H : Hp) (C : Addr) (cl : List (Str × Addr)) (fp : List Addr), PG (X.blk s H scope (compEnvC scope cl C X.env) fp) tge (tg.raw X.K))
    (ht : ∀ (s : Shared) (H : Hp) (C : Addr) (cl' : List (Str × Addr)) (fp : List Addr), JTs (X.blk s H scope (compEnvC scope cl' C X.env) fp) cl ifs tt)
    (he : ∀ (s : Shared) (H : Hp) (C : Addr) (cl' : List (Str × Addr)) (fp : List Addr), JE (X.blk s H scope (compEnvC scope cl' C X.env) fp) cl W0 elt te) (hs : ∀ x, foldedSetIterable iter X.env x = pure x := by intro _; rfl) :
    JE X cl W (.ListComp elt [⟨tge, iter, ifs, 0⟩] scope pos) (dCompN it tg tt te (own.map (·.2))) :=
  PE.mono (pe_lc hc hN hi ok hg ht he hs) fun _ _ _ h => lift_compN hv h
/-- y = [..], y a plain local -/
theorem js_setLc {i : Nat} {y : Str} {py : Pos} (hc : X.calm = true) (hN : X.N.Nodup) (hy : X.N[i]? = some y) (hyl : X.env.scope.names.lookup y = some .local)
    (hsw : swapsWith (.ListComp elt [⟨tge, iter, ifs, 0⟩] scope pos) (some (.Name y py)) spos.line X.env = pure true) (hi : JI X cl W tge iter it) (ok : BlkOk X.N X.env.scope scope own) (hv : ∀ i ∈ tg.names, i ∈ own.map (·.2))
    (hg : ∀ (s : Shared) (H : Hp) (C : Addr) (cl : List (Str × Addr)) (fp : List Addr), PG (X.blk s H scope (compEnvC scope cl C X.env) fp) tge (tg.raw X.K))
    (ht : ∀ (s : Shared) (H : Hp) (C : Addr) (cl' : List (Str × Addr)) (fp : List Addr), JTs (X.blk s H scope (compEnvC scope cl' C X.env) fp) cl ifs tt)
    (he : ∀ (s : Shared) (H : Hp) (C : Addr) (cl' : List (Str × Addr)) (fp : List Addr), JE (X.blk s H scope (compEnvC scope cl' C X.env) fp) cl W0 elt te) (hs : ∀ x, foldedSetIterable iter X.env x = pure x := by intro _; rfl) :
    JS X cl W (.Assign [.Name y py] (.ListComp elt [⟨tge, iter, ifs, 0⟩] scope pos) spos) (dAsg (dComp it tg tt te (own.map (·.2))) (gN i)) := by
  refine PS.mono (ps_setLc (tt := liftT X.K cl W0 tt) (te := lift X.K cl W0 te) hc hN hy hyl hsw hi ok hg ht he hs) fun M σ H ⟨as, st, τ, w, e, p⟩ => ?_
  show tLc _ _ _ _ _ σ H _
  refine lift_comp hv ⟨as, st, τ, w, e, (Post.stm e p).mono fun d st1 as1 H1 e1 w1 p1 v rv => ?_⟩
  exact p1.here w1 _ ((e.evo e1).set i rv)
theorem js_setLcN {i : Nat} {y : Str} {py : Pos} (hc : X.calm = true) (hN : X.N.Nodup) (hy : X.N[i]? = some y) (hyl : X.env.scope.names.lookup y = some .local)
    (hsw : swapsWith (.ListComp elt [⟨tge, iter, ifs, 0⟩] scope pos) (some (.Name y py)) spos.line X.env = pure true) (hi : JI X cl W tge iter it) (ok : BlkOk X.N X.env.scope scope own) (hv : ∀ i ∈ tg.names, i ∈ own.map (·.2))
    (hg : ∀ (s : Shared) (H : Hp) (C : Addr) (cl : List (Str × Addr)) (fp : List Addr), PG (X.blk s H scope (compEnvC scope cl C X.env) fp) tge (tg.raw X.K))
    (ht : ∀ (s : Shared) (H : Hp) (C : Addr) (cl' : List (Str × Addr)) (fp : List Addr), JTs (X.blk s H scope (compEnvC scope cl' C X.env) fp) cl ifs tt)
    (he : ∀ (s : Shared) (H : Hp) (C : Addr) (cl' : List (Str × Addr)) (fp : List Addr), JE (X.blk s H scope (compEnvC scope cl' C X.env) fp) cl W0 elt te) (hs : ∀ x, foldedSetIterable iter X.env x = pure x := by intro _; rfl) :
    JS X cl W (.Assign [.Name y py] (.ListComp elt [⟨tge, iter, ifs, 0⟩] scope pos) spos) (dAsg (dCompN it tg tt te (own.map (·.2))) (gN i)) := by
  refine PS.mono (ps_setLc (tt := liftT X.K cl W0 tt) (te := lift X.K cl W0 te) hc hN hy hyl hsw hi ok hg ht he hs) fun M σ H ⟨as, st, τ, w, e, p⟩ => ?_
  show tLc _ _ _ _ _ σ H _
  refine lift_compN hv ⟨as, st, τ, w, e, (Post.stm e p).mono fun d st1 as1 H1 e1 w1 p1 v rv => ?_⟩
  exact p1.here w1 _ ((e.evo e1).set i rv)
end

/-! ### methods of lists -/
/-- a method of a built-in: the receiver, the arguments -/
abbrev DM := D → List D → Sto → R D
def dBM (r : DM) (to : DE) (t : DA) : DE := fun τ st => (to τ st).bind fun x st => (t τ st).bind fun ds st => r x ds st
section
variable {X : Cx} {cl : Cl} {W : WX}
def liftM (K : PySem.W.Frag) (cl : Cl) (E : XK) (r : DM) : V → List V → Hp → VK → Prop := fun x xs H Q => ∃ as st d ds, Wd K cl as st H ∧ Rep K as H d x ∧ Reps K as H ds xs ∧ Post K cl E as H (r d ds st) (QV K Q)
theorem MtR.mono {id : String} {r r' : V → List V → Hp → VK → Prop} (h : MtR X id r) (k : ∀ x xs H Q, r' x xs H Q → r x xs H Q) : MtR X id r' := fun pins s σ H x xs v us Q I r1 r2 q => h pins s σ H x xs v us Q I r1 r2 (k _ _ _ _ q)
/-- a method's rule: what kind of value the receiver must be is told by T -/
def MtJ (X : Cx) (cl : Cl) (id : String) (r : DM) : Prop := ∀ E : XK, MtR X id (liftM X.K cl E r)
def isT (T : String) (d : D) (st : Sto) : Bool := match d with
  | .str _ => T == "str"
  | .int _ => T == "int"
  | .lst _ => T == "list"
  | .fro _ => T == "list"
  | .dic _ => T == "dict"
  | .ref n => match st[n]? with
    | some (.lst _) => T == "list"
    | some (.dK _) => T == "dict"
    | _ => false
  | _ => false
theorem isT_ok {T : String} {as : Mp} {st : Sto} {H : Hp} {d : D} {v : V} (w : Wd X.K cl as st H) (r : Rep X.K as H d v) (h : isT T d st = true) : tyV X.K T v H := by
  cases r with
  | str x => exact beq_iff_eq.mp h
  | int i => exact beq_iff_eq.mp h
  | lst n h1 r => exact .inl ⟨beq_iff_eq.mp h, _, .of h1⟩
  | fro s r => exact .inl ⟨beq_iff_eq.mp h, _, s.l⟩
  | dic n h1 r => exact .inr (.inr (.inl ⟨beq_iff_eq.mp h, .inl ⟨_, h1⟩⟩))
  | @ref n a h1 =>
    have h : (match st[n]? with | some (.lst _) => T == "list" | some (.dK _) => T == "dict" | _ => false) = true := h
    cases hs : st[n]? with
    | none => rw [hs] at h; cases h
    | some o =>
      rw [hs] at h
      cases o with
      | lst es =>
        obtain ⟨xs, h2, r⟩ := w.lst h1 hs
        exact .inl ⟨beq_iff_eq.mp h, _, .of h2⟩
      | dK es =>
        obtain ⟨xs, h2, r⟩ := w.dK h1 hs
        exact .inr (.inr (.inl ⟨beq_iff_eq.mp h, .inl ⟨_, h2⟩⟩))
      | dT es => cases h
      | ins _ _ => cases h
  | _ => cases h
def dBMT (T : String) (r : DM) (to : DE) (t : DA) : DE := fun τ st => (to τ st).bind fun x st => if isT T x st = true then (t τ st).bind fun ds st => r x ds st else .bad
variable {o e : Expr} {es : List Expr} {to : DE} {t : DA} {name : Str} {apos cpos : Pos} {T id : String} {r : DM}
theorem j_bm (pa : PlainAttrs T) (slot : Slot T name id) (hty : typeOf (.builtin id) = pure (.type "method_descriptor")) (hm : MtJ X cl id r) (ho : JE X cl W o to) (ha : JA X cl W (e :: es) t)
    (hbase : attributeBase o name X.env (eval o X.env) = eval o X.env := by rfl)
    (hfew : ((backTo cpos (starEach (e :: es) X.env)).all (fun x => !x.1) && (backToKw cpos (keywordEach [] X.env)).all (fun x => x.1.isSome)
      && decide ((e :: es).length + ([] : List Keyword).length + (if ([] : List Keyword).isEmpty then 0 else 1) < 30)) = true := by rfl)
    (hline : (apos.endLine == cpos.line) = true := by rfl) (hs : starEach (e :: es) X.env = (false, eval e X.env) :: starEach es X.env := by rfl) (hplain : (backTo cpos (starEach es X.env)).any (·.1) = false := by rfl) :
    JE X cl W (.Call (.Attribute o name apos) (e :: es) [] cpos) (dBMT T r to t) := by
  refine ⟨fun pins s σ H Q I ⟨as, st, τ, w, e, p⟩ => (pe_bm pa slot hty (hm (WE W σ)) ho ha hbase hfew hline hs hplain).run pins s σ H Q I ⟨as, st, τ, w, e, p.bind.mono fun d st1 as1 H1 e1 w1 p1 x rx => ?_⟩⟩
  split at p1
  · rename_i hT
    exact ⟨isT_ok w1 rx hT, as1, st1, τ, w1, e.evo e1, p1.bind.mono fun ds st2 as2 H2 e2 w2 p2 xs rxs => ⟨as2, st2, d, ds, w2, rx.evo e2, rxs, p2⟩⟩
  · exact p1.elim
theorem j_bm0 (pa : PlainAttrs T) (slot : Slot T name id) (hty : typeOf (.builtin id) = pure (.type "method_descriptor")) (hm : MtJ X cl id r) (ho : JE X cl W o to)
    (hbase : attributeBase o name X.env (eval o X.env) = eval o X.env := by rfl) (hline : (apos.endLine == cpos.line) = true := by rfl) : JE X cl W (.Call (.Attribute o name apos) [] [] cpos) (dBMT T r to dNil) := by
  refine ⟨fun pins s σ H Q I ⟨as, st, τ, w, e, p⟩ => (pe_bm0 pa slot hty (hm (WE W σ)) ho hbase hline).run pins s σ H Q I ⟨as, st, τ, w, e, p.bind.mono fun d st1 as1 H1 e1 w1 p1 x rx => ?_⟩⟩
  split at p1
  · rename_i hT
    exact ⟨isT_ok w1 rx hT, as1, st1, d, [], w1, rx, .nil, p1⟩
  · exact p1.elim
theorem MtJ.of {r0 : V → List V → Hp → VK → Prop} (h : MtR X id r0)
    (k : ∀ (E : XK) (as : Mp) (st : Sto) (H : Hp) (x : V) (xs : List V) (d : D) (ds : List D) (Q : VK), Wd X.K cl as st H → Rep X.K as H d x → Reps X.K as H ds xs → Post X.K cl E as H (r d ds st) (QV X.K Q) → r0 x xs H Q) : MtJ X cl id r :=
  fun E => MtR.mono h fun x xs H Q ⟨as, st, d, ds, w, rx, rs, p⟩ => k E as st H x xs d ds Q w rx rs p
def mAppend : DM := fun x ds st => match x, ds with
  | .ref n, [d] => match st[n]? with
    | some (.lst xs) => if xs.length < sizeLine then .ok .non (st.set n (.lst (xs ++ [d]))) else .bad
    | _ => .bad
  | _, _ => .bad
theorem mj_append : MtJ X cl "list.append" mAppend := MtJ.of mt_append fun E as st H x xs d ds Q w rx rs p => by
  unfold mAppend at p
  split at p
  · rename_i n d
    obtain ⟨a, rfl, ha⟩ := rx.refAt
    obtain ⟨v, rfl, rv⟩ := rs.one
    split at p
    · rename_i ys hn
      split at p
      · rename_i hl
        obtain ⟨zs, hH, rz⟩ := w.lst ha hn
        exact ⟨a, zs, v, rfl, rfl, hH, by rw [← rz.len]; exact hl, p.ok (Evo.wr w ha) (w.wr ha (.lst (rz.append (.cons rv .nil)))) _ .non⟩
      · exact p.elim
    · exact p.elim
  · exact p.elim
def mExtend : DM := fun x ds st => match x, ds with
  | .ref n, [d] => match st[n]?, lstOf d st with
    | some (.lst xs), some ys => if xs.length + ys.length ≤ sizeLine then .ok .non (st.set n (.lst (xs ++ ys))) else .bad
    | _, _ => .bad
  | _, _ => .bad
theorem mj_extend : MtJ X cl "list.extend" mExtend := MtJ.of mt_extend fun E as st H x xs d ds Q w rx rs p => by
  unfold mExtend at p
  split at p
  · rename_i n d
    obtain ⟨a, rfl, ha⟩ := rx.refAt
    obtain ⟨v, rfl, rv⟩ := rs.one
    split at p
    · rename_i ys us hn hd
      split at p
      · rename_i hl
        obtain ⟨zs, hH, rz⟩ := w.lst ha hn
        obtain ⟨b, ws, rfl, hB, rw'⟩ := lstOf_ok w rv hd
        exact ⟨a, b, zs, ws, rfl, rfl, hH, hB, by rw [← rz.len, ← rw'.len]; exact hl, p.ok (Evo.wr w ha) (w.wr ha (.lst (rz.append rw'))) _ .non⟩
      · exact p.elim
    · exact p.elim
  · exact p.elim
def mPop : DM := fun x ds st => match x, ds with
  | .ref n, [] => match st[n]? with
    | some (.lst xs) => (match xs[xs.length - 1]? with
      | some d => .ok d (st.set n (.lst xs.dropLast))
      | none => .bad)
    | _ => .bad
  | _, _ => .bad
theorem Reps.dropLast {K : PySem.W.Frag} {as : Mp} {H : Hp} {ds : List D} {vs : List V} (r : Reps K as H ds vs) : Reps K as H ds.dropLast vs.dropLast := by
  rw [List.dropLast_eq_take, List.dropLast_eq_take, r.len]
  exact r.take _
theorem mj_pop : MtJ X cl "list.pop" mPop := MtJ.of mt_pop fun E as st H x xs d ds Q w rx rs p => by
  unfold mPop at p
  split at p
  · rename_i n
    obtain ⟨a, rfl, ha⟩ := rx.refAt
    cases rs
    split at p
    · rename_i ys hn
      obtain ⟨zs, hH, rz⟩ := w.lst ha hn
      cases hd : ys[ys.length - 1]? with
      | none => rw [hd] at p; exact p.elim
      | some d =>
        rw [hd] at p
        obtain ⟨v, h1, h2⟩ := rz.get hd
        exact ⟨a, zs, v, rfl, rfl, hH, by rw [← rz.len]; exact h1, Post.ok p (Evo.wr w ha) (w.wr ha (.lst rz.dropLast)) _ (h2.evo (Evo.wr w ha))⟩
    · exact p.elim
  · exact p.elim
end
end DL

/-! DL7: rules that look at the values; what a def leaves behind is forgotten; the law's end. -/
namespace DL
open PySem PySem.Spec PyProof.Rows L2

theorem PE.or {X : Cx} {e : Expr} {t t' : TE} (h : PE X e t) (h' : PE X e t') : PE X e (fun σ H Q => t σ H Q ∨ t' σ H Q) := ⟨fun pins s σ H Q I q => q.elim (h.run pins s σ H Q I) (h'.run pins s σ H Q I)⟩
theorem PS.or {X : Cx} {e : Stmt} {t t' : TS} (h : PS X e t) (h' : PS X e t') : PS X e (fun M σ H => t M σ H ∨ t' M σ H) := ⟨fun pins s σ H M I q => q.elim (h.run pins s σ H M I) (h'.run pins s σ H M I)⟩
theorem PI.or {X : Cx} {tg e : Expr} {t t' : TI} (h : PI X tg e t) (h' : PI X tg e t') : PI X tg e (fun σ H R => t σ H R ∨ t' σ H R) := ⟨fun pins s σ H R I q => q.elim (h.run pins s σ H R I) (h'.run pins s σ H R I)⟩
section
variable {X : Cx} {cl : Cl} {W : WX} {e : Expr} {ta tb : DE}
/-- one of two rules, as the run goes -/
theorem JE.or {t t1 t2 : DE} (h1 : JE X cl W e t1) (h2 : JE X cl W e t2) (h : ∀ τ st, t τ st = t1 τ st ∨ t τ st = t2 τ st ∨ t τ st = .bad) : JE X cl W e t :=
  PE.mono (PE.or h1 h2) fun σ H Q ⟨as, st, τ, w, e, p⟩ => by
    rcases h τ st with q | q | q
    · exact .inl ⟨as, st, τ, w, e, by rw [← q]; exact p⟩
    · exact .inr ⟨as, st, τ, w, e, by rw [← q]; exact p⟩
    · rw [q] at p; exact p.elim
theorem JI.or {tg : Expr} {t t1 t2 : DI} (h1 : JI X cl W tg e t1) (h2 : JI X cl W tg e t2) (h : ∀ τ st, t τ st = t1 τ st ∨ t τ st = t2 τ st ∨ t τ st = .bad) : JI X cl W tg e t :=
  PI.mono (PI.or h1 h2) fun σ H Q ⟨as, st, τ, w, e, p⟩ => by
    rcases h τ st with q | q | q
    · exact .inl ⟨as, st, τ, w, e, by rw [← q]; exact p⟩
    · exact .inr ⟨as, st, τ, w, e, by rw [← q]; exact p⟩
    · rw [q] at p; exact p.elim
theorem JS.or {s : Stmt} {t t1 t2 : DS} (h1 : JS X cl W s t1) (h2 : JS X cl W s t2) (h : ∀ τ st, t τ st = t1 τ st ∨ t τ st = t2 τ st ∨ t τ st = .bad) : JS X cl W s t :=
  PS.mono (PS.or h1 h2) fun M σ H ⟨as, st, τ, w, e, p⟩ => by
    rcases h τ st with q | q | q
    · exact .inl ⟨as, st, τ, w, e, by rw [← q]; exact p⟩
    · exact .inr ⟨as, st, τ, w, e, by rw [← q]; exact p⟩
    · rw [q] at p; exact p.elim
end
/-- x[i], of a dict or of a row -/
def dIxA : D2 := fun x y st => if (dicOf x st).isSome = true then dGetK x y st else dIx x y st
def dInA (neg : Bool) : D2 := fun y x st => if (dicOf x st).isSome = true then dInK neg y x st else dIn neg y x st
theorem bin_or {r r1 r2 : D2} (h : ∀ x y st, r x y st = r1 x y st ∨ r x y st = r2 x y st) (ta tb : DE) (τ : En) (st : Sto) :
    dBin r ta tb τ st = dBin r1 ta tb τ st ∨ dBin r ta tb τ st = dBin r2 ta tb τ st ∨ dBin r ta tb τ st = .bad := by
  unfold dBin
  cases ta τ st with
  | bad => exact .inr (.inr rfl)
  | exc x st => exact .inl rfl
  | ok x st1 =>
    show (tb τ st1).bind _ = (tb τ st1).bind _ ∨ (tb τ st1).bind _ = (tb τ st1).bind _ ∨ (tb τ st1).bind _ = _
    cases tb τ st1 with
    | bad => exact .inr (.inr rfl)
    | exc x st => exact .inl rfl
    | ok y st2 =>
      rcases h x y st2 with q | q
      · exact .inl q
      · exact .inr (.inl q)
theorem ite_or {α : Type} {c : Prop} [Decidable c] (a b : α) : (if c then a else b) = a ∨ (if c then a else b) = b := by
  by_cases h : c
  · exact .inl (if_pos h)
  · exact .inr (if_neg h)
section
variable {X : Cx} {cl : Cl} {W : WX} {pos pos' : Pos} {a b o i value : Expr} {ta tb td ty tv : DE}
theorem j_ixA (hu : X.A.units + 1 < cLine) (ha : JE X cl W a ta) (hb : JE X cl W b tb) (hs : PlainIx b := by intro _ _; rfl) : JE X cl W (.Subscript a b pos) (dBin dIxA ta tb) :=
  JE.or (j_dget hu ha hb hs) (j_ix ha hb hs) (bin_or (fun _ _ _ => ite_or _ _) ta tb)
theorem j_inA (hu : X.A.units + 65 < cLine) (ha : JE X cl W a ta) (hb : JE X cl W b tb) (hm : behindInMarks .In b = false := by rfl) : JE X cl W (.Compare a [.In] [b] pos) (dBin (dInA false) ta tb) :=
  JE.or (j_din (by omega) ha hb hm) (j_cmp (oj_in hu) ha hb hm) (bin_or (fun _ _ _ => ite_or _ _) ta tb)
theorem j_notInA (hu : X.A.units + 65 < cLine) (ha : JE X cl W a ta) (hb : JE X cl W b tb) (hm : behindInMarks .NotIn b = false := by rfl) : JE X cl W (.Compare a [.NotIn] [b] pos) (dBin (dInA true) ta tb) :=
  JE.or (j_dnotin (by omega) ha hb hm) (j_cmp (oj_notIn hu) ha hb hm) (bin_or (fun _ _ _ => ite_or _ _) ta tb)
/-- an expression that gives a truth, as a test -/
theorem j_tst {e : Expr} {t : DE} (h : JE X cl W e t) (he : ∀ whole, isTrue e X.env whole = (do let v ← whole; standAt e.pos; holding [v] (truthy v)) := by intro _; rfl) : JT X cl W e (dTst t) := by
  refine PT.mono (pt_val h he) fun σ H Q ⟨as, st, τ, w, e, p⟩ => ⟨as, st, τ, w, e, p.tru.mono fun d st1 as1 H1 e1 w1 ⟨k, hk, p1⟩ v rv => ?_⟩
  subst hk
  cases rv
  exact ⟨k, rfl, p1⟩
/-- a comparison's value is a truth whatever it compares: as a test -/
theorem PT.or {e : Expr} {t t' : TT} (h : PT X e t) (h' : PT X e t') : PT X e (fun σ H Q => t σ H Q ∨ t' σ H Q) := ⟨fun pins s σ H Q I q => q.elim (h.run pins s σ H Q I) (h'.run pins s σ H Q I)⟩
theorem JT.or {e : Expr} {t t1 t2 : DT} (h1 : JT X cl W e t1) (h2 : JT X cl W e t2) (h : ∀ τ st, t τ st = t1 τ st ∨ t τ st = t2 τ st ∨ t τ st = .bad) : JT X cl W e t :=
  PT.mono (PT.or h1 h2) fun σ H Q ⟨as, st, τ, w, e, p⟩ => by
    rcases h τ st with q | q | q
    · exact .inl ⟨as, st, τ, w, e, by rw [← q]; exact p⟩
    · exact .inr ⟨as, st, τ, w, e, by rw [← q]; exact p⟩
    · rw [q] at p; exact p.elim
theorem lift_tst {t : DE} {σ : L2.St} {H : Hp} {Q : Bool → Hp → Prop} (h : liftT X.K cl W (dTst t) σ H Q) : lift X.K cl W t σ H fun x H1 => ∃ c, x = .bl c ∧ Q c H1 := by
  obtain ⟨as, st, τ, w, e, p⟩ := h
  refine ⟨as, st, τ, w, e, p.tru.mono fun d st1 as1 H1 e1 w1 ⟨k, hk, p1⟩ v rv => ?_⟩
  subst hk
  cases rv
  exact ⟨k, rfl, p1⟩
theorem j_tdin (hu : X.A.units + 1 < cLine) (hi : JE X cl W i ty) (ho : JE X cl W o td) (hm : behindInMarks .In o = false := by rfl) : JT X cl W (.Compare i [.In] [o] pos) (dTst (dBin (dInK false) ty td)) :=
  PT.mono (pt_cmp (pc_din hu hi ho) hm) fun _ _ _ h => lift_din0 (lift_tst h)
theorem j_tdnotin (hu : X.A.units + 1 < cLine) (hi : JE X cl W i ty) (ho : JE X cl W o td) (hm : behindInMarks .NotIn o = false := by rfl) : JT X cl W (.Compare i [.NotIn] [o] pos) (dTst (dBin (dInK true) ty td)) :=
  PT.mono (pt_cmp (pc_dnotin hu hi ho) hm) fun _ _ _ h => lift_din1 (lift_tst h)
theorem tst_or {t t1 t2 : DE} (h : ∀ τ st, t τ st = t1 τ st ∨ t τ st = t2 τ st ∨ t τ st = .bad) (τ : En) (st : Sto) : dTst t τ st = dTst t1 τ st ∨ dTst t τ st = dTst t2 τ st ∨ dTst t τ st = .bad := by
  unfold dTst
  rcases h τ st with q | q | q
  · exact .inl (by rw [q])
  · exact .inr (.inl (by rw [q]))
  · exact .inr (.inr (by rw [q]))
theorem j_tinA (hu : X.A.units + 65 < cLine) (ha : JE X cl W a ta) (hb : JE X cl W b tb) (hm : behindInMarks .In b = false := by rfl) : JT X cl W (.Compare a [.In] [b] pos) (dTst (dBin (dInA false) ta tb)) :=
  JT.or (j_tdin (by omega) ha hb hm) (j_tcmp (oj_in hu) ha hb hm) (tst_or (bin_or (fun _ _ _ => ite_or _ _) ta tb))
theorem j_tnotInA (hu : X.A.units + 65 < cLine) (ha : JE X cl W a ta) (hb : JE X cl W b tb) (hm : behindInMarks .NotIn b = false := by rfl) : JT X cl W (.Compare a [.NotIn] [b] pos) (dTst (dBin (dInA true) ta tb)) :=
  JT.or (j_tdnotin (by omega) ha hb hm) (j_tcmp (oj_notIn hu) ha hb hm) (tst_or (bin_or (fun _ _ _ => ite_or _ _) ta tb))
/-- xs[i] = v, of a list of the store -/
def sSetL (x y v : D) (τ : En) (st : Sto) : R (Fl × En) := match x, y with
  | .ref n, .int i => match st[n]? with
    | some (.lst xs) => (match ixN xs.length i with
      | some j => .ok (.nx, τ) (st.set n (.lst (xs.set j v)))
      | none => .bad)
    | _ => .bad
  | _, _ => .bad
def dSetL (td ty tv : DE) : DS := fun τ st => (tv τ st).stm τ fun v st => (td τ st).stm τ fun x st => (ty τ st).stm τ fun y st => sSetL x y v τ st
def sPutA (x y v : D) (τ : En) (st : Sto) : R (Fl × En) := if (dicOf x st).isSome = true then sPutK x y v τ st else sSetL x y v τ st
def dPutA (td ty tv : DE) : DS := fun τ st => (tv τ st).stm τ fun v st => (td τ st).stm τ fun x st => (ty τ st).stm τ fun y st => sPutA x y v τ st
theorem js_setL (ho : JE X cl W o td) (hi : JE X cl W i ty) (hv : JE X cl W value tv) (ha : ∀ v, assign (.Subscript o i pos') X.env v = (do
      let ov ← holding [v] (eval o X.env)
      let iv ← holding [v, ov] (eval i X.env)
      standAt pos'
      holding [v, ov, iv] (setItem ov iv v)
      release [v, ov, iv] []) := by intro _; rfl) (hs : swapsWithSole [.Subscript o i pos'] value pos.line X.env = pure false := by rfl) (hw : swappedStores [.Subscript o i pos'] value X.env = pure none := by rfl)
    (h1 : (assignEach [.Subscript o i pos'] X.env).map (·.2) = [assign (.Subscript o i pos') X.env] := by rfl) : JS X cl W (.Assign [.Subscript o i pos'] value pos) (dSetL td ty tv) := by
  refine PS.mono (ps_asg hv (pg_sub ho hi set_list ha) hs hw h1) fun M σ H ⟨as, st, τ, w, e, p⟩ => ⟨as, st, τ, w, e, (Post.stm e p).mono fun d st1 as1 H1 e1 w1 p1 v rv => ?_⟩
  refine ⟨as1, st1, τ, w1, e.evo e1, (Post.stm (e.evo e1) p1).mono fun d2 st2 as2 H2 e2 w2 p2 x rx => ?_⟩
  refine ⟨as2, st2, τ, w2, (e.evo e1).evo e2, (Post.stm ((e.evo e1).evo e2) p2).mono fun d3 st3 as3 H3 e3 w3 p3 y ry => ?_⟩
  have rx3 := rx.evo e3
  unfold sSetL at p3
  split at p3
  · rename_i n i
    obtain ⟨q, rfl, hq⟩ := rx3.refAt
    cases ry
    split at p3
    · rename_i xs hn
      obtain ⟨zs, hH, rz⟩ := w3.lst hq hn
      cases hj : ixN xs.length i with
      | none => rw [hj] at p3; exact p3.elim
      | some j =>
        rw [hj] at p3
        exact ⟨q, zs, i, j, rfl, rfl, hH, by rw [← rz.len]; exact hj, Post.ok p3 (Evo.wr w3 hq) (w3.wr hq (.lst (rz.set ((rv.evo e2).evo e3) j))) σ ((((e.evo e1).evo e2).evo e3).evo (Evo.wr w3 hq))⟩
    · exact p3.elim
  · exact p3.elim
theorem js_putA (hu : X.A.units + 1 < cLine) (ho : JE X cl W o td) (hi : JE X cl W i ty) (hv : JE X cl W value tv) (hs : swapsWith value (some (.Subscript o i pos')) pos.line X.env = pure false := by rfl) (ha : ∀ v, assign (.Subscript o i pos') X.env v = (do
      let ov ← holding [v] (eval o X.env)
      let iv ← holding [v, ov] (eval i X.env)
      standAt pos'
      holding [v, ov, iv] (setItem ov iv v)
      release [v, ov, iv] []) := by intro _; rfl) (hs' : swapsWithSole [.Subscript o i pos'] value pos.line X.env = pure false := by rfl) (hw : swappedStores [.Subscript o i pos'] value X.env = pure none := by rfl)
    (h1 : (assignEach [.Subscript o i pos'] X.env).map (·.2) = [assign (.Subscript o i pos') X.env] := by rfl) : JS X cl W (.Assign [.Subscript o i pos'] value pos) (dPutA td ty tv) := by
  refine JS.or (js_dput hu ho hi hv hs) (js_setL ho hi hv ha hs' hw h1) fun τ st => ?_
  unfold dPutA dPutS dSetL
  cases tv τ st with
  | bad => exact .inr (.inr rfl)
  | exc x st => exact .inl rfl
  | ok v st1 =>
    show (td τ st1).stm _ _ = (td τ st1).stm _ _ ∨ (td τ st1).stm _ _ = (td τ st1).stm _ _ ∨ (td τ st1).stm _ _ = _
    cases td τ st1 with
    | bad => exact .inr (.inr rfl)
    | exc x st => exact .inl rfl
    | ok x st2 =>
      show (ty τ st2).stm _ _ = (ty τ st2).stm _ _ ∨ (ty τ st2).stm _ _ = (ty τ st2).stm _ _ ∨ (ty τ st2).stm _ _ = _
      cases ty τ st2 with
      | bad => exact .inr (.inr rfl)
      | exc x st => exact .inl rfl
      | ok y st3 =>
        rcases ite_or (c := (dicOf x st3).isSome = true) (sPutK x y v τ st3) (sSetL x y v τ st3) with q | q
        · exact .inl q
        · exact .inr (.inl q)
/-- what a for walks: a list, a tuple, a text -/
def iAny (t : DE) : DI := fun τ st => (t τ st).bind fun d st => match d with
  | .lst ds => .ok ds st
  | .fro ds => .ok ds st
  | .tup ds => .ok ds st
  | .str x => .ok (x.cps.toList.map fun c => .str ⟨#[c]⟩) st
  | _ => .bad
theorem ji_any {tg e : Expr} {te : DE} (he : JE X cl W e te) : JI X cl W tg e (iAny te) := by
  refine JI.or (t2 := fun τ st => if (match te τ st with | .ok (.tup _) _ => true | _ => false) = true then iTupD te τ st else iStrD te τ st) (ji_seq he) (JI.or (ji_tup he) (ji_str he) fun τ st => (ite_or _ _).elim .inl fun h => .inr (.inl h)) fun τ st => ?_
  unfold iAny iSeq iTupD iStrD
  cases te τ st with
  | bad => exact .inl rfl
  | exc x st => exact .inl rfl
  | ok d st1 =>
    cases d with
    | tup ds => exact .inr (.inl rfl)
    | str x => exact .inr (.inl rfl)
    | _ => exact .inl rfl
end

/-! ### what a def has left behind -/
mutual
def D.wf (n : Nat) : D → Bool
  | .ref k => decide (k < n)
  | .tup ds => wfs n ds
  | .lst ds => wfs n ds
  | .fro ds => wfs n ds
  | .dic kvs => wfk n kvs
  | _ => true
def wfs (n : Nat) : List D → Bool
  | [] => true
  | d :: ds => d.wf n && wfs n ds
def wfk (n : Nat) : List (Key × D) → Bool
  | [] => true
  | (_, d) :: ds => d.wf n && wfk n ds
end
def wff {κ : Type} (n : Nat) : List (κ × D) → Bool
  | [] => true
  | (_, d) :: ds => d.wf n && wff n ds
def Ob.wf (n : Nat) : Ob → Bool
  | .lst ds => wfs n ds
  | .dK kvs => wff n kvs
  | .dT kvs => wff n kvs
  | .ins _ fs => wff n fs
section
variable {K : PySem.W.Frag} {cl : Cl} {as as' : Mp} {H : Hp} {n : Nat}
mutual
theorem Rep.wf : ∀ {d : D} {v : V}, Rep K as H d v → d.wf as.m.length = true
  | _, _, .non => rfl
  | _, _, .bl b => rfl
  | _, _, .int i => rfl
  | _, _, .str x => rfl
  | _, _, .tup s r => Reps.wf r
  | _, _, .lst m h r => Reps.wf r
  | _, _, .fro s r => Reps.wf r
  | _, _, .dic m h r => RepK.wf r
  | _, _, .ref h => decide_eq_true (List.getElem?_eq_some_iff.mp h).1
  | _, _, .raw v => rfl
theorem Reps.wf : ∀ {ds : List D} {vs : List V}, Reps K as H ds vs → wfs as.m.length ds = true
  | _, _, .nil => rfl
  | _, _, .cons r t => by unfold wfs; rw [Rep.wf r, Reps.wf t]; rfl
theorem RepK.wf : ∀ {ds : List (Key × D)} {vs : List (Key × V)}, RepK K as H ds vs → wfk as.m.length ds = true
  | _, _, .nil => rfl
  | _, _, .cons r t => by unfold wfk; rw [Rep.wf r, RepK.wf t]; rfl
end
theorem RepF.wf {κ : Type} : ∀ {ds : List (κ × D)} {vs : List (κ × V)}, RepF K as H ds vs → wff as.m.length ds = true
  | _, _, .nil => rfl
  | _, _, .cons r t => by unfold wff; rw [r.wf, RepF.wf t]; rfl
theorem RepT.wf : ∀ {ds : List (List Key × D)} {vs : List (List Key × Addr × Value)}, RepT K as H ds vs → wff as.m.length ds = true
  | _, _, .nil => rfl
  | _, _, .cons s r v t => by unfold wff; rw [r.wf, RepT.wf t]; rfl
theorem RepO.wf : ∀ {o : Ob} {h : HO}, RepO K cl as H o h → o.wf as.m.length = true
  | _, _, .lst r => r.wf
  | _, _, .dK r => r.wf
  | _, _, .dT k r => r.wf
  | _, _, .ins r => r.wf
/-- the first n of the store -/
structure CutM (as' as : Mp) (n : Nat) : Prop where
  m : as'.m = as.m.take n
  x : as'.x = as.x
theorem CutM.out (c : CutM as' as n) {a : Addr} (h : a ∉ as) : a ∉ as' := fun z => z.elim (fun z => h (.inl (by rw [c.m] at z; exact List.mem_of_mem_take z))) fun z => h (.inr (by rw [← c.x]; exact z))
theorem StT.cut (c : CutM as' as n) {a : Addr} {xs : List V} (h : StT K as H a xs) : StT K as' H a xs := h.imp (fun z => ⟨c.out z.1, z.2⟩) id
theorem StF.cut (c : CutM as' as n) {a : Addr} {xs : List V} (h : StF K as H a xs) : StF K as' H a xs := h.imp (fun z => ⟨c.out z.1, z.2⟩) id
mutual
theorem Rep.cut (c : CutM as' as n) : ∀ {d : D} {v : V}, Rep K as H d v → d.wf n = true → Rep K as' H d v
  | _, _, .non, _ => .non
  | _, _, .bl b, _ => .bl b
  | _, _, .int i, _ => .int i
  | _, _, .str x, _ => .str x
  | _, _, .tup s r, h => .tup (s.cut c) (Reps.cutW c r h)
  | _, _, .lst m q r, h => .lst (c.out m) q (Reps.cutW c r h)
  | _, _, .fro s r, h => .fro (s.cut c) (Reps.cutW c r h)
  | _, _, .dic m q r, h => .dic (c.out m) q (RepK.cut c r h)
  | _, _, .ref q, h => .ref (by rw [c.m, List.getElem?_take_of_lt (of_decide_eq_true h)]; exact q)
  | _, _, .raw v, _ => .raw v
theorem Reps.cutW (c : CutM as' as n) : ∀ {ds : List D} {vs : List V}, Reps K as H ds vs → wfs n ds = true → Reps K as' H ds vs
  | _, _, .nil, _ => .nil
  | _, _, .cons r t, h => by
    unfold wfs at h
    rw [Bool.and_eq_true_iff] at h
    exact .cons (Rep.cut c r h.1) (Reps.cutW c t h.2)
theorem RepK.cut (c : CutM as' as n) : ∀ {ds : List (Key × D)} {vs : List (Key × V)}, RepK K as H ds vs → wfk n ds = true → RepK K as' H ds vs
  | _, _, .nil, _ => .nil
  | _, _, .cons r t, h => by
    unfold wfk at h
    rw [Bool.and_eq_true_iff] at h
    exact .cons (Rep.cut c r h.1) (RepK.cut c t h.2)
end
theorem RepF.cut {κ : Type} (c : CutM as' as n) : ∀ {ds : List (κ × D)} {vs : List (κ × V)}, RepF K as H ds vs → wff n ds = true → RepF K as' H ds vs
  | _, _, .nil, _ => .nil
  | _, _, .cons r t, h => by
    unfold wff at h
    rw [Bool.and_eq_true_iff] at h
    exact .cons (r.cut c h.1) (RepF.cut c t h.2)
theorem RepT.cut (c : CutM as' as n) : ∀ {ds : List (List Key × D)} {vs : List (List Key × Addr × Value)}, RepT K as H ds vs → wff n ds = true → RepT K as' H ds vs
  | _, _, .nil, _ => .nil
  | _, _, .cons s r v t, h => by
    unfold wff at h
    rw [Bool.and_eq_true_iff] at h
    exact .cons (s.cut c) (r.cut c h.1) v (RepT.cut c t h.2)
theorem RepO.cut (c : CutM as' as n) : ∀ {o : Ob} {h : HO}, RepO K cl as H o h → o.wf n = true → RepO K cl as' H o h
  | _, _, .lst r, h => .lst (r.cutW c h)
  | _, _, .dK r, h => .dK (r.cut c h)
  | _, _, .dT k r, h => .dT k (r.cut c h)
  | _, _, .ins r, h => .ins (r.cut c h)
end
/-- the result as it is handed on -/
inductive Cut (n : Nat) (st : Sto) : D → D → Prop
  | same {d : D} : d.wf n = true → Cut n st d d
  | fix {k : Nat} {ds : List D} : n ≤ k → st[k]? = some (.lst ds) → wfs n ds = true → Cut n st (.ref k) (.lst ds)
  | fixK {k : Nat} {kvs : List (Key × D)} : n ≤ k → st[k]? = some (.dK kvs) → wfk n kvs = true → Cut n st (.ref k) (.dic kvs)
/-- the store keeps what stood there, or things that lean on nothing that is forgotten -/
def Kept (st st' : Sto) : Prop := st.length ≤ st'.length ∧ ∀ (i : Nat) (o : Ob), st'[i]? = some o → st[i]? = some o ∨ o.wf st'.length = true
theorem Kept.refl (st : Sto) : Kept st st := ⟨Nat.le_refl _, fun _ _ h => .inl h⟩
section
variable {P : Program} {w : World} {K : PySem.W.Frag} {mg : Str → Option Value} {base : Heap} {cl : Cl}
theorem Wd.cut {as as1 : Mp} {st st' g : Sto} {H H1 : Hp} (k : Kept st st') (w0 : Wd K cl as st H) (e : Evo as H as1 H1) (w1 : Wd K cl as1 (st' ++ g) H1) :
    CutM ⟨as1.m.take st'.length, as1.x⟩ as1 st'.length ∧ Evo as H ⟨as1.m.take st'.length, as1.x⟩ H1 ∧ Wd K cl ⟨as1.m.take st'.length, as1.x⟩ st' H1 := by
  have c : CutM ⟨as1.m.take st'.length, as1.x⟩ as1 st'.length := ⟨rfl, rfl⟩
  have hl : as1.m.length = st'.length + g.length := by rw [w1.len, List.length_append]
  obtain ⟨bs, h1, h2⟩ := e.ext
  have h0 : as.m.length = st.length := w0.len
  have hk := k.1
  refine ⟨c, ⟨⟨bs.take (st'.length - st.length), ?_, fun b hb => h2 b (List.mem_of_mem_take hb)⟩, e.exx, e.kx, e.keep, e.live⟩, ?_, ?_, ?_, ?_, ?_⟩
  · show as1.m.take st'.length = _
    rw [h1, List.take_append, h0, List.take_of_length_le (by omega)]
  · show (as1.m.take st'.length).length = _
    rw [List.length_take]; omega
  · exact w1.nd.sublist (List.take_sublist _ _)
  · exact fun a ha => w1.sep a (List.mem_of_mem_take ha)
  · exact w1.lv
  · intro n o hn
    have hlt : n < st'.length := (List.getElem?_eq_some_iff.mp hn).1
    obtain ⟨a, u, q1, q2, q3⟩ := w1.ob n o (by rw [List.getElem?_append_left hlt]; exact hn)
    refine ⟨a, u, by show (as1.m.take st'.length)[n]? = _; rw [List.getElem?_take_of_lt hlt]; exact q1, q2, q3.cut c ?_⟩
    rcases k.2 n o hn with z | z
    · obtain ⟨b, v, r1, r2, r3⟩ := w0.ob n o z
      have := r3.wf
      have mono : ∀ {m : Nat}, m ≤ st'.length → o.wf m = true → o.wf st'.length = true := by
        intro m hm
        have D1 : ∀ d : D, d.wf m = true → d.wf st'.length = true := by
          intro d
          apply D.rec (motive_1 := fun d => d.wf m = true → d.wf st'.length = true) (motive_2 := fun ds => wfs m ds = true → wfs st'.length ds = true) (motive_3 := fun ks => wfk m ks = true → wfk st'.length ks = true) (motive_4 := fun kd => kd.2.wf m = true → kd.2.wf st'.length = true)
          case non => exact fun h => h
          case bl => exact fun b h => h
          case int => exact fun b h => h
          case str => exact fun b h => h
          case tup => exact fun ds ih h => ih h
          case lst => exact fun ds ih h => ih h
          case fro => exact fun ds ih h => ih h
          case dic => exact fun ds ih h => ih h
          case ref => exact fun k h => decide_eq_true (Nat.lt_of_lt_of_le (of_decide_eq_true h) hm)
          case raw => exact fun v h => h
          case nil => exact fun h => h
          case cons =>
            intro d ds i1 i2 h
            unfold wfs at h ⊢
            rw [Bool.and_eq_true_iff] at h ⊢
            exact ⟨i1 h.1, i2 h.2⟩
          case nil => exact fun h => h
          case cons =>
            intro d ds i1 i2 h
            obtain ⟨k, d⟩ := d
            unfold wfk at h ⊢
            rw [Bool.and_eq_true_iff] at h ⊢
            exact ⟨i1 h.1, i2 h.2⟩
          case mk => exact fun k d ih h => ih h
        have Ds : ∀ ds : List D, wfs m ds = true → wfs st'.length ds = true := by
          intro ds
          induction ds with
          | nil => exact fun h => h
          | cons d ds ih =>
            intro h
            unfold wfs at h ⊢
            rw [Bool.and_eq_true_iff] at h ⊢
            exact ⟨D1 d h.1, ih h.2⟩
        have Df : ∀ {κ : Type} (ds : List (κ × D)), wff m ds = true → wff st'.length ds = true := by
          intro κ ds
          induction ds with
          | nil => exact fun h => h
          | cons d ds ih =>
            obtain ⟨k, d⟩ := d
            intro h
            unfold wff at h ⊢
            rw [Bool.and_eq_true_iff] at h ⊢
            exact ⟨D1 d h.1, ih h.2⟩
        cases o with
        | lst ds => exact Ds ds
        | dK ds => exact Df ds
        | dT ds => exact Df ds
        | ins c fs => exact Df fs
      exact mono (by omega) this
    · exact z
theorem wfk_f {n : Nat} : ∀ {ds : List (Key × D)}, wfk n ds = true → wff n ds = true
  | [], _ => rfl
  | (_, d) :: ds, h => by
    unfold wfk at h
    unfold wff
    rw [Bool.and_eq_true_iff] at h ⊢
    exact ⟨h.1, wfk_f h.2⟩
/-- a def's promise by a plain function that forgets what was made on the way -/
theorem FnD.trim {k : Nat} {f : Addr} {fd : FuncData} {ps : List Str} {F G : DF} (h : FnD P w K mg base cl k f fd ps F)
    (hg : ∀ ds st, (∀ d st', G ds st = .ok d st' → ∃ d0 g, F ds st = .ok d0 (st' ++ g) ∧ Cut st'.length (st' ++ g) d0 d ∧ Kept st st') ∧
      (∀ x st', G ds st = .exc x st' → ∃ g, F ds st = .exc x (st' ++ g) ∧ wff st'.length x.fs = true ∧ Kept st st')) : FnD P w K mg base cl k f fd ps G :=
  FnQ.imp h fun vs H Q E ⟨as, st, ds, wd, r, p⟩ => ⟨as, st, ds, wd, r, by
    cases hG : G ds st with
    | bad => rw [hG] at p; exact p.elim
    | exc x st' =>
      rw [hG] at p
      obtain ⟨g, h1, h2, h3⟩ := (hg ds st).2 x st' hG
      rw [h1]
      intro u dx as1 H1 e1 w1 rx
      obtain ⟨c, e2, w2⟩ := Wd.cut h3 wd e1 w1
      refine p u dx _ H1 e2 w2 ?_
      obtain ⟨q1, q2⟩ := rx
      exact ⟨q1, q2.imp id fun ⟨d, fx, z1, z2, z3, z4⟩ => ⟨d, fx, z1, c.out z2, z3, z4.cut c h2⟩⟩
    | ok d st' =>
      rw [hG] at p
      obtain ⟨d0, g, h1, h2, h3⟩ := (hg ds st).1 d st' hG
      rw [h1]
      intro as1 H1 e1 w1 v rv
      obtain ⟨c, e2, w2⟩ := Wd.cut h3 wd e1 w1
      refine p _ H1 e2 w2 v ?_
      cases h2 with
      | same hw => exact rv.cut c hw
      | fix hk hs hw =>
        obtain ⟨a, rfl, ha⟩ := rv.refAt
        obtain ⟨xs, hH, rs⟩ := w1.lst ha hs
        refine .lst (fun z => ?_) hH (rs.cutW c hw)
        rcases z with z | z
        · obtain ⟨i, hi, e⟩ := List.getElem_of_mem z
          have hi' : i < st'.length := by
            have := hi
            simp only [List.length_take] at this
            omega
          have ei : as1.m[i]? = some a := by
            rw [← e]
            simp only [List.getElem_take]
            rw [List.getElem?_eq_getElem]
          have := nd_ix w1.nd ei ha
          omega
        · exact w1.sep a (List.mem_of_getElem? ha) z
      | fixK hk hs hw =>
        obtain ⟨a, rfl, ha⟩ := rv.refAt
        obtain ⟨xs, hH, rs⟩ := w1.dK ha hs
        refine .dic (fun z => ?_) hH ((rs.cut c (wfk_f hw)).k)
        rcases z with z | z
        · obtain ⟨i, hi, e⟩ := List.getElem_of_mem z
          have hi' : i < st'.length := by
            have := hi
            simp only [List.length_take] at this
            omega
          have ei : as1.m[i]? = some a := by
            rw [← e]
            simp only [List.getElem_take]
            rw [List.getElem?_eq_getElem]
          have := nd_ix w1.nd ei ha
          omega
        · exact w1.sep a (List.mem_of_getElem? ha) z⟩
end

/-! ### the law's end -/
/-- the law hands back True -/
def LawOk (F : DF) : Prop := ∀ ns : List Int, ns.length ≤ 63 → (∀ z ∈ ns, Builtin.Int.intBits z ≤ 1048576) → ∃ st, F [.fro (ns.map .int)] [] = .ok (.bl true) st
theorem reps_ints {K : PySem.W.Frag} {as : Mp} {H : Hp} : ∀ ns : List Int, Reps K as H (ns.map D.int) (ns.map V.int)
  | [] => .nil
  | n :: ns => .cons (.int n) (reps_ints ns)
theorem walk_dl {l : PySem.W.OpenLaw} {k : Nat} {q : Program} {loose : List Str} {XP : (Str → Option Value) → Heap → Prop} {YP : World → Heap → Prop} {d : DefRec} {K : Params → PySem.W.Frag} {x : Str} {F : DF}
    (hn : l.most = some 63) (hdf : d.params.defaults = []) (hr : Room (k / 3 + 2) callerA) (hY : ∀ (w : World) (h : Heap), YP w h → (K w.params).In h)
    (hF : ∀ (w : World) (mg : Str → Option Value) (fa : Addr) (h : Heap), (K w.params).In h → h.Ns mainGlobals mg → mg d.name = some (.ref fa) →
      ∃ (fd : FuncData) (cl : Cl), (∀ (s : Shared) (u : Value), BindsTo s fd ⟨[u], []⟩ [(x, u)]) ∧
        ∀ base : Heap, (K w.params).In base → base.Ns mainGlobals mg → FnD l.prog w (K w.params) mg base cl k fa fd [x] F)
    (hl : LawOk F) : PySem.W.WalkO q loose XP YP l.row.toRowW d [] (fun f vs => PySem.call f vs) := by
  refine L2.walk_ofB (n := 63) (k := k / 3 + 2) (x := x) (CX := fun w => L2.CX l.prog w) (sp := fun w => fun vs H Q E => ∃ (a : Addr) (ns : List Int), vs = [.ref a] ∧ ns.length ≤ 63 ∧ (∀ z ∈ ns, Builtin.Int.intBits z ≤ 1048576) ∧ Only H ∧ SqL (K w.params) H a (ns.map V.int) ∧ ∀ H', Q (.bl true) H') hn (by decide) hdf hr hY
    (fun w mg fa h KX G hm => ?_) (fun w H a ns h1 h2 h3 h4 => ⟨a, ns, rfl, h1, h2, h3, h4, fun _ => rfl⟩) fun w H s e s' hc => by
      obtain ⟨_, _, _, _, _, _, _, _, _, _, _, _, z⟩ := hc
      exact z.elim
  obtain ⟨fd, cl, hb, G2⟩ := hF w mg fa h KX G hm
  refine ⟨fd, hb, fun base hB hN => FnOk.imp (FnQ.ok (G2 base hB hN) (by omega)) fun vs H Q E hv => ?_⟩
  obtain ⟨a, ns, rfl, h1, h2, h3, h4, q⟩ := hv
  obtain ⟨st, hst⟩ := hl ns h1 h2
  refine ⟨⟨[], []⟩, [], [.fro (ns.map .int)], ⟨rfl, List.nodup_nil, (fun a z => by cases z), (fun a z => by cases z), fun n o z => by simp at z⟩, .cons (.fro ?_ (reps_ints ns)) .nil, ?_⟩
  · rcases h4 with (z | ⟨o, z⟩) | z
    · rcases h3 a with y | ⟨o, xs, y⟩
      · rw [y] at z; cases z
      · rw [y] at z; cases z
    · exact .inl ⟨(fun y => by rcases y with y | y <;> (simp at y)), o, z⟩
    · exact .inr z
  · rw [hst]
    intro as' H' _ _ v rv
    cases rv
    exact q H'
end DL

/-! DL8: contexts, names of built-ins, zip and enumerate, what a printed proof leans on. -/
namespace DL
open PySem PySem.Spec PyProof.Rows L2

/-! ### contexts -/
section
variable {P : Program} {w : World} {K : PySem.W.Frag} {mg : Str → Option Value} {base : Heap} {N : List Str} {qual : Str} {sc : Scope} {f : Addr} {cdv : Value} {A : Around} {outer : List Env} {s : Shared} {H : Hp} {E : XK}
theorem pass_def : ∀ σ, PassesAt (L2.CX P w) (cxOf (L2.CX P w) P w K mg base N qual sc f cdv A outer s H E) σ (WE (Wk E) σ) := fun σ => passAt (X := cxOf (L2.CX P w) P w K mg base N qual sc f cdv A outer s H E) (takes_of rfl rfl rfl rfl) σ
theorem cx_def : CxOk (cxOf (L2.CX P w) P w K mg base N qual sc f cdv A outer s H E) (Wk E) := ⟨rfl, pass_def, passes_of rfl⟩
end
section
variable {X : Cx} {s : Shared} {H : Hp} {scope : Scope} {cenv : Env} {fp : List Addr}
theorem pass_blk : ∀ σ, PassesAt (L2.CX X.prog X.w) (X.blk s H scope cenv fp) σ (WE W0 σ) := fun σ _ _ _ _ _ _ h => by
  obtain ⟨_, _, _, _, _, _, _, _, _, _, _, _, z⟩ := h
  exact z.elim
theorem cx_blk (h : X.calm = true) : CxOk (X.blk s H scope cenv fp) W0 := ⟨h, pass_blk, PassesOwn.never⟩
end
theorem Room.u65 {k : Nat} {A : Around} (h : Rm k A) : A.units + 65 < cLine := by have := h.un; omega
theorem Room.u64 {k : Nat} {A : Around} (h : Rm k A) : A.units + 64 < cLine := by have := h.un; omega
theorem Room.u1 {k : Nat} {A : Around} (h : Rm k A) : A.units + 1 < cLine := by have := h.un; omega

/-! ### names -/
theorem bb_len : bootBuiltins "len" = some (.builtin "len") := by decide +kernel
theorem bb_abs : bootBuiltins "abs" = some (.builtin "abs") := by decide +kernel
theorem bb_min : bootBuiltins "min" = some (.builtin "min") := by decide +kernel
theorem bb_max : bootBuiltins "max" = some (.builtin "max") := by decide +kernel
theorem bb_sum : bootBuiltins "sum" = some (.builtin "sum") := by decide +kernel
theorem bb_any : bootBuiltins "any" = some (.builtin "any") := by decide +kernel
theorem bb_all : bootBuiltins "all" = some (.builtin "all") := by decide +kernel
theorem bb_sorted : bootBuiltins "sorted" = some (.builtin "sorted") := by decide +kernel
theorem bb_isinstance : bootBuiltins "isinstance" = some (.builtin "isinstance") := by decide +kernel
theorem bb_int : bootBuiltins "int" = some (.type "int") := by decide +kernel
theorem bb_bool : bootBuiltins "bool" = some (.type "bool") := by decide +kernel
theorem bb_str : bootBuiltins "str" = some (.type "str") := by decide +kernel
theorem bb_tuple : bootBuiltins "tuple" = some (.type "tuple") := by decide +kernel
theorem bb_list : bootBuiltins "list" = some (.type "list") := by decide +kernel
theorem bb_dict : bootBuiltins "dict" = some (.type "dict") := by decide +kernel
theorem bb_set : bootBuiltins "set" = some (.type "set") := by decide +kernel
/-- a def of the text, as callers see it -/
structure DefAt (K : PySem.W.Frag) (mg : Str → Option Value) (x : Str) (f : Addr) (fd : FuncData) (ps : List Str) : Prop where
  mgf : mg x = some (.ref f)
  kp : PySem.W.keepIn K (.ref f) = true
  bi : Binds K fd ps []
section
variable {X : Cx} {cl : Cl} {W : WX}
/-- a built-in type as a value -/
theorem j_ty {x : Str} {pos : Pos} {T : String} (hg : Gl X x) (hm : X.mg x = none) (hv : bootBuiltins x = some (.type T)) (hn : x ≠ "__name__" := by decide) (hd : (x == ("__debug__" : Str)) = false := by decide) : JE X cl W (.Name x pos) (dC (.raw (.ty T))) :=
  j_c (pe_bltn (v := .ty T) hg hm hv rfl hn hd) fun _ _ => .raw _
/-- a name of the module that holds a thing written there -/
structure ConstAt (K : PySem.W.Frag) (mg : Str → Option Value) (x : Str) (d : D) : Prop where
  ex : ∃ (u : Value) (v : V), mg x = some u ∧ RelV v u ∧ ∀ as H, Rep K as H d v
theorem j_const {x : Str} {pos : Pos} {d : D} (hg : Gl X x) (c : ConstAt X.K X.mg x d) (hd : (x == ("__debug__" : Str)) = false := by decide) : JE X cl W (.Name x pos) (dC d) := by
  obtain ⟨u, v, h1, h2, h3⟩ := c.ex
  exact j_c (pe_glob hg h1 h2 hd) h3
theorem ConstAt.int {K : PySem.W.Frag} {mg : Str → Option Value} {x : Str} {i : Int} {t : Tok} (h : mg x = some (.int i t)) : ConstAt K mg x (.int i) := ⟨_, .int i, h, ⟨t, rfl⟩, fun _ _ => .int i⟩
theorem ConstAt.str {K : PySem.W.Frag} {mg : Str → Option Value} {x : Str} {i : Str} {t : Tok} (h : mg x = some (.str i t)) : ConstAt K mg x (.str i) := ⟨_, .str i, h, ⟨t, rfl⟩, fun _ _ => .str i⟩
end
mutual
/-- how a thing of the text lies in its written part -/
inductive KRep (K : PySem.W.Frag) : D → Value → Prop
  | non : KRep K .non .none
  | bl (b : Bool) : KRep K (.bl b) (.bool b)
  | int (i : Int) (t : Tok) : KRep K (.int i) (.int i t)
  | str (x : Str) (t : Tok) : KRep K (.str x) (.str x t)
  | tup {a : Addr} {ds : List D} {o : Obj} {its : List Value} {n : Nat} : K.lookup a = some o → o.cls = .type "tuple" → o.data = .seq its.toArray n → its.length ≤ sizeLine → KReps K ds its → KRep K (.tup ds) (.ref a)
inductive KReps (K : PySem.W.Frag) : List D → List Value → Prop
  | nil : KReps K [] []
  | cons {d : D} {u : Value} {ds : List D} {us : List Value} : KRep K d u → KReps K ds us → KReps K (d :: ds) (u :: us)
end
mutual
theorem KRep.go {K : PySem.W.Frag} : ∀ {d : D} {u : Value}, KRep K d u → ∃ v, RelV v u ∧ ∀ as H, Rep K as H d v
  | _, _, .non => ⟨.non, rfl, fun _ _ => .non⟩
  | _, _, .bl b => ⟨.bl b, rfl, fun _ _ => .bl b⟩
  | _, _, .int i t => ⟨.int i, ⟨t, rfl⟩, fun _ _ => .int i⟩
  | _, _, .str x t => ⟨.str x, ⟨t, rfl⟩, fun _ _ => .str x⟩
  | _, _, .tup (a := a) (its := its) h1 h2 h3 h4 h5 => by
    obtain ⟨xs, r, hr⟩ := KReps.go h5
    exact ⟨.ref a, rfl, fun as H => .tup (.inr ⟨_, its.toArray, _, h1, h2, h3, by simpa using h4, by simpa using r⟩) (hr as H)⟩
theorem KReps.go {K : PySem.W.Frag} : ∀ {ds : List D} {us : List Value}, KReps K ds us → ∃ xs, Vals xs us ∧ ∀ as H, Reps K as H ds xs
  | _, _, .nil => ⟨[], .nil, fun _ _ => .nil⟩
  | _, _, .cons h t => by
    obtain ⟨v, r, q⟩ := KRep.go h
    obtain ⟨vs, rs, qs⟩ := KReps.go t
    exact ⟨v :: vs, .cons r rs, fun as H => .cons (q as H) (qs as H)⟩
end
theorem ConstAt.of {K : PySem.W.Frag} {mg : Str → Option Value} {x : Str} {d : D} {u : Value} (h : mg x = some u) (r : KRep K d u) : ConstAt K mg x d :=
  let ⟨v, h1, h2⟩ := r.go
  ⟨u, v, h, h1, h2⟩
section
variable {X : Cx} {cl : Cl} {W : WX}
/-! ### zip, enumerate -/
def zipD : List D → List D → List D
  | x :: xs, y :: ys => .tup [x, y] :: zipD xs ys
  | _, _ => []
def iZipD (t : DA) : DI := fun τ st => (t τ st).bind fun ds st => match ds with
  | [.tup xs, .tup ys] => .ok (zipD xs ys) st
  | [.lst xs, .lst ys] => .ok (zipD xs ys) st
  | _ => .bad
theorem zipD_get : ∀ {xs ys : List D} {i : Nat}, (∃ x y, xs[i]? = some x ∧ ys[i]? = some y ∧ (zipD xs ys)[i]? = some (.tup [x, y])) ∨ ((xs.length ≤ i ∨ ys.length ≤ i) ∧ (zipD xs ys).length ≤ i)
  | [], ys, i => .inr ⟨.inl (Nat.zero_le _), by cases ys <;> exact Nat.zero_le _⟩
  | _ :: _, [], i => .inr ⟨.inr (Nat.zero_le _), Nat.zero_le _⟩
  | x :: xs, y :: ys, 0 => .inl ⟨x, y, rfl, rfl, rfl⟩
  | x :: xs, y :: ys, i + 1 => (zipD_get (xs := xs) (ys := ys) (i := i)).imp (fun ⟨a, b, h1, h2, h3⟩ => ⟨a, b, by simpa using h1, by simpa using h2, by simpa [zipD] using h3⟩) fun ⟨h1, h2⟩ => ⟨h1.imp (by simp) (by simp), by simpa [zipD] using h2⟩
theorem walk_zipT {K : PySem.W.Frag} {as : Mp} {H : Hp} {a b : Addr} {xs ys : List V} {ds es : List D} (ha : ∀ as' H', Mv as H as' H' → SqT K H' a xs) (hb : ∀ as' H', Mv as H as' H' → SqT K H' b ys) (ra : Reps K as H ds xs) (rb : Reps K as H es ys) :
    Walk K cl as H (RZ.ItzT K a b) (zipD ds es) where
  go := fun i as' H' e hi => by
    rcases zipD_get (xs := ds) (ys := es) (i := i) with ⟨x, y, h1, h2, h3⟩ | ⟨h1, h2⟩
    · obtain ⟨v, q1, _⟩ := ra.get h1
      obtain ⟨u, q2, _⟩ := rb.get h2
      exact ⟨xs, ys, v, u, ha _ _ e, hb _ _ e, q1, q2⟩
    · omega
  yld := fun i as' st' H' x H'' hi e w y => by
    obtain ⟨T, v, u, rfl, hT, rfl, h1, h2⟩ := y
    have q1 := h1 xs (ha _ _ e)
    have q2 := h2 ys (hb _ _ e)
    rcases zipD_get (xs := ds) (ys := es) (i := i) with ⟨dx, dy, z1, z2, z3⟩ | ⟨z1, z2⟩
    · obtain ⟨v', q3, r1⟩ := ra.get z1
      obtain ⟨u', q4, r2⟩ := rb.get z2
      rw [q1] at q3; rw [q2] at q4
      cases q3; cases q4
      exact ⟨_, z3, .inr ⟨T, _, hT, rfl⟩, Rep.newT w hT (.cons (r1.mv e) (.cons (r2.mv e) .nil))⟩
    · omega
  stop := fun i as' H' e hi => by
    rcases zipD_get (xs := ds) (ys := es) (i := i) with ⟨dx, dy, z1, z2, z3⟩ | ⟨z1, z2⟩
    · rw [List.getElem?_eq_none hi] at z3; cases z3
    · exact ⟨xs, ys, ha _ _ e, hb _ _ e, z1.imp (by rw [ra.len]; exact id) (by rw [rb.len]; exact id)⟩
theorem walk_zipL {K : PySem.W.Frag} {as : Mp} {H : Hp} {a b : Addr} {xs ys : List V} {ds es : List D} (ha : ∀ as' H', Mv as H as' H' → SqL K H' a xs) (hb : ∀ as' H', Mv as H as' H' → SqL K H' b ys) (ra : Reps K as H ds xs) (rb : Reps K as H es ys) :
    Walk K cl as H (Itz K a b) (zipD ds es) where
  go := fun i as' H' e hi => by
    rcases zipD_get (xs := ds) (ys := es) (i := i) with ⟨x, y, h1, h2, h3⟩ | ⟨h1, h2⟩
    · obtain ⟨v, q1, _⟩ := ra.get h1
      obtain ⟨u, q2, _⟩ := rb.get h2
      exact ⟨xs, ys, v, u, ha _ _ e, hb _ _ e, q1, q2⟩
    · omega
  yld := fun i as' st' H' x H'' hi e w y => by
    obtain ⟨T, v, u, rfl, hT, rfl, h1, h2⟩ := y
    have q1 := h1 xs (ha _ _ e)
    have q2 := h2 ys (hb _ _ e)
    rcases zipD_get (xs := ds) (ys := es) (i := i) with ⟨dx, dy, z1, z2, z3⟩ | ⟨z1, z2⟩
    · obtain ⟨v', q3, r1⟩ := ra.get z1
      obtain ⟨u', q4, r2⟩ := rb.get z2
      rw [q1] at q3; rw [q2] at q4
      cases q3; cases q4
      exact ⟨_, z3, .inr ⟨T, _, hT, rfl⟩, Rep.newT w hT (.cons (r1.mv e) (.cons (r2.mv e) .nil))⟩
    · omega
  stop := fun i as' H' e hi => by
    rcases zipD_get (xs := ds) (ys := es) (i := i) with ⟨dx, dy, z1, z2, z3⟩ | ⟨z1, z2⟩
    · rw [List.getElem?_eq_none hi] at z3; cases z3
    · exact ⟨xs, ys, ha _ _ e, hb _ _ e, z1.imp (by rw [ra.len]; exact id) (by rw [rb.len]; exact id)⟩
theorem ji_zip {e e2 : Expr} {t : DA} {p pos tpos : Pos} {elts : List Expr} {kk : Nat} (hg : Gl X "zip") (hm : X.mg "zip" = none) (ha : JA X cl W [e, e2] t)
    (hs : starEach [e, e2] X.env = (false, eval e X.env) :: starEach [e2] X.env := by rfl) (hpl : (backTo pos (starEach [e2] X.env)).any (·.1) = false := by rfl) :
    JI X cl W (.Tuple elts kk tpos) (.Call (.Name "zip" p) [e, e2] [] pos) (iZipD t) := by
  refine PI.mono (RZ.pi_zipA hg hm ha hs hpl) fun σ H Q ⟨as, st, τ, w, e, p⟩ => ⟨as, st, τ, w, e, p.bind.mono fun ds st1 as1 H1 e1 w1 p1 vs rv => ?_⟩
  split at p1
  · obtain ⟨v, u, rfl, r1, r2⟩ := rv.two
    cases r1 with
    | tup s1 r1 =>
      cases r2 with
      | tup s2 r2 => exact ⟨_, _, _, _, rfl, .inr ⟨s1.t, s2.t, p1.here w1 _ (walk_zipT (fun as' H' f => (s1.mv f).t) (fun as' H' f => (s2.mv f).t) r1 r2)⟩⟩
  · obtain ⟨v, u, rfl, r1, r2⟩ := rv.two
    cases r1 with
    | lst n1 h1 r1 =>
      cases r2 with
      | lst n2 h2 r2 => exact ⟨_, _, _, _, rfl, .inl ⟨.of h1, .of h2, p1.here w1 _ (walk_zipL (fun as' H' f => .of (f.k _ _ h1 n1).2) (fun as' H' f => .of (f.k _ _ h2 n2).2) r1 r2)⟩⟩
  · exact p1.elim
end

/-! ### x op= e -/
def dAug (i : Nat) (te : DE) (r : D2) : DS := fun τ st => match τ[i]? with
  | some (some x) => (te τ st).stm τ fun y st => (r x y st).stm τ fun z st => .ok (.nx, τ.set i (some z)) st
  | _ => .bad
section
variable {X : Cx} {cl : Cl} {W : WX}
theorem js_aug {i : Nat} {x : Str} {e : Expr} {te : DE} {op : Operator} {r : D2} {pos pos' : Pos} (hN : X.N.Nodup) (hi : X.N[i]? = some x) (hx : Loc X.env.scope x) (he : JE X cl W e te) (ho : OpJ X cl (inplaceOp op) r)
    (hf : X.fn x = true ∨ X.env.scope.names.lookup x = some .local := by first | exact .inl rfl | exact .inr rfl | assumption) : JS X cl W (.AugAssign (.Name x pos') op e pos) (dAug i te r) := by
  have ho' : ∀ E, PIp X op (liftR X.K cl E r) := fun E pins s σ H x y v u Q I r1 r2 q => ho E pins s σ H x y v u Q I r1 r2 q
  refine ⟨fun pins s σ H M I ⟨as, st, τ, w, e, p⟩ => (ps_aug (pos := pos) (pos' := pos') hN hi hx he (ho' (WE W σ)) hf).run pins s σ H M I ?_⟩
  unfold dAug at p
  split at p
  · rename_i d hd
    obtain ⟨v, h1, h2⟩ := e.get i d hd
    refine ⟨v, h1, as, st, τ, w, e, (Post.stm e p).mono fun d2 st2 as2 H2 e2 w2 p2 y ry => ?_⟩
    refine ⟨as2, st2, d, d2, w2, h2.evo e2, ry, (Post.stm (e.evo e2) p2).mono fun d3 st3 as3 H3 e3 w3 p3 z rz => ?_⟩
    exact p3.here w3 _ (((e.evo e2).evo e3).set i rz)
  · exact p.elim
def dAddI : D2 := fun x y st => match x, y with
  | .int i, .int j => .ok (.int (i + j)) st
  | .str a, .str b => if a.length + b.length ≤ sizeLine then .ok (.str (a ++ b)) st else .bad
  | _, _ => .bad
theorem oi_add : OpJ X cl (inplaceOp .Add) dAddI := OpJ.of (OpR.or (X := X) iop_add iop_add_str) fun E as st H x y dx dy Q w rx ry p => by
  unfold dAddI at p
  split at p
  · cases rx; cases ry
    exact .inl ⟨_, _, rfl, rfl, p.val w (.int _)⟩
  · cases rx; cases ry
    split at p
    · rename_i hl
      exact .inr ⟨_, _, rfl, rfl, hl, p.val w (.str _)⟩
    · exact p.elim
  · exact p.elim
theorem iop_subC : OpR X (inplaceOp .Sub) (rI (fun _ _ => True) fun i j => .int (i - j)) := OpR.mono iop_sub fun _ _ _ _ ⟨i, j, h1, h2, _, q⟩ => ⟨i, j, h1, h2, q⟩
theorem oi_sub : OpJ X cl (inplaceOp .Sub) dSub := oj_I iop_subC fun _ _ _ => trivial
end
/-- an empty dict of the store -/
def dDispE : DE := fun _ st => .ok (.ref st.length) (st ++ [.dK []])
theorem j_dispE {X : Cx} {cl : Cl} {W : WX} {pos : Pos} : JE X cl W (.Dict [] [] pos) dDispE := PE.mono pe_dnewK fun σ H Q ⟨as, st, τ, w, e, p⟩ a ha => p _ _ (Evo.push w ha) (w.push ha (.dK .nil)) _ (Rep.newRef w)
end DL

/-! DL9: a def's run without what it left behind; rows for reckoning. -/
namespace DL
open PySem PySem.Spec PyProof.Rows L2

open Classical in
/-- a def's run, what was made on the way forgotten -/
noncomputable def trimF (F : DF) : DF := fun ds st => match F ds st with
  | .ok d st1 => if Kept st (st1.take st.length) then (match d with
    | .ref k => if k < st.length then .ok (.ref k) (st1.take st.length) else (match st1[k]? with
      | some (.lst row) => if wfs st.length row = true then .ok (.lst row) (st1.take st.length) else .bad
      | some (.dK kvs) => if wfk st.length kvs = true then .ok (.dic kvs) (st1.take st.length) else .bad
      | _ => .bad)
    | d => if d.wf st.length = true then .ok d (st1.take st.length) else .bad) else .bad
  | .exc x st1 => if Kept st (st1.take st.length) ∧ wff st.length x.fs = true then .exc x (st1.take st.length) else .bad
  | .bad => .bad
section
variable {P : Program} {w : World} {K : PySem.W.Frag} {mg : Str → Option Value} {base : Heap} {cl : Cl}
theorem FnD.auto {k : Nat} {f : Addr} {fd : FuncData} {ps : List Str} {F : DF} (h : FnD P w K mg base cl k f fd ps F) : FnD P w K mg base cl k f fd ps (trimF F) := by
  refine h.trim fun ds st => ⟨fun d st' hd => ?_, fun x st' hd => ?_⟩
  · unfold trimF at hd
    cases hF : F ds st with
    | bad => rw [hF] at hd; cases hd
    | exc x st1 =>
      rw [hF] at hd
      dsimp only at hd
      split at hd <;> cases hd
    | ok d0 st1 =>
      rw [hF] at hd
      dsimp only at hd
      split at hd
      · rename_i hk
        have hl : (st1.take st.length).length = st.length := by
          have := hk.1
          rw [List.length_take] at this ⊢
          omega
        have fin : ∀ d', Cut st.length st1 d0 d' → (R.ok d' (st1.take st.length) : R D) = R.ok d st' → ∃ d0' g, (R.ok d0 st1 : R D) = R.ok d0' (st' ++ g) ∧ Cut st'.length (st' ++ g) d0' d ∧ Kept st st' := by
          intro d' hc he
          cases he
          refine ⟨d0, st1.drop st.length, by rw [List.take_append_drop], ?_, hk⟩
          rw [hl, List.take_append_drop]
          exact hc
        split at hd
        · rename_i k
          split at hd
          · rename_i hlt
            exact fin _ (.same (decide_eq_true hlt)) hd
          · rename_i hlt
            split at hd
            · rename_i row hr
              split at hd
              · rename_i hw; exact fin _ (.fix (by omega) hr hw) hd
              · cases hd
            · rename_i row hr
              split at hd
              · rename_i hw; exact fin _ (.fixK (by omega) hr hw) hd
              · cases hd
            · cases hd
        · split at hd
          · rename_i hw; exact fin _ (.same hw) hd
          · cases hd
      · cases hd
  · unfold trimF at hd
    cases hF : F ds st with
    | bad => rw [hF] at hd; cases hd
    | ok d0 st1 =>
      rw [hF] at hd
      dsimp only at hd
      split at hd
      · split at hd
        · split at hd
          · cases hd
          · split at hd
            · split at hd <;> cases hd
            · split at hd <;> cases hd
            · cases hd
        · split at hd <;> cases hd
      · cases hd
    | exc x0 st1 =>
      rw [hF] at hd
      dsimp only at hd
      split at hd
      · rename_i hk
        cases hd
        have hl : (st1.take st.length).length = st.length := by
          have := hk.1.1
          rw [List.length_take] at this ⊢
          omega
        exact ⟨st1.drop st.length, by rw [List.take_append_drop], by rw [hl]; exact hk.2, hk.1⟩
      · cases hd
end
theorem trim_lst {F : DF} {ds : List D} {st st' g : Sto} {k : Nat} {row : List D} (h : F ds st = .ok (.ref k) (st' ++ g)) (hl : st'.length = st.length) (hk : Kept st st') (h1 : st.length ≤ k) (h2 : (st' ++ g)[k]? = some (.lst row)) (h3 : wfs st.length row = true) :
    trimF F ds st = .ok (.lst row) st' := by
  unfold trimF
  rw [h]
  have e : (st' ++ g).take st.length = st' := by rw [← hl, List.take_left']; rfl
  simp only [e, hk, if_true, Nat.not_lt.mpr h1, if_false, h2, h3]
theorem trim_val {F : DF} {ds : List D} {st st' g : Sto} {d : D} (h : F ds st = .ok d (st' ++ g)) (hl : st'.length = st.length) (hk : Kept st st') (h3 : d.wf st.length = true) :
    trimF F ds st = .ok d st' := by
  unfold trimF
  rw [h]
  have e : (st' ++ g).take st.length = st' := by rw [← hl, List.take_left']; rfl
  cases d with
  | ref k =>
    have : k < st.length := of_decide_eq_true h3
    simp only [e, hk, if_true, this]
  | _ => simp only [e, hk, if_true, h3]
theorem trim_exc {F : DF} {ds : List D} {st st' g : Sto} {x : Exn} (h : F ds st = .exc x (st' ++ g)) (hl : st'.length = st.length) (hk : Kept st st') (h3 : wff st.length x.fs = true) :
    trimF F ds st = .exc x st' := by
  unfold trimF
  rw [h]
  have e : (st' ++ g).take st.length = st' := by rw [← hl, List.take_left']; rfl
  simp only [e, hk, h3, and_self, if_true]

/-! ### reckoning -/
theorem log2_small {a : Int} (h : a.natAbs < 2 ^ 64) : a.natAbs.log2 < 64 := by
  by_cases e : a.natAbs = 0
  · rw [e]; decide
  · exact (Nat.log2_lt e).mpr h
theorem mul_ok {a b : Int} (h1 : a.natAbs < 2 ^ 64) (h2 : b.natAbs < 2 ^ 64) : decide (a.natAbs.log2 + b.natAbs.log2 < 1000000) = true := by
  have := log2_small h1
  have := log2_small h2
  exact decide_eq_true (by omega)
theorem ofStr_inj {a b : String} : (Str.ofString a = Str.ofString b) = (a = b) := by
  refine propext ⟨fun h => ?_, fun h => by rw [h]⟩
  rw [Str.ofString_eq_toList, Str.ofString_eq_toList] at h
  skip
  have h1 := congrArg (fun s : Str => s.cps.toList) h
  simp only at h1
  have h2 : a.toList = b.toList := by
    have inj : ∀ (l m : List Char), l.map Char.toNat = m.map Char.toNat → l = m := by
      intro l
      induction l with
      | nil => intro m h; cases m <;> simp at h ⊢
      | cons c l ih =>
        intro m h
        cases m with
        | nil => simp at h
        | cons d m =>
          simp only [List.map_cons, List.cons.injEq] at h
          rw [ih m h.2, Char.ext (UInt32.toNat_inj.mp h.1)]
    exact inj _ _ h1
  exact String.toList_inj.mp h2
theorem ofStr_beq {a b : String} : (Str.ofString a == Str.ofString b) = (a == b) := by
  by_cases h : a = b
  · subst h; simp
  · have h' : ¬ (Str.ofString a = Str.ofString b) := by rw [ofStr_inj]; exact h
    rw [beq_eq_false_iff_ne.mpr h, beq_eq_false_iff_ne.mpr h']
theorem mul_lt {a b : Int} (h1 : a.natAbs < 2 ^ 64) (h2 : b.natAbs < 2 ^ 64) : a.natAbs.log2 + b.natAbs.log2 < 1000000 := by
  have := log2_small h1
  have := log2_small h2
  omega
theorem atI_map {ns : List Int} {k : Nat} (h : k < ns.length) : atI (ns.map D.int) (k : Int) = some (.int (ns.getD k 0)) := by
  refine atI_nat ?_
  rw [List.getElem?_map, List.getElem?_eq_getElem h]
  simp [h]
/-! ### loops by an invariant -/
theorem forN_inv {j : Nat} {body : DS} {ds : List D} (P : Nat → En → Sto → Prop) {τ : En} {st : Sto} (h0 : P 0 τ st)
    (hs : ∀ i d τ st, ds[i]? = some d → P i τ st → ∃ fl τ2 st2, body (τ.set j (some d)) st = .ok (fl, τ2) st2 ∧ (fl = .nx ∨ fl = .ct) ∧ P (i + 1) τ2 st2) :
    ∃ τ' st', forL (gN j) body ds τ st = .ok (.nx, τ') st' ∧ P ds.length τ' st' := by
  induction ds generalizing P τ st with
  | nil => exact ⟨τ, st, rfl, h0⟩
  | cons d ds ih =>
    obtain ⟨fl, τ2, st2, h1, h2, h3⟩ := hs 0 d τ st rfl h0
    obtain ⟨τ', st', h4, h5⟩ := ih (fun i => P (i + 1)) h3 fun i d τ st hd hp => hs (i + 1) d τ st (by simpa using hd) hp
    refine ⟨τ', st', ?_, h5⟩
    show (body (τ.set j (some d)) st).turn _ = _
    rw [h1]
    rcases h2 with h2 | h2 <;> (subst h2; exact h4)
theorem forG_inv {g : DG} {body : DS} {ds : List D} (P : Nat → En → Sto → Prop) {τ : En} {st : Sto} (h0 : P 0 τ st)
    (hs : ∀ i d τ st, ds[i]? = some d → P i τ st → ∃ τ1 st1 fl τ2 st2, g d τ st = .ok τ1 st1 ∧ body τ1 st1 = .ok (fl, τ2) st2 ∧ (fl = .nx ∨ fl = .ct) ∧ P (i + 1) τ2 st2) :
    ∃ τ' st', forL g body ds τ st = .ok (.nx, τ') st' ∧ P ds.length τ' st' := by
  induction ds generalizing P τ st with
  | nil => exact ⟨τ, st, rfl, h0⟩
  | cons d ds ih =>
    obtain ⟨τ1, st1, fl, τ2, st2, h1, h1', h2, h3⟩ := hs 0 d τ st rfl h0
    obtain ⟨τ', st', h4, h5⟩ := ih (fun i => P (i + 1)) h3 fun i d τ st hd hp => hs (i + 1) d τ st (by simpa using hd) hp
    refine ⟨τ', st', ?_, h5⟩
    show (g d τ st).stm τ _ = _
    rw [h1]
    show (body τ1 st1).turn _ = _
    rw [h1']
    rcases h2 with h2 | h2 <;> (subst h2; exact h4)
/-- a loop that may end early: by what its turns give -/
theorem forN_ret {j : Nat} {body : DS} {ds : List D} (P : Nat → En → Sto → Prop) (Z : Fl → Sto → Prop) {τ : En} {st : Sto} (h0 : P 0 τ st)
    (hs : ∀ i d τ st, ds[i]? = some d → P i τ st → ∃ fl τ2 st2, body (τ.set j (some d)) st = .ok (fl, τ2) st2 ∧ (((fl = .nx ∨ fl = .ct) ∧ P (i + 1) τ2 st2) ∨ ((∃ d, fl = .rt d) ∧ Z fl st2))) :
    ∃ fl τ' st', forL (gN j) body ds τ st = .ok (fl, τ') st' ∧ ((fl = .nx ∧ P ds.length τ' st') ∨ ((∃ d, fl = .rt d) ∧ Z fl st')) := by
  induction ds generalizing P τ st with
  | nil => exact ⟨.nx, τ, st, rfl, .inl ⟨rfl, h0⟩⟩
  | cons d ds ih =>
    obtain ⟨fl, τ2, st2, h1, h2⟩ := hs 0 d τ st rfl h0
    rcases h2 with ⟨h2, h3⟩ | ⟨h2, h3⟩
    · obtain ⟨fl', τ', st', h4, h5⟩ := ih (fun i => P (i + 1)) h3 fun i d τ st hd hp => hs (i + 1) d τ st (by simpa using hd) hp
      refine ⟨fl', τ', st', ?_, h5⟩
      show (body (τ.set j (some d)) st).turn _ = _
      rw [h1]
      rcases h2 with h2 | h2 <;> (subst h2; exact h4)
    · refine ⟨fl, τ2, st2, ?_, .inr ⟨h2, h3⟩⟩
      show (body (τ.set j (some d)) st).turn _ = _
      rw [h1]
      obtain ⟨d', h2⟩ := h2
      subst h2
      rfl
/-- a while by a measure -/
theorem while_inv {c : DT} {body : DS} (P : En → Sto → Prop) (μ : En → Sto → Nat) {τ : En} {st : Sto} (h0 : P τ st) (hμ : μ τ st < fuel)
    (hs : ∀ τ st, P τ st → ∃ b st1, c τ st = .ok b st1 ∧ (b = true → ∃ fl τ2 st2, body τ st1 = .ok (fl, τ2) st2 ∧ (fl = .nx ∨ fl = .ct) ∧ P τ2 st2 ∧ μ τ2 st2 < μ τ st) ∧ (b = false → P τ st1)) :
    ∃ τ' st' st1, dWhile c body τ st = .ok (.nx, τ') st1 ∧ P τ' st1 ∧ c τ' st' = .ok false st1 := by
  unfold dWhile
  generalize hf : fuel = n at *
  clear hf
  induction n generalizing τ st with
  | zero => omega
  | succ n ih =>
    obtain ⟨b, st1, h1, h2, h3⟩ := hs τ st h0
    cases b with
    | false =>
      refine ⟨τ, st, st1, ?_, h3 rfl, h1⟩
      show (c τ st).stm τ _ = _
      rw [h1]
      rfl
    | true =>
      obtain ⟨fl, τ2, st2, h4, h5, h6, h7⟩ := h2 rfl
      obtain ⟨τ', st', st1', h8, h9, h10⟩ := ih h6 (by omega)
      refine ⟨τ', st', st1', ?_, h9, h10⟩
      show (c τ st).stm τ _ = _
      rw [h1]
      show (if true = true then (body τ st1).turn _ else _) = _
      rw [if_pos rfl, h4]
      rcases h5 with h5 | h5 <;> (subst h5; exact h8)
/-- a comprehension over a row, one name, no test -/
theorem compL_inv {j : Nat} {te : DE} {τ : En} {ds : List D} (P : Nat → List D → Sto → Prop) {st : Sto} (h0 : P 0 [] st) (hl : ds.length < sizeLine)
    (hs : ∀ i d acc st, ds[i]? = some d → acc.length = i → P i acc st → ∃ y st2, te (τ.set j (some d)) st = .ok y st2 ∧ P (i + 1) (acc ++ [y]) st2) :
    ∃ out st', compL (.one j) dYes te τ ds [] st = .ok out st' ∧ out.length = ds.length ∧ P ds.length out st' := by
  suffices h : ∀ (ds' : List D) (i : Nat) (acc : List D) (st : Sto), ds = ds.take i ++ ds' → i + ds'.length = ds.length → acc.length = i → P i acc st → ∃ out st', compL (.one j) dYes te τ ds' acc st = .ok out st' ∧ out.length = ds.length ∧ P ds.length out st' from
    h ds 0 [] st (by simp) (by simp) rfl h0
  intro ds'
  induction ds' with
  | nil =>
    intro i acc st h1 h2 h3 hp
    refine ⟨acc, st, rfl, ?_, ?_⟩
    · simp at h2; omega
    · simp at h2; rw [← h2]; exact hp
  | cons d ds' ih =>
    intro i acc st h1 h2 h3 hp
    have hd : ds[i]? = some d := by
      rw [h1, List.getElem?_append_right (by simp; omega)]
      have : i - (ds.take i).length = 0 := by
        rw [List.length_take]
        simp at h2
        omega
      rw [this]
      rfl
    obtain ⟨y, st2, h4, h5⟩ := hs i d acc st hd h3 hp
    have hlt : acc.length < sizeLine := by simp at h2; omega
    obtain ⟨out, st', h6, h7, h8⟩ := ih (i + 1) (acc ++ [y]) st2 (by
      rw [List.take_succ_eq_append_getElem (by simp at h2; omega)]
      rw [List.append_assoc]
      have : ds[i]'(by simp at h2; omega) = d := by
        have := List.getElem?_eq_some_iff.mp hd
        exact this.2
      rw [this]
      exact h1) (by simp at h2; omega) (by simp [h3]) h5
    refine ⟨out, st', ?_, h7, h8⟩
    show compL (.one j) dYes te τ (d :: ds') acc st = _
    unfold compL
    simp only [Tgt.put, dYes, h4, hlt, if_true]
    exact h6
theorem dq_int {neg : Bool} {a b : Int} {st : Sto} : dEq neg (.int a) (.int b) st = .ok (.bl (neg ^^ decide (a = b))) st := by
  show R.ok (D.bl (neg ^^ (a == b))) st = _
  by_cases h : a = b
  · subst h; simp
  · rw [beq_eq_false_iff_ne.mpr h, decide_eq_false h]
theorem dq_bl {neg : Bool} {a b : Bool} {st : Sto} : dEq neg (.bl a) (.bl b) st = .ok (.bl (neg ^^ (a == b))) st := rfl
theorem dq_str {neg : Bool} {a b : Str} {st : Sto} (ha : PyData.strOk a = true) (hb : PyData.strOk b = true) : dEq neg (.str a) (.str b) st = .ok (.bl (neg ^^ decide (a = b))) st := by
  show (if (SeqAt.shaped (.str a) && SeqAt.shaped (.str b)) = true then R.ok (D.bl (neg ^^ (a == b))) st else .bad) = _
  have h1 : SeqAt.shaped (.str a) = true := by unfold SeqAt.shaped; rw [show (PyData.str a).canLay0 = PyData.strOk a from rfl, ha]; rfl
  have h2 : SeqAt.shaped (.str b) = true := by unfold SeqAt.shaped; rw [show (PyData.str b).canLay0 = PyData.strOk b from rfl, hb]; rfl
  rw [h1, h2]
  by_cases h : a = b
  · subst h; simp
  · rw [beq_eq_false_iff_ne.mpr h, decide_eq_false h]; rfl
theorem atI_lastm {ns : List Int} (h : 0 < ns.length) : ∃ z, z ∈ ns ∧ atI (ns.map D.int) (-1) = some (.int z) := by
  have hl : ns.length - 1 < ns.length := by omega
  refine ⟨ns[ns.length - 1], List.getElem_mem hl, ?_⟩
  unfold atI ixN
  rw [if_neg (by omega), if_pos (by rw [List.length_map]; omega)]
  show ((ns.map D.int)[((-1 : Int) + ((ns.map D.int).length : Int)).toNat]?) = _
  have : ((-1 : Int) + ((ns.map D.int).length : Int)).toNat = ns.length - 1 := by rw [List.length_map]; omega
  rw [this, List.getElem?_map, List.getElem?_eq_getElem hl]
  rfl
end DL

/-! DL10: sums, sorting, methods of dicts and texts. -/
namespace DL
open PySem PySem.Spec PyProof.Rows L2

/-! ### rows of one kind -/
def intsOf : List D → Option (List Int)
  | [] => some []
  | .int i :: r => (intsOf r).map (i :: ·)
  | _ :: _ => none
def boolsOf : List D → Option (List Bool)
  | [] => some []
  | .bl i :: r => (boolsOf r).map (i :: ·)
  | _ :: _ => none
def strsOf : List D → Option (List Str)
  | [] => some []
  | .str i :: r => (strsOf r).map (i :: ·)
  | _ :: _ => none
def pairsOf : List D → Option (List (Int × Int))
  | [] => some []
  | .tup [.int i, .int j] :: r => (pairsOf r).map ((i, j) :: ·)
  | _ :: _ => none
abbrev p2D (p : Int × Int) : D := .tup [.int p.1, .int p.2]
theorem intsOf_map (ns : List Int) : intsOf (ns.map .int) = some ns := by
  induction ns with
  | nil => rfl
  | cons n ns ih => show (intsOf (ns.map .int)).map (n :: ·) = _; rw [ih]; rfl
theorem boolsOf_map (ns : List Bool) : boolsOf (ns.map .bl) = some ns := by
  induction ns with
  | nil => rfl
  | cons n ns ih => show (boolsOf (ns.map .bl)).map (n :: ·) = _; rw [ih]; rfl
theorem strsOf_map (ns : List Str) : strsOf (ns.map .str) = some ns := by
  induction ns with
  | nil => rfl
  | cons n ns ih => show (strsOf (ns.map .str)).map (n :: ·) = _; rw [ih]; rfl
theorem pairsOf_map (ns : List (Int × Int)) : pairsOf (ns.map p2D) = some ns := by
  induction ns with
  | nil => rfl
  | cons n ns ih => show (pairsOf (ns.map p2D)).map ((n.1, n.2) :: ·) = _; rw [ih]; rfl
theorem intsOf_eq : ∀ {ds : List D} {ns : List Int}, intsOf ds = some ns → ds = ns.map .int
  | [], ns, h => by cases h; rfl
  | .int i :: r, ns, h => by
    have h : (intsOf r).map (i :: ·) = some ns := h
    cases e : intsOf r with
    | none => rw [e] at h; cases h
    | some m => rw [e] at h; cases h; rw [intsOf_eq e]; rfl
  | .non :: _, _, h | .bl _ :: _, _, h | .str _ :: _, _, h | .tup _ :: _, _, h | .lst _ :: _, _, h | .fro _ :: _, _, h | .dic _ :: _, _, h | .ref _ :: _, _, h | .raw _ :: _, _, h => by cases h
theorem boolsOf_eq : ∀ {ds : List D} {ns : List Bool}, boolsOf ds = some ns → ds = ns.map .bl
  | [], ns, h => by cases h; rfl
  | .bl i :: r, ns, h => by
    have h : (boolsOf r).map (i :: ·) = some ns := h
    cases e : boolsOf r with
    | none => rw [e] at h; cases h
    | some m => rw [e] at h; cases h; rw [boolsOf_eq e]; rfl
  | .non :: _, _, h | .int _ :: _, _, h | .str _ :: _, _, h | .tup _ :: _, _, h | .lst _ :: _, _, h | .fro _ :: _, _, h | .dic _ :: _, _, h | .ref _ :: _, _, h | .raw _ :: _, _, h => by cases h
theorem strsOf_eq : ∀ {ds : List D} {ns : List Str}, strsOf ds = some ns → ds = ns.map .str
  | [], ns, h => by cases h; rfl
  | .str i :: r, ns, h => by
    have h : (strsOf r).map (i :: ·) = some ns := h
    cases e : strsOf r with
    | none => rw [e] at h; cases h
    | some m => rw [e] at h; cases h; rw [strsOf_eq e]; rfl
  | .non :: _, _, h | .int _ :: _, _, h | .bl _ :: _, _, h | .tup _ :: _, _, h | .lst _ :: _, _, h | .fro _ :: _, _, h | .dic _ :: _, _, h | .ref _ :: _, _, h | .raw _ :: _, _, h => by cases h
theorem pairsOf_eq {ds : List D} {ns : List (Int × Int)} (h : pairsOf ds = some ns) : ds = ns.map p2D := by
  induction ds generalizing ns with
  | nil => cases h; rfl
  | cons d r ih =>
    unfold pairsOf at h
    split at h
    · rename_i e; cases e
    · rename_i i j r' e
      cases e
      cases e : pairsOf r with
      | none => rw [e] at h; cases h
      | some m => rw [e] at h; cases h; rw [ih e]; rfl
    · cases h
section
variable {K : PySem.W.Frag} {as : Mp} {H : Hp}
theorem repsI : ∀ {ns : List Int} {xs : List V}, Reps K as H (ns.map .int) xs → xs = ns.map V.int
  | [], _, .nil => rfl
  | n :: ns, _, .cons r t => by cases r; rw [repsI t]; rfl
theorem repsB : ∀ {ns : List Bool} {xs : List V}, Reps K as H (ns.map .bl) xs → xs = ns.map V.bl
  | [], _, .nil => rfl
  | n :: ns, _, .cons r t => by cases r; rw [repsB t]; rfl
theorem repsS : ∀ {ns : List Str} {xs : List V}, Reps K as H (ns.map .str) xs → xs = ns.map V.str
  | [], _, .nil => rfl
  | n :: ns, _, .cons r t => by cases r; rw [repsS t]; rfl
theorem intsR : ∀ (ns : List Int), Reps K as H (ns.map .int) (ns.map V.int)
  | [] => .nil
  | n :: ns => .cons (.int n) (intsR ns)
theorem strsR : ∀ (ns : List Str), Reps K as H (ns.map .str) (ns.map V.str)
  | [] => .nil
  | n :: ns => .cons (.str n) (strsR ns)
/-- a rearrangement of the values is one of the data -/
theorem Reps.perm {ys xs : List V} (h : ys.Perm xs) : ∀ {ds : List D}, Reps K as H ds xs → ∃ es, es.Perm ds ∧ Reps K as H es ys := by
  induction h with
  | nil => intro ds r; exact ⟨ds, .refl _, r⟩
  | cons x p ih =>
    intro ds r
    cases r with
    | cons a t =>
      obtain ⟨es, h1, h2⟩ := ih t
      exact ⟨_, h1.cons _, .cons a h2⟩
  | swap x y l =>
    intro ds r
    cases r with
    | cons a t =>
      cases t with
      | cons b t => exact ⟨_, .swap _ _ _, .cons b (.cons a t)⟩
  | trans p q ih1 ih2 =>
    intro ds r
    obtain ⟨es, h1, h2⟩ := ih2 r
    obtain ⟨fs, h3, h4⟩ := ih1 h2
    exact ⟨fs, h3.trans h1, h4⟩
/-- the row of a list, not of a tuple -/
def sqlOf (d : D) (st : Sto) : Option (List D) := match d with
  | .tup _ => none
  | d => seqOf d st
theorem sqlOf_ok {cl : Cl} {st : Sto} {d : D} {v : V} {ds : List D} (w : Wd K cl as st H) (r : Rep K as H d v) (h : sqlOf d st = some ds) : ∃ p xs, v = .ref p ∧ SqL K H p xs ∧ Reps K as H ds xs := by
  have h2 : seqOf d st = some ds := by
    cases d with
    | tup _ => cases h
    | _ => exact h
  rcases seqOf_list w r h2 with e | q
  · subst e; cases h
  · exact q
end

/-! ### sum, any, all, max, min -/
def cRow (f : List D → Option D) : DC := fun ds st => match ds with
  | [d] => match sqlOf d st with
    | some xs => match f xs with
      | some v => .ok v st
      | none => .bad
    | none => .bad
  | _ => .bad
theorem cRow_ok {X : Cx} {cl : Cl} {f : List D → Option D} {E : XK} {as : Mp} {st : Sto} {H : Hp} {xs : List V} {ds : List D} {Q : VK} (w : Wd X.K cl as st H) (rs : Reps X.K as H ds xs) (p : Post X.K cl E as H (cRow f ds st) (QV X.K Q)) :
    ∃ a ys es v, xs = [.ref a] ∧ SqL X.K H a ys ∧ Reps X.K as H es ys ∧ f es = some v ∧ Post X.K cl E as H (.ok v st) (QV X.K Q) := by
  unfold cRow at p
  split at p
  · rename_i d
    obtain ⟨v, rfl, r⟩ := rs.one
    cases h1 : sqlOf d st with
    | none => rw [h1] at p; exact p.elim
    | some ys =>
      rw [h1] at p
      obtain ⟨q, zs, rfl, hq, rz⟩ := sqlOf_ok w r h1
      cases h2 : f ys with
      | none => simp only [h2] at p; exact p.elim
      | some v => simp only [h2] at p; exact ⟨q, zs, ys, v, rfl, hq, rz, h2, p⟩
  · exact p.elim
def cSum1 : DC := cRow fun ds => (intsOf ds).map fun ns => .int ns.sum
def cAny1 : DC := cRow fun ds => (boolsOf ds).map fun ns => .bl (ns.any id)
def cAll1 : DC := cRow fun ds => (boolsOf ds).map fun ns => .bl (ns.all id)
def maxL : List Int → Option Int
  | [] => none
  | n :: ns => some (ns.foldl max n)
def minL : List Int → Option Int
  | [] => none
  | n :: ns => some (ns.foldl min n)
theorem foldl_max : ∀ (ns : List Int) (n : Int), (ns.foldl max n = n ∨ ns.foldl max n ∈ ns) ∧ n ≤ ns.foldl max n ∧ ∀ y ∈ ns, y ≤ ns.foldl max n
  | [], n => ⟨.inl rfl, Int.le_refl _, fun _ h => (List.not_mem_nil h).elim⟩
  | x :: ns, n => by
    obtain ⟨h1, h2, h3⟩ := foldl_max ns (max n x)
    rw [List.foldl_cons]
    refine ⟨?_, by omega, fun y hy => ?_⟩
    · rcases h1 with h1 | h1
      · rw [h1]
        rcases Int.le_total n x with h | h
        · rw [Int.max_eq_right h]; exact .inr List.mem_cons_self
        · rw [Int.max_eq_left h]; exact .inl rfl
      · exact .inr (List.mem_cons_of_mem _ h1)
    · rcases List.mem_cons.mp hy with e | hy
      · omega
      · exact h3 y hy
theorem foldl_min : ∀ (ns : List Int) (n : Int), (ns.foldl min n = n ∨ ns.foldl min n ∈ ns) ∧ ns.foldl min n ≤ n ∧ ∀ y ∈ ns, ns.foldl min n ≤ y
  | [], n => ⟨.inl rfl, Int.le_refl _, fun _ h => (List.not_mem_nil h).elim⟩
  | x :: ns, n => by
    obtain ⟨h1, h2, h3⟩ := foldl_min ns (min n x)
    rw [List.foldl_cons]
    refine ⟨?_, by omega, fun y hy => ?_⟩
    · rcases h1 with h1 | h1
      · rw [h1]
        rcases Int.le_total n x with h | h
        · rw [Int.min_eq_left h]; exact .inl rfl
        · rw [Int.min_eq_right h]; exact .inr List.mem_cons_self
      · exact .inr (List.mem_cons_of_mem _ h1)
    · rcases List.mem_cons.mp hy with e | hy
      · omega
      · exact h3 y hy
theorem maxL_of {ns : List Int} {m k : Int} (h1 : m ∈ ns) (h2 : ∀ y ∈ ns, y ≤ m) (h : maxL ns = some k) : m = k := by
  cases ns with
  | nil => cases h
  | cons n ns =>
    cases h
    obtain ⟨q1, q2, q3⟩ := foldl_max ns n
    have a : m ≤ ns.foldl max n := by
      rcases List.mem_cons.mp h1 with e | e
      · omega
      · exact q3 m e
    have b : ns.foldl max n ≤ m := by
      rcases q1 with e | e
      · rw [e]; exact h2 n List.mem_cons_self
      · exact h2 _ (List.mem_cons_of_mem _ e)
    omega
theorem minL_of {ns : List Int} {m k : Int} (h1 : m ∈ ns) (h2 : ∀ y ∈ ns, m ≤ y) (h : minL ns = some k) : m = k := by
  cases ns with
  | nil => cases h
  | cons n ns =>
    cases h
    obtain ⟨q1, q2, q3⟩ := foldl_min ns n
    have a : ns.foldl min n ≤ m := by
      rcases List.mem_cons.mp h1 with e | e
      · omega
      · exact q3 m e
    have b : m ≤ ns.foldl min n := by
      rcases q1 with e | e
      · rw [e]; exact h2 n List.mem_cons_self
      · exact h2 _ (List.mem_cons_of_mem _ e)
    omega
def cMax1 : DC := cRow fun ds => (intsOf ds).bind fun ns => (maxL ns).map D.int
def cMin1 : DC := cRow fun ds => (intsOf ds).bind fun ns => (minL ns).map D.int
section
variable {X : Cx} {cl : Cl}
theorem omap {α β : Type} {f : α → β} {o : Option α} {b : β} (h : o.map f = some b) : ∃ a, o = some a ∧ f a = b := Option.map_eq_some_iff.mp h
theorem cj_sum1 (hc : X.calm = true) : CallJ X cl (.builtin "sum") cSum1 := CallJ.of (cr_sum hc) fun E as st H xs ds Q w rs p => by
  obtain ⟨a, ys, es, v, rfl, hs, rz, hv, p⟩ := cRow_ok w rs p
  obtain ⟨ns, h1, rfl⟩ := omap hv
  rw [intsOf_eq h1] at rz
  rw [repsI rz] at hs
  exact ⟨a, ns, rfl, hs, p.val w (.int _)⟩
theorem cj_any1 (hc : X.calm = true) : CallJ X cl (.builtin "any") cAny1 := CallJ.of (cr_any hc) fun E as st H xs ds Q w rs p => by
  obtain ⟨a, ys, es, v, rfl, hs, rz, hv, p⟩ := cRow_ok w rs p
  obtain ⟨ns, h1, rfl⟩ := omap hv
  rw [boolsOf_eq h1] at rz
  rw [repsB rz] at hs
  exact ⟨a, ns, rfl, hs, p.val w (.bl _)⟩
theorem cj_all1 (hc : X.calm = true) : CallJ X cl (.builtin "all") cAll1 := CallJ.of (cr_all hc) fun E as st H xs ds Q w rs p => by
  obtain ⟨a, ys, es, v, rfl, hs, rz, hv, p⟩ := cRow_ok w rs p
  obtain ⟨ns, h1, rfl⟩ := omap hv
  rw [boolsOf_eq h1] at rz
  rw [repsB rz] at hs
  exact ⟨a, ns, rfl, hs, p.val w (.bl _)⟩
theorem cj_max1 (hc : X.calm = true) : CallJ X cl (.builtin "max") cMax1 := CallJ.of (cr_max hc) fun E as st H xs ds Q w rs p => by
  obtain ⟨a, ys, es, v, rfl, hs, rz, hv, p⟩ := cRow_ok w rs p
  obtain ⟨ns, h1, h2⟩ := Option.bind_eq_some_iff.mp hv
  obtain ⟨k, h3, rfl⟩ := omap h2
  rw [intsOf_eq h1] at rz
  rw [repsI rz] at hs
  refine ⟨a, ns, rfl, hs, ?_, fun m q1 q2 => by rw [maxL_of q1 q2 h3]; exact p.val w (.int _)⟩
  cases ns with
  | nil => cases h3
  | cons _ _ => exact Nat.succ_pos _
theorem cj_min1 (hc : X.calm = true) : CallJ X cl (.builtin "min") cMin1 := CallJ.of (cr_min hc) fun E as st H xs ds Q w rs p => by
  obtain ⟨a, ys, es, v, rfl, hs, rz, hv, p⟩ := cRow_ok w rs p
  obtain ⟨ns, h1, h2⟩ := Option.bind_eq_some_iff.mp hv
  obtain ⟨k, h3, rfl⟩ := omap h2
  rw [intsOf_eq h1] at rz
  rw [repsI rz] at hs
  refine ⟨a, ns, rfl, hs, ?_, fun m q1 q2 => by rw [minL_of q1 q2 h3]; exact p.val w (.int _)⟩
  cases ns with
  | nil => cases h3
  | cons _ _ => exact Nat.succ_pos _
end

/-! ### sorted -/
def lexLe (p q : Int × Int) : Bool := decide (p.1 < q.1) || (decide (p.1 = q.1) && decide (p.2 ≤ q.2))
theorem lexLe_iff {p q : Int × Int} : lexLe p q = true ↔ p.1 < q.1 ∨ (p.1 = q.1 ∧ p.2 ≤ q.2) := by
  unfold lexLe
  simp
def sortI (ns : List Int) : List Int := ns.mergeSort (fun a b => decide (a ≤ b))
def sortP (ns : List (Int × Int)) : List (Int × Int) := ns.mergeSort lexLe
theorem sortI_perm (ns : List Int) : (sortI ns).Perm ns := List.mergeSort_perm _ _
theorem sortI_sorted (ns : List Int) : (sortI ns).Pairwise (· ≤ ·) := by
  have h := List.pairwise_mergeSort (le := fun a b : Int => decide (a ≤ b)) (fun a b c h1 h2 => by simp only [decide_eq_true_eq] at *; omega) (fun a b => by simp only [Bool.or_eq_true, decide_eq_true_eq]; omega) ns
  exact h.imp fun h => of_decide_eq_true h
theorem sortI_of {ns ms : List Int} (h1 : ms.Perm ns) (h2 : ms.Pairwise (· ≤ ·)) : ms = sortI ns :=
  List.Perm.eq_of_pairwise (le := fun a b : Int => a ≤ b) (fun a b _ _ h1 h2 => Int.le_antisymm h1 h2) h2 (sortI_sorted ns) (h1.trans (sortI_perm ns).symm)
theorem sortP_perm (ns : List (Int × Int)) : (sortP ns).Perm ns := List.mergeSort_perm _ _
theorem sortP_sorted (ns : List (Int × Int)) : (sortP ns).Pairwise (fun a b => lexLe a b = true) :=
  List.pairwise_mergeSort (le := lexLe) (fun a b c h1 h2 => by rw [lexLe_iff] at *; omega) (fun a b => by rw [Bool.or_eq_true, lexLe_iff, lexLe_iff]; omega) ns
theorem sortP_of {ns ms : List (Int × Int)} (h1 : ms.Perm ns) (h2 : ms.Pairwise (fun a b => lexLe a b = true)) : ms = sortP ns :=
  List.Perm.eq_of_pairwise (le := fun a b => lexLe a b = true) (fun a b _ _ h1 h2 => by
    rw [lexLe_iff] at *
    exact Prod.ext (by omega) (by omega)) h2 (sortP_sorted ns) (h1.trans (sortP_perm ns).symm)
/-- sorted of a list of pairs of ints, told by tuples of any kind -/
def rSortQ (K : PySem.W.Frag) : List V → Hp → VK → Prop := fun vs H Q => ∃ (a : Addr) (xs : List V) (k : V → Int × Int), vs = [V.ref a] ∧ SqL K H a xs ∧ (∀ x ∈ xs, ∃ t, x = V.ref t ∧ SqT K H t [.int (k x).1, .int (k x).2]) ∧
  ∀ ys p, SrtO.Srtd (ltP k) ys → ys.Perm xs → (∀ t a b, SqT K H t a → SqT K H t b → a = b) → H p = none → Q (.ref p) (upd H p (.lst ys))
theorem cr_sortQ {X : Cx} : CallR X (.builtin "sorted") (rSortQ X.K) := by
  intro pins s σ H vs us Q I r h
  obtain ⟨a, xs, k, rfl, hs, hx, q⟩ := h
  obtain ⟨its, rv, hl, hz⟩ := I.list hs
  rw [Vals.ref1 r]
  obtain ⟨e1, e2⟩ := refs_back rv fun x m => let ⟨t, e, _⟩ := hx x m; ⟨t, e⟩
  refine SrtO.sorted_pairsO (k := fun u => k (backV u)) hl.isList (by rw [← rv.length]; exact hz) (fun v hv => ?_) fun h' d out h1 h2 kp hd hn => ?_
  · obtain ⟨t, rfl⟩ := e2 v hv
    obtain ⟨t', e, ht⟩ := hx (V.ref t) (e1 ▸ List.mem_map.mpr ⟨_, hv, rfl⟩)
    cases e
    obtain ⟨its2, r2, ht2, _⟩ := I.tuple ht
    obtain ⟨u1, u2, rfl, ⟨t1, rfl⟩, ⟨t2, rfl⟩⟩ := vals2 r2
    obtain ⟨o, ho, hc, n, hd⟩ := ht2
    exact ⟨t, o, t1, t2, n, rfl, ho, hc, hd⟩
  · obtain ⟨n, hn⟩ := hn
    have hb : SrtO.Stb (ltP k) (out.map backV) xs := by rw [e1]; exact SrtO.Stb.map (ltP_swo k) backV h2
    exact ⟨.ref d, upd H d (.lst (out.map backV)), I.laid (t' := s.toks) kp hd ⟨by rw [hb.len]; exact hz, out, n, vals_back fun u hu => e2 u (h2.perm.mem_iff.mp hu), hn⟩, rfl, q _ d (SrtO.srtd_map h1) hb.perm (fun _ _ _ => I.tuple_inj) (I.hok.fresh hd)⟩


/-- sorted of a dict whose keys are ints -/
def rSortDI : List V → Hp → VK → Prop := fun xs H Q => ∃ (a : Addr) (kvs : List (Key × V)) (ks : List Int), xs = [.ref a] ∧ Rd H a (.dK kvs) ∧ kvs.map (·.1) = ks.map Sum.inl ∧
  ∀ (ys : List Int) (p : Addr), ys.Perm ks → ys.Pairwise (· ≤ ·) → H p = none → Q (.ref p) (upd H p (.lst (ys.map V.int)))
theorem cr_sortDI {X : Cx} (hcalm : X.calm = true) : CallR X (.builtin "sorted") rSortDI := by
  intro pins s σ H xs us Q I r q
  obtain ⟨a, kvs, ks, rfl, hd, hks, q⟩ := q
  rw [Vals.ref1 r]
  obtain ⟨z, lo, vs, rel, dd⟩ := dk_rd I.hok hd
  obtain ⟨ep, hat⟩ := dd.dictAt
  have hkeys : vs.map (·.1) = ks.map Sum.inl := rel.keys.symm.trans hks
  have hl : vs.length = ks.length := by simpa using congrArg List.length hkeys
  have hz : vs.length ≤ sizeLine := by
    rw [← Paired.length rel]
    exact z
  refine Calls.call_function_entry PyProof.Rows.kind_sorted PyProof.Rows.plain_sorted PyProof.Rows.entry_sorted (PyProof.Rows.args_sorted1 _) ?_
  unfold Builtin.«sorted»
  refine wpAny_bind (m := checkCount "sorted" 1 1 _) (wpAny_pure ?_)
  refine wpAny_bind (PySem.W.kdu_collect (A := X.A.in1) (PySem.W.kdl_dict (knd := mixKind X.prog X.w) (kvs := vs) (ep := ep) lo) (I.ok.hd hcalm) hat hz fun h' tk acc hk hacc => ?_)
  have hal : acc.toList.length = ks.length := by rw [Array.length_toList, hacc.1, hl]
  have hS : IntsAre acc.toList ks := ints_each hal fun j v e => by
    obtain ⟨k, x, e1, e2⟩ := hacc.2 j v (by rw [← Array.getElem?_toList]; exact e)
    have e3 : (ks.map (Sum.inl : Int → Key))[j]? = some k := by rw [← hkeys, List.getElem?_map, e1]; rfl
    rw [List.getElem?_map] at e3
    obtain ⟨y, e4, e5⟩ := Option.map_eq_some_iff.mp e3
    subst e5
    rcases keyIs_shape (show keyIs (Sum.inl y) v = true from e2) with ⟨i, t, ek, ev⟩ | ⟨z, t, ek, ev⟩
    · cases ek
      exact ⟨y, t, e4, ev⟩
    · cases ek
  have I1 : Inv X pins σ H { s with heap := h', toks := tk } := I.kept hk
  have hal2 : acc.toList.length ≤ sizeLine := by rw [hal, ← hl]; exact hz
  refine wpAny_bind (wpAny_newList ?_ hal2)
  have hoL : (h'.push (seqObj "list" acc.toList.toArray 0)).get? h'.objs.size = some (seqObj "list" acc.toList.toArray 0) := Heap.get?_push_size _ rfl
  show wpAny _ _ _ _ _ { s with heap := h'.push (seqObj "list" acc.toList.toArray 0), toks := tk }
  refine wpAny_bind (wpAny_holding (wpAny_call_entry PyProof.Rows.slot_list_sort ⟨_, hoL, rfl⟩ PyProof.Rows.entry_list_sort
    (SrtO.list_sort_ord (s := { s with heap := h'.push (seqObj "list" acc.toList.toArray 0), toks := tk }) SrtO.swo_int hoL hal2 (fun h2 => SrtO.ints_sortable hS h2) fun out g1 g2 => ⟨_, rfl, ?_⟩) (PyProof.Rows.args_list_sort _)))
  obtain ⟨k1, k2, k3⟩ := SrtO.ints_out hS g1 g2
  obtain ⟨e', he'⟩ := PyProof.Rows.sortedHeap_at (vs := acc.toList) (out := out.toArray) hoL
  have hlen : ((out.map SrtO.iv).map V.int).length ≤ sizeLine := by
    rw [List.length_map, k2.length_eq, ← hal]
    exact hal2
  refine wpAny_pure ⟨_, rfl, .ref h'.objs.size, upd H h'.objs.size (.lst ((out.map SrtO.iv).map V.int)), I1.laid (t' := tk) (fun b u e => ?_) (Nat.le_refl _)
    (show ObjOk X.prog X.w _ _ _ (.lst ((out.map SrtO.iv).map V.int)) from ⟨hlen, out, e', vals_of_ints k1, he'⟩), rfl, q _ _ k2 k3 (I1.hok.fresh (Nat.le_refl _))⟩
  have hb : b < h'.objs.size := Heap.lt_size e
  rw [PyProof.Rows.sortedHeap_old (Nat.ne_of_lt hb) (by rw [size_push']; exact Nat.lt_succ_of_lt hb)]
  exact Heap.get?_push_of_some _ e
/-- the keys, if all are ints -/
def keysI : List (Key × D) → Option (List Int)
  | [] => some []
  | (.inl i, _) :: r => (keysI r).map (i :: ·)
  | (.inr _, _) :: _ => none
theorem keysI_eq {K : PySem.W.Frag} {as : Mp} {H : Hp} : ∀ {kvs : List (Key × D)} {ks : List Int} {xs : List (Key × V)}, keysI kvs = some ks → RepF K as H kvs xs → xs.map (·.1) = ks.map Sum.inl
  | [], ks, _, h, .nil => by cases h; rfl
  | (.inl i, _) :: r, ks, _, h, .cons q t => by
    obtain ⟨m, h1, rfl⟩ := omap (show (keysI r).map (i :: ·) = some ks from h)
    rw [List.map_cons, List.map_cons, keysI_eq h1 t]
  | (.inr _, _) :: _, _, _, h, _ => by cases h
def cSorted : DC := fun ds st => match ds with
  | [d] => match dicOf d st with
    | some kvs => (match keysI kvs with
      | some ks => .ok (.lst ((sortI ks).map .int)) st
      | none => .bad)
    | none => match sqlOf d st with
      | some xs => (match intsOf xs with
        | some ns => .ok (.lst ((sortI ns).map .int)) st
        | none => match pairsOf xs with
          | some ps => .ok (.lst ((sortP ps).map p2D)) st
          | none => .bad)
      | none => .bad
  | _ => .bad
theorem ltP_of {k : V → Int × Int} {ys : List V} (h : SrtO.Srtd (ltP k) ys) : (ys.map k).Pairwise (fun a b => lexLe a b = true) :=
  List.pairwise_map.mpr (h.imp fun {x y} h => by
    have := SrtO.lexB_no.mp h
    rw [lexLe_iff]
    omega)
theorem perm_map_back {α β : Type} {f : α → β} {ps : List α} {es : List β} (h : es.Perm (ps.map f)) : ∃ qs : List α, es = qs.map f ∧ qs.Perm ps := by
  generalize hm : ps.map f = ms at h
  induction h generalizing ps with
  | nil => exact ⟨ps, hm.symm, .refl _⟩
  | @cons x l1 l2 _ ih =>
    cases ps with
    | nil => cases hm
    | cons p ps =>
      cases hm
      obtain ⟨qs, h1, h2⟩ := ih rfl
      exact ⟨p :: qs, by rw [h1]; rfl, h2.cons _⟩
  | swap x y l =>
    match ps, hm with
    | a :: b :: ps, hm =>
      cases hm
      exact ⟨b :: a :: ps, rfl, .swap _ _ _⟩
  | trans _ _ ih1 ih2 =>
    obtain ⟨qs, h1, h2⟩ := ih2 hm
    obtain ⟨rs, h3, h4⟩ := ih1 h1.symm
    exact ⟨rs, h3, h4.trans h2⟩
open Classical in
theorem pairs_keys {K : PySem.W.Frag} {as : Mp} {H : Hp} {st : Sto} {cl : Cl} (w : Wd K cl as st H) (U : ∀ t a b, SqT K H t a → SqT K H t b → a = b) : ∀ {ps : List (Int × Int)} {xs : List V}, Reps K as H (ps.map p2D) xs →
    xs.map (fun x => if h : ∃ (t : Addr) (p : Int × Int), x = V.ref t ∧ SqT K H t [.int p.1, .int p.2] then h.choose_spec.choose else (0, 0)) = ps
  | [], _, .nil => rfl
  | p :: ps, _, .cons r t => by
    rw [List.map_cons, pairs_keys w U t]
    congr 1
    cases r with
    | tup s rs =>
      cases rs with
      | cons a rs =>
        cases a
        cases rs with
        | cons b rs =>
          cases b
          cases rs
          rename_i ad
          have hh : ∃ (t : Addr) (p : Int × Int), V.ref ad = V.ref t ∧ SqT K H t [.int p.1, .int p.2] := ⟨ad, p, rfl, s.t⟩
          rw [dif_pos hh]
          have e4 : ∀ (t : Addr) (q : Int × Int), V.ref ad = V.ref t ∧ SqT K H t [.int q.1, .int q.2] → [V.int q.1, V.int q.2] = [V.int p.1, V.int p.2] := fun t q ⟨e1, e2⟩ => by
            cases e1
            exact U _ _ _ e2 s.t
          have e4 := e4 _ _ hh.choose_spec.choose_spec
          injection e4 with e5 e6
          injection e6 with e6 _
          exact Prod.ext (V.int.inj e5) (V.int.inj e6)
/-- what a value's pair is -/
theorem pairs_key {K : PySem.W.Frag} {as : Mp} {H : Hp} {st : Sto} {cl : Cl} (w : Wd K cl as st H) : ∀ {ps : List (Int × Int)} {xs : List V}, Reps K as H (ps.map p2D) xs → ∀ x ∈ xs, ∃ (t : Addr) (p : Int × Int), x = V.ref t ∧ SqT K H t [.int p.1, .int p.2]
  | [], _, .nil, x, h => (List.not_mem_nil h).elim
  | p :: ps, _, .cons r t, x, h => by
    rcases List.mem_cons.mp h with e | h
    · subst e
      cases r with
      | tup s rs =>
        cases rs with
        | cons a rs =>
          cases a
          cases rs with
          | cons b rs =>
            cases b
            cases rs
            exact ⟨_, p, rfl, s.t⟩
    · exact pairs_key w t x h
open Classical in
theorem cj_sorted {X : Cx} {cl : Cl} (hc : X.calm = true) : CallJ X cl (.builtin "sorted") cSorted := CallJ.of (CallR.or' (cr_sortDI hc) (CallR.or' cr_sortedI cr_sortQ)) fun E as st H xs ds Q w rs p => by
  unfold cSorted at p
  split at p
  · rename_i d
    obtain ⟨v, rfl, r⟩ := rs.one
    cases h1 : dicOf d st with
    | some kvs =>
      rw [h1] at p
      dsimp only at p
      obtain ⟨q, zs, rfl, hq, rz⟩ := dicOf_ok w r h1
      cases h2 : keysI kvs with
      | none => rw [h2] at p; exact p.elim
      | some ks =>
        rw [h2] at p
        exact .inl ⟨q, zs, ks, rfl, .inl hq, keysI_eq h2 rz, fun ys a h3 h4 h5 => by rw [sortI_of h3 h4]; exact p.newL w (intsR _) a h5⟩
    | none =>
      rw [h1] at p
      dsimp only at p
      cases h2 : sqlOf d st with
      | none => rw [h2] at p; exact p.elim
      | some ys =>
        rw [h2] at p
        dsimp only at p
        obtain ⟨q, zs, rfl, hq, rz⟩ := sqlOf_ok w r h2
        cases h3 : intsOf ys with
        | some ns =>
          rw [h3] at p
          rw [intsOf_eq h3] at rz
          rw [repsI rz] at hq
          exact .inr (.inl ⟨q, ns, rfl, hq, fun ys a h3 h4 h5 => by rw [sortI_of h3 h4]; exact p.newL w (intsR _) a h5⟩)
        | none =>
          rw [h3] at p
          dsimp only at p
          cases h4 : pairsOf ys with
          | none => rw [h4] at p; exact p.elim
          | some ps =>
            rw [h4] at p
            rw [pairsOf_eq h4] at rz
            have hk := pairs_key w rz
            refine .inr (.inr ⟨q, zs, fun x => if h : ∃ (t : Addr) (p : Int × Int), x = V.ref t ∧ SqT X.K H t [.int p.1, .int p.2] then h.choose_spec.choose else (0, 0), rfl, hq, fun x hx => ?_, fun us a h5 h6 hu h7 => ?_⟩)
            · obtain ⟨t, p, h⟩ := hk x hx
              have hh : ∃ (t : Addr) (p : Int × Int), x = V.ref t ∧ SqT X.K H t [.int p.1, .int p.2] := ⟨t, p, h⟩
              simp only [dif_pos hh]
              exact ⟨hh.choose, hh.choose_spec.choose_spec⟩
            · obtain ⟨es, h8, h9⟩ := Reps.perm h6 rz
              obtain ⟨qs, rfl, h10⟩ : ∃ (qs : List (Int × Int)), es = qs.map p2D ∧ qs.Perm ps := perm_map_back h8
              have h11 := pairs_keys w hu h9
              have h12 := ltP_of h5
              rw [h11] at h12
              dsimp only at p
              rw [← sortP_of h10 h12] at p
              exact p.newL w h9 a h7
  · exact p.elim

/-! ### list of a dict -/
def keyD : Key → D
  | .inl i => .int i
  | .inr x => .str x
theorem keyD_rep {K : PySem.W.Frag} {as : Mp} {H : Hp} (k : Key) : Rep K as H (keyD k) (kV k) := by cases k <;> constructor
theorem keysD_reps {K : PySem.W.Frag} {as : Mp} {H : Hp} {kvs : List (Key × D)} {xs : List (Key × V)} (r : RepF K as H kvs xs) : Reps K as H (kvs.map fun kv => keyD kv.1) (xs.map fun kv => kV kv.1) := by
  induction r with
  | nil => exact .nil
  | cons q _ ih => exact .cons (keyD_rep _) ih
/-- list(xs), list(d): not changed; that will change -/
def cListA : DC := fun ds st => match ds with
  | [d] => match dicOf d st with
    | some kvs => .ok (.lst (kvs.map fun kv => keyD kv.1)) st
    | none => cList ds st
  | _ => .bad
theorem cList_ok {X : Cx} {cl : Cl} {E : XK} {as : Mp} {st : Sto} {H : Hp} {xs : List V} {ds : List D} {Q : VK} (w : Wd X.K cl as st H) (rs : Reps X.K as H ds xs) (p : Post X.K cl E as H (cList ds st) (QV X.K Q)) :
    ∃ p ys, xs = [.ref p] ∧ (SqL X.K H p ys ∨ SqT X.K H p ys) ∧ ∀ l, H l = none → Q (.ref l) (upd H l (.lst ys)) := by
  unfold cList at p
  split at p
  · rename_i d
    obtain ⟨v, rfl, r⟩ := rs.one
    cases h1 : seqOf d st with
    | none => rw [h1] at p; exact p.elim
    | some ys =>
      rw [h1] at p
      obtain ⟨q, zs, rfl, hq, rz⟩ := seqOf_ok w r h1
      exact ⟨q, zs, rfl, hq, p.newL w rz⟩
  · exact p.elim
theorem cj_listA {X : Cx} {cl : Cl} (hc : X.calm = true) : CallJ X cl (.type "list") cListA := CallJ.of (CallR.or' (call_listD hc) call_list_of) fun E as st H xs ds Q w rs p => by
  unfold cListA at p
  split at p
  · rename_i d
    cases h1 : dicOf d st with
    | some kvs =>
      rw [h1] at p
      obtain ⟨v, rfl, r⟩ := rs.one
      obtain ⟨q, zs, rfl, hq, rz⟩ := dicOf_ok w r h1
      exact .inl ⟨q, zs, rfl, .inl hq, p.newL w (keysD_reps rz)⟩
    | none =>
      rw [h1] at p
      exact .inr (cList_ok w rs p)
  · exact p.elim

/-! ### methods of dicts -/
/-- d.get(k), d.get(k, x) -/
def dGet1 (td tk : DE) : DE := fun τ st => (td τ st).bind fun d st => if (dicOf d st).isSome = true then (tk τ st).bind fun y st => match dicOf d st, keyOf y with
  | some kvs, some k => .ok ((valD kvs k).getD .non) st
  | _, _ => .bad else .bad
def dGet2 (td tk tx : DE) : DE := fun τ st => (td τ st).bind fun d st => if (dicOf d st).isSome = true then (tk τ st).bind fun y st => (tx τ st).bind fun z st => match dicOf d st, keyOf y with
  | some kvs, some k => .ok ((valD kvs k).getD z) st
  | _, _ => .bad else .bad
/-- d.pop(k), d.pop(k, x) -/
def dPop1 (td tk : DE) : DE := fun τ st => (td τ st).bind fun d st => if (dicOf d st).isSome = true then (tk τ st).bind fun y st => match d, keyOf y with
  | .ref n, some k => (match st[n]? with
    | some (.dK kvs) => (match valD kvs k with
      | some v => .ok v (st.set n (.dK (dropD kvs k)))
      | none => .bad)
    | _ => .bad)
  | _, _ => .bad else .bad
section
variable {X : Cx} {cl : Cl} {W : WX} {o e f : Expr} {apos cpos : Pos} {td tk tx : DE}
theorem isD_of {as : Mp} {st : Sto} {H : Hp} {d : D} {v : V} (w : Wd X.K cl as st H) (r : Rep X.K as H d v) (h : (dicOf d st).isSome = true) : ∃ a, v = .ref a ∧ IsD H a := by
  obtain ⟨kvs, h1⟩ := Option.isSome_iff_exists.mp h
  obtain ⟨q, zs, rfl, hq, _⟩ := dicOf_ok w r h1
  exact ⟨q, rfl, .inl ⟨zs, .inl hq⟩⟩
theorem j_dget1 (hu : X.A.units + 1 < cLine) (ho : JE X cl W o td) (he : JE X cl W e tk) (m : M1 X o "get" apos e cpos) : JE X cl W (.Call (.Attribute o "get" apos) [e] [] cpos) (dGet1 td tk) := by
  refine PE.mono (pe_dget1 hu ho he m) fun σ H Q ⟨as, st, τ, w, r, p⟩ => ⟨as, st, τ, w, r, p.bind.mono fun d st1 as1 H1 e1 w1 p1 x rx => ?_⟩
  split at p1
  · rename_i hd
    obtain ⟨a, rfl, hi⟩ := isD_of w1 rx hd
    refine ⟨a, rfl, hi, as1, st1, τ, w1, r.evo e1, p1.bind.mono fun y st2 as2 H2 e2 w2 p2 yv ry => ?_⟩
    split at p2
    · rename_i kvs k h1 h2
      obtain ⟨q, xs, eq, hq, rs⟩ := dicOf_ok w2 (rx.evo e2) h1
      cases eq
      have hy := keyOf_ok ry h2
      subst hy
      refine ⟨valV xs k, DGet.k hq, ?_⟩
      rcases valD_ok (k := k) rs with ⟨h3, h4⟩ | ⟨d', v', h3, h4, r'⟩
      · rw [h3] at p2; rw [h4]; exact p2.val w2 .non
      · rw [h3] at p2; rw [h4]; exact p2.val w2 r'
    · exact p2.elim
  · exact p1.elim
theorem j_dget2 (hu : X.A.units + 1 < cLine) (ho : JE X cl W o td) (he : JE X cl W e tk) (hf : JE X cl W f tx) (m : M2 X o "get" apos e f cpos) : JE X cl W (.Call (.Attribute o "get" apos) [e, f] [] cpos) (dGet2 td tk tx) := by
  refine PE.mono (pe_dget2 hu ho he hf m) fun σ H Q ⟨as, st, τ, w, r, p⟩ => ⟨as, st, τ, w, r, p.bind.mono fun d st1 as1 H1 e1 w1 p1 x rx => ?_⟩
  split at p1
  · rename_i hd
    obtain ⟨a, rfl, hi⟩ := isD_of w1 rx hd
    refine ⟨a, rfl, hi, as1, st1, τ, w1, r.evo e1, p1.bind.mono fun y st2 as2 H2 e2 w2 p2 yv ry => ⟨as2, st2, τ, w2, (r.evo e1).evo e2, p2.bind.mono fun z st3 as3 H3 e3 w3 p3 zv rz => ?_⟩⟩
    split at p3
    · rename_i kvs k h1 h2
      obtain ⟨q, xs, eq, hq, rs⟩ := dicOf_ok w3 ((rx.evo e2).evo e3) h1
      cases eq
      have hy := keyOf_ok (ry.evo e3) h2
      subst hy
      refine ⟨valV xs k, DGet.k hq, ?_⟩
      rcases valD_ok (k := k) rs with ⟨h3, h4⟩ | ⟨d', v', h3, h4, r'⟩
      · rw [h3] at p3; rw [h4]; exact p3.val w3 rz
      · rw [h3] at p3; rw [h4]; exact p3.val w3 r'
    · exact p3.elim
  · exact p1.elim
theorem j_dpop1 (ho : JE X cl W o td) (he : JE X cl W e tk) (m : M1 X o "pop" apos e cpos) : JE X cl W (.Call (.Attribute o "pop" apos) [e] [] cpos) (dPop1 td tk) := by
  refine PE.mono (pe_dpop1 ho he m) fun σ H Q ⟨as, st, τ, w, r, p⟩ => ⟨as, st, τ, w, r, p.bind.mono fun d st1 as1 H1 e1 w1 p1 x rx => ?_⟩
  split at p1
  · rename_i hd
    obtain ⟨a, rfl, hi⟩ := isD_of w1 rx hd
    refine ⟨a, rfl, hi, as1, st1, τ, w1, r.evo e1, p1.bind.mono fun y st2 as2 H2 e2 w2 p2 yv ry => ?_⟩
    split at p2
    · rename_i n k h2
      obtain ⟨b, eb, hb⟩ := (rx.evo e2).refAt
      cases eb
      split at p2
      · rename_i kvs hn
        obtain ⟨xs, hH, rs⟩ := w2.dK hb hn
        have hy := keyOf_ok ry h2
        subst hy
        rcases valD_ok (k := k) rs with ⟨h3, h4⟩ | ⟨d', v', h3, h4, r'⟩
        · rw [h3] at p2; exact p2.elim
        · rw [h3] at p2
          exact ⟨xs, k, v', hH, rfl, h4, Post.ok p2 (Evo.wr w2 hb) (w2.wr hb (.dK (dropD_ok rs))) _ (r'.evo (Evo.wr w2 hb))⟩
      · exact p2.elim
    · exact p2.elim
  · exact p1.elim
/-! ### methods of texts -/
def mFind : DM := fun x ds st => match x, ds with
  | .str a, [.str b] => .ok (.int (Txt.find a b)) st
  | _, _ => .bad
def mFind2 : DM := fun x ds st => match x, ds with
  | .str a, [.str b, .int i] => .ok (.int (Txt.find3 a b i)) st
  | _, _ => .bad
def mCount : DM := fun x ds st => match x, ds with
  | .str a, [.str b] => .ok (.int (Txt.count a b)) st
  | _, _ => .bad
def mRfind : DM := fun x ds st => match x, ds with
  | .str a, [.str b] => .ok (.int (Txt.rfind a b)) st
  | _, _ => .bad
def mStarts : DM := fun x ds st => match x, ds with
  | .str a, [.str b] => .ok (.bl (Txt.startswith a b)) st
  | _, _ => .bad
def mJoin : DM := fun x ds st => match x, ds with
  | .str a, [d] => match seqOf d st with
    | some xs => (match strsOf xs with
      | some ys => if (ys.map (·.length)).sum + ys.length * a.length ≤ 16777216 then .ok (.str (Txt.join a ys)) st else .bad
      | none => .bad)
    | none => .bad
  | _, _ => .bad
theorem mj_find : MtJ X cl "str.find" mFind := MtJ.of mt_find fun E as st H x xs d ds Q w rx rs p => by
  unfold mFind at p
  split at p
  · obtain ⟨v, rfl, rv⟩ := rs.one
    cases rx; cases rv
    exact ⟨_, _, rfl, rfl, p.val w (.int _)⟩
  · exact p.elim
theorem mj_find2 : MtJ X cl "str.find" mFind2 := MtJ.of mt_find3 fun E as st H x xs d ds Q w rx rs p => by
  unfold mFind2 at p
  split at p
  · obtain ⟨v, u, rfl, rv, ru⟩ := rs.two
    cases rx; cases rv; cases ru
    exact ⟨_, _, _, rfl, rfl, p.val w (.int _)⟩
  · exact p.elim
theorem mj_count : MtJ X cl "str.count" mCount := MtJ.of mt_count fun E as st H x xs d ds Q w rx rs p => by
  unfold mCount at p
  split at p
  · obtain ⟨v, rfl, rv⟩ := rs.one
    cases rx; cases rv
    exact ⟨_, _, rfl, rfl, p.val w (.int _)⟩
  · exact p.elim
theorem mj_rfind : MtJ X cl "str.rfind" mRfind := MtJ.of mt_rfind fun E as st H x xs d ds Q w rx rs p => by
  unfold mRfind at p
  split at p
  · obtain ⟨v, rfl, rv⟩ := rs.one
    cases rx; cases rv
    exact ⟨_, _, rfl, rfl, p.val w (.int _)⟩
  · exact p.elim
theorem mj_startswith : MtJ X cl "str.startswith" mStarts := MtJ.of mt_startswith fun E as st H x xs d ds Q w rx rs p => by
  unfold mStarts at p
  split at p
  · obtain ⟨v, rfl, rv⟩ := rs.one
    cases rx; cases rv
    exact ⟨_, _, rfl, rfl, p.val w (.bl _)⟩
  · exact p.elim
theorem mj_join : MtJ X cl "str.join" mJoin := MtJ.of mt_join fun E as st H x xs d ds Q w rx rs p => by
  unfold mJoin at p
  split at p
  · rename_i a d
    obtain ⟨v, rfl, rv⟩ := rs.one
    cases rx
    cases h1 : seqOf d st with
    | none => rw [h1] at p; exact p.elim
    | some ys =>
      rw [h1] at p
      dsimp only at p
      obtain ⟨q, zs, rfl, hq, rz⟩ := seqOf_ok w rv h1
      cases h2 : strsOf ys with
      | none => rw [h2] at p; exact p.elim
      | some us =>
        rw [h2] at p
        dsimp only at p
        rw [strsOf_eq h2] at rz
        rw [repsS rz] at hq
        split at p
        · rename_i hl
          exact ⟨a, q, us, rfl, rfl, hq, hl, p.val w (.str _)⟩
        · exact p.elim
  · exact p.elim
end
/-! ### int of a text, text of an int -/
def cIntA : DC := fun ds st => match ds with
  | [.str a] => (match PySem.intText? a with
    | some n => if a.length ≤ 640 then .ok (.int n) st else .bad
    | none => .bad)
  | ds => cInt ds st
def cStr : DC := fun ds st => match ds with
  | [.int i] => if i.natAbs.log2 < 1920 then .ok (.str (toString i)) st else .bad
  | [.str a] => .ok (.str a) st
  | _ => .bad
section
variable {X : Cx} {cl : Cl}
theorem cj_intA : CallJ X cl (.type "int") cIntA := CallJ.of (CallR.or' call_int_str call_int1) fun E as st H xs ds Q w rs p => by
  unfold cIntA at p
  split at p
  · rename_i a
    obtain ⟨v, rfl, r⟩ := rs.one
    cases r
    split at p
    · rename_i n hn
      split at p
      · rename_i hl
        exact .inl ⟨a, n, rfl, hn, hl, p.val w (.int _)⟩
      · exact p.elim
    · exact p.elim
  · unfold cInt at p
    split at p
    · obtain ⟨v, rfl, r⟩ := rs.one
      cases r
      exact .inr (.inl ⟨_, rfl, p.val w (.int _)⟩)
    · obtain ⟨v, rfl, r⟩ := rs.one
      cases r
      exact .inr (.inr ⟨_, rfl, p.val w (.int _)⟩)
    · exact p.elim
end
end DL

/-! DL11: fields as targets, rows again and again, what is never come to. -/
namespace DL
open PySem PySem.Spec PyProof.Rows L2
/-! ### a field as one of several targets -/
def gFldR (K : PySem.W.Frag) (to : TE) (f : Str) : TG := fun v σ H Q => to σ H fun x H1 => ∃ a C dx fs, x = .ref a ∧ H1 a = some (.ins C dx fs) ∧ Cls K C ∧ NoAttr K C f ∧ fs.length < 1000 ∧ Q σ (upd H1 a (.ins C dx (putF f v fs)))
theorem pg_fldR {X : Cx} {o : Expr} {f : Str} {pos : Pos} {to : TE} (ho : PE X o to)
    (ha : ∀ v, assign (.Attribute o f pos) X.env v = (do
      let ov ← holding [v] (eval o X.env)
      standAt pos.atName
      holding [v, ov] (setAttr ov f v)
      release [v, ov] []) := by intro _; rfl) : PG X (.Attribute o f pos) (gFldR X.K to f) := by
  refine ⟨fun pins s σ H v u Q I r h => ?_⟩
  rw [ha]
  refine wpAny_bind (wpAny_holding (thn (ho.run pins s σ H _ I h) fun ov s1 ⟨x, H1, I1, r1, a, C, dx, fs, ex, ea, c, n, l, q⟩ => ?_))
  subst ex
  obtain rfl : ov = Value.ref a := r1
  refine wpAny_bind (wpAny_standAt (wpAny_bind (wpAny_holding (setattr_ok I1 ea c n l r fun s2 I2 => ?_))))
  exact wpAny_release ⟨σ, _, I2, q⟩
def gFld (f : Str) (cs : List Str) (to : DE) : DG := fun v τ st => (to τ st).bind fun d st => (setF f cs d v τ st).bind fun r st => .ok r.2 st
def gxNil : DGs := fun ds τ st => match ds with
  | [] => .ok τ st
  | _ => .bad
/-- never an exception -/
@[reducible] def R.nox {α : Type} (r : R α) : R α := match r with
  | .exc _ _ => .bad
  | r => r
theorem Post.nox {α : Type} {K : PySem.W.Frag} {cl : Cl} {E E' : XK} {as : Mp} {H : Hp} {r : R α} {Q : α → Sto → Mp → Hp → Prop} (p : Post K cl E as H r.nox Q) : Post K cl E' as H r Q := by
  cases r with
  | ok a st => exact p
  | exc x st => exact (show False from p).elim
  | bad => exact p
def gxCons (g : DG) (u : DGs) : DGs := fun ds τ st => match ds with
  | d :: ds => (g d τ st).bind fun τ st => (u ds τ st).nox
  | [] => .bad
def gTupX (n : Nat) (g : DGs) : DG := fun d τ st => match d with
  | .tup ds => if ds.length = n then g ds τ st else .bad
  | _ => .bad
section
variable {X : Cx} {cl : Cl} {W : WX} {pos : Pos}
theorem jg_fld {o : Expr} {f : Str} {cs : List Str} {to : DE} (hf : FldOk X.K cl f cs) (ho : JE X cl W o to)
    (ha : ∀ v, assign (.Attribute o f pos) X.env v = (do
      let ov ← holding [v] (eval o X.env)
      standAt pos.atName
      holding [v, ov] (setAttr ov f v)
      release [v, ov] []) := by intro _; rfl) : JG X cl W (.Attribute o f pos) (gFld f cs to) := by
  refine PG.mono (pg_fldR ho ha) fun v σ H Q ⟨as, st, τ, d, w, e, r, p⟩ => ⟨as, st, τ, w, e, p.bind.mono fun d2 st2 as2 H2 e2 w2 p2 x rx => ?_⟩
  unfold setF at p2
  split at p2
  · rename_i n
    obtain ⟨a, rfl, ha⟩ := rx.refAt
    split at p2
    · rename_i c fs hn
      split at p2
      · rename_i hc
        obtain ⟨dx, fx, hH, rs⟩ := w2.ins ha hn
        refine ⟨a, cl c, dx, fx, rfl, hH, (hf c hc.1).1, (hf c hc.1).2, by rw [← rs.len]; exact hc.2, ?_⟩
        exact Post.ok p2 (Evo.wr w2 ha) (w2.wr ha (.ins (putFD_ok (r.evo e2) rs))) σ ((e.evo e2).evo (Evo.wr w2 ha))
      · exact p2.elim
    · exact p2.elim
  · exact p2.elim
theorem jgx_nil : JGs X cl W [] gxNil := PGs.mono pgs_nil fun vs σ H Q ⟨as, st, τ, ds, w, e, r, p⟩ => by
  cases r with
  | nil => exact ⟨rfl, Post.here (show Post X.K cl (WE W σ) as H (.ok τ st) _ from p) w σ e⟩
  | cons _ _ => exact (show False from p).elim
theorem jgx_cons {e : Expr} {es : List Expr} {g : DG} {u : DGs} (h1 : JG X cl W e g) (h2 : JGs X cl W es u)
    (hs : (assignEach (e :: es) X.env).map (·.2) = assign e X.env :: (assignEach es X.env).map (·.2) := by rfl) : JGs X cl W (e :: es) (gxCons g u) := by
  refine PGs.mono (pgs_cons h1 h2 hs) fun vs σ H Q ⟨as, st, τ, ds, w, e, r, p⟩ => ?_
  cases r with
  | nil => exact (show False from p).elim
  | @cons d v ds vs r rs =>
    have p : Post X.K cl (WE W σ) as H ((g d τ st).bind fun τ st => (u ds τ st).nox) _ := p
    exact ⟨v, vs, rfl, as, st, τ, d, w, e, r, p.bind.mono fun τ1 st1 as1 H1 e1 w1 p1 σ1 r1 => ⟨as1, st1, τ1, ds, w1, r1, rs.evo e1, p1.nox⟩⟩
theorem jgx_tup {es : List Expr} {k n : Nat} {g : DGs} (hc : X.calm = true) (h : JGs X cl W es g)
    (hn : (assignEach es X.env).length = n := by rfl) (hst : (assignEach es X.env).findIdx? (·.1) = none := by rfl) : JG X cl W (.Tuple es k pos) (gTupX n g) := by
  refine PG.mono (pg_tup hc h hn hst) fun v σ H Q ⟨as, st, τ, d, w, e, r, p⟩ => ?_
  unfold gTupX at p
  split at p
  · rename_i ds
    by_cases hl : ds.length = n
    · rw [if_pos hl] at p
      cases r with
      | tup s rs => exact ⟨_, _, rfl, s.t, by rw [← rs.len]; exact hl, as, st, τ, ds, w, e, rs, p⟩
    · rw [if_neg hl] at p; exact p.elim
  · exact p.elim
/-- what is never come to -/
def dNeverE : DE := fun _ _ => .bad
theorem j_never {e : Expr} : JE X cl W e dNeverE := ⟨fun pins s σ H Q I ⟨as, st, τ, w, e, p⟩ => (show False from p).elim⟩
theorem js_never' {s : Stmt} : JS X cl W s dNever := ⟨fun pins s σ H M I ⟨as, st, τ, w, e, p⟩ => (show False from p).elim⟩
end

/-! ### the classes' addresses -/
def clOf (w : World) (l : List (Str × Addr)) : Cl := ⟨fun s => (l.lookup s).getD 0, w⟩
theorem FldOk.nil {K : PySem.W.Frag} {cl : Cl} {f : Str} : FldOk K cl f [] := fun _ h => (List.not_mem_nil h).elim
theorem FldOk.cons {K : PySem.W.Frag} {cl : Cl} {f c : Str} {cs : List Str} (h1 : Cls K (cl c)) (h2 : NoAttr K (cl c) f) (h : FldOk K cl f cs) : FldOk K cl f (c :: cs) := fun d hd => by
  rcases List.mem_cons.mp hd with e | hd
  · rw [e]; exact ⟨h1, h2⟩
  · exact h d hd
end DL

/-! DL12: reckoning: equality of data, comprehensions that change nothing. -/
namespace DL
open PySem PySem.Spec PyProof.Rows L2

/-! ### data that may be told equal -/
mutual
def plD : D → Bool
  | .non => true
  | .bl _ => true
  | .int _ => true
  | .str x => PyData.strOk x
  | .tup ds => plDs ds
  | .lst ds => plDs ds
  | .fro ds => plDs ds
  | .dic _ => false
  | .ref _ => false
  | .raw _ => false
def plDs : List D → Bool
  | [] => true
  | d :: ds => plD d && plDs ds
end
mutual
def pyD : D → PyData
  | .non => .none
  | .bl b => .bool b
  | .int i => .int i
  | .str x => .str x
  | .tup ds => .tuple (pyDs ds)
  | .lst ds => .list (pyDs ds)
  | .fro ds => .list (pyDs ds)
  | .dic _ => .none
  | .ref _ => .none
  | .raw _ => .none
def pyDs : List D → List PyData
  | [] => []
  | d :: ds => pyD d :: pyDs ds
end
mutual
def dpD : D → Nat
  | .tup ds => dpDs ds + 1
  | .lst ds => dpDs ds + 1
  | .fro ds => dpDs ds + 1
  | _ => 0
def dpDs : List D → Nat
  | [] => 0
  | d :: ds => max (dpD d) (dpDs ds)
end
mutual
theorem toPy_pl : ∀ {d : D}, plD d = true → toPy d = some (pyD d) ∧ (pyD d).canLay0 = true ∧ (pyD d).depth = dpD d
  | .non, _ => ⟨rfl, rfl, rfl⟩
  | .bl _, _ => ⟨rfl, rfl, rfl⟩
  | .int _, _ => ⟨rfl, rfl, rfl⟩
  | .str _, h => ⟨rfl, h, rfl⟩
  | .tup ds, h => by
    obtain ⟨h1, h2, h3⟩ := toPys_pl (ds := ds) h
    refine ⟨?_, h2, ?_⟩
    · show (toPys ds).map PyData.tuple = _; rw [h1]; rfl
    · show PyData.depthAll (pyDs ds) + 1 = dpDs ds + 1; rw [h3]
  | .lst ds, h => by
    obtain ⟨h1, h2, h3⟩ := toPys_pl (ds := ds) h
    refine ⟨?_, h2, ?_⟩
    · show (toPys ds).map PyData.list = _; rw [h1]; rfl
    · show PyData.depthAll (pyDs ds) + 1 = dpDs ds + 1; rw [h3]
  | .fro ds, h => by
    obtain ⟨h1, h2, h3⟩ := toPys_pl (ds := ds) h
    refine ⟨?_, h2, ?_⟩
    · show (toPys ds).map PyData.list = _; rw [h1]; rfl
    · show PyData.depthAll (pyDs ds) + 1 = dpDs ds + 1; rw [h3]
theorem toPys_pl : ∀ {ds : List D}, plDs ds = true → toPys ds = some (pyDs ds) ∧ PyData.canLayAll0 (pyDs ds) = true ∧ PyData.depthAll (pyDs ds) = dpDs ds
  | [], _ => ⟨rfl, rfl, rfl⟩
  | d :: ds, h => by
    have h : (plD d && plDs ds) = true := h
    rw [Bool.and_eq_true_iff] at h
    obtain ⟨h1, h2, h3⟩ := toPy_pl h.1
    obtain ⟨g1, g2, g3⟩ := toPys_pl h.2
    refine ⟨?_, ?_, ?_⟩
    · unfold toPys; rw [h1, g1]; rfl
    · show (PyData.canLay0 (pyD d) && PyData.canLayAll0 (pyDs ds)) = true; rw [h2, g2]; rfl
    · show max (PyData.depth (pyD d)) (PyData.depthAll (pyDs ds)) = max (dpD d) (dpDs ds); rw [h3, g3]
end
/-- the two are told equal -/
def eqvD (a b : D) : Bool := PyData.eqv (pyD a) (pyD b)
theorem topPy_pl {d : D} {st : Sto} (h : plD d = true) : topPy d st = some (pyD d) := by
  cases d with
  | ref _ => cases h
  | _ => exact (toPy_pl h).1
theorem shaped_pl {d : D} (h : plD d = true) (hd : dpD d ≤ 64) : SeqAt.shaped (pyD d) = true := by
  unfold SeqAt.shaped
  rw [(toPy_pl h).2.1, (toPy_pl h).2.2, decide_eq_true hd]
  rfl
theorem dq_eqv {neg : Bool} {a b : D} {st : Sto} (ha : plD a = true) (hb : plD b = true) (da : dpD a ≤ 64) (db : dpD b ≤ 64) : dEq neg a b st = .ok (.bl (neg ^^ eqvD a b)) st := by
  unfold dEq
  rw [topPy_pl ha, topPy_pl hb]
  dsimp only
  rw [shaped_pl ha da, shaped_pl hb db]
  rfl
theorem eqvD_refl {a : D} (h : plD a = true) : eqvD a a = true := PySem.SeqAt.eqv_refl _ (toPy_pl h).2.1
theorem dq_refl {neg : Bool} {a : D} {st : Sto} (ha : plD a = true) (da : dpD a ≤ 64) : dEq neg a a st = .ok (.bl (!neg)) st := by
  rw [dq_eqv ha ha da da, eqvD_refl ha]
  cases neg <;> rfl
theorem plDs_all {ds : List D} : plDs ds = true ↔ ∀ d ∈ ds, plD d = true := by
  induction ds with
  | nil => exact ⟨fun _ _ h => (List.not_mem_nil h).elim, fun _ => rfl⟩
  | cons d ds ih =>
    show (plD d && plDs ds) = true ↔ _
    rw [Bool.and_eq_true_iff, ih]
    simp
theorem dpDs_all {ds : List D} {n : Nat} : dpDs ds ≤ n ↔ ∀ d ∈ ds, dpD d ≤ n := by
  induction ds with
  | nil => exact ⟨fun _ _ h => (List.not_mem_nil h).elim, fun _ => Nat.zero_le _⟩
  | cons d ds ih =>
    show max (dpD d) (dpDs ds) ≤ n ↔ _
    rw [Nat.max_le, ih]
    simp
theorem pyDs_map : ∀ ds : List D, pyDs ds = ds.map pyD
  | [] => rfl
  | d :: ds => by rw [List.map_cons, ← pyDs_map ds]; rfl
/-- a row and the empty row -/
theorem dq_nilL {neg : Bool} {ds : List D} {st : Sto} (h : ∀ d ∈ ds, plD d = true) (hd : ∀ d ∈ ds, dpD d ≤ 63) : dEq neg (.lst ds) (.lst []) st = .ok (.bl (neg ^^ ds.isEmpty)) st := by
  rw [dq_eqv (show plD (.lst ds) = true from plDs_all.mpr h) rfl (Nat.succ_le_succ (dpDs_all.mpr hd)) (by decide)]
  cases ds <;> rfl
theorem dq_nilT {neg : Bool} {ds : List D} {st : Sto} (h : ∀ d ∈ ds, plD d = true) (hd : ∀ d ∈ ds, dpD d ≤ 63) : dEq neg (.tup ds) (.tup []) st = .ok (.bl (neg ^^ ds.isEmpty)) st := by
  rw [dq_eqv (show plD (.tup ds) = true from plDs_all.mpr h) rfl (Nat.succ_le_succ (dpDs_all.mpr hd)) (by decide)]
  cases ds <;> rfl
theorem dq_nilR {neg : Bool} {n : Nat} {ds : List D} {st : Sto} (hn : st[n]? = some (.lst ds)) (h : ∀ d ∈ ds, plD d = true) (hd : ∀ d ∈ ds, dpD d ≤ 63) : dEq neg (.ref n) (.lst []) st = .ok (.bl (neg ^^ ds.isEmpty)) st := by
  have e : topPy (.ref n) st = some (.list (pyDs ds)) := by
    show (match st[n]? with | some (.lst ds) => (toPys ds).map PyData.list | _ => none) = _
    rw [hn]
    show (toPys ds).map PyData.list = _
    rw [(toPys_pl (plDs_all.mpr h)).1]
    rfl
  have s := shaped_pl (d := .lst ds) (plDs_all.mpr h) (Nat.succ_le_succ (dpDs_all.mpr hd))
  unfold dEq
  rw [e]
  show (if (SeqAt.shaped (pyD (.lst ds)) && SeqAt.shaped (PyData.list [])) = true then _ else _) = _
  rw [s]
  cases ds <;> rfl

/-! ### comprehensions that change nothing -/
theorem compL_map {α : Type} {tg : Tgt} {tt : DT} {te : DE} {τ : En} {st : Sto} (c : α → D) (g : α → En) (p : α → Bool) (f : α → D) {ns : List α} (hp : ∀ a ∈ ns, tg.put (c a) τ = some (g a))
    (ht : ∀ a ∈ ns, tt (g a) st = .ok (p a) st) (he : ∀ a ∈ ns, p a = true → te (g a) st = .ok (f a) st) (hl : ns.length ≤ sizeLine) :
    compL tg tt te τ (ns.map c) [] st = .ok ((ns.filter p).map f) st := by
  suffices h : ∀ (ns : List α) (acc : List D), (∀ a ∈ ns, tg.put (c a) τ = some (g a)) → (∀ a ∈ ns, tt (g a) st = .ok (p a) st) → (∀ a ∈ ns, p a = true → te (g a) st = .ok (f a) st) → acc.length + ns.length ≤ sizeLine →
      compL tg tt te τ (ns.map c) acc st = .ok (acc ++ (ns.filter p).map f) st from h ns [] hp ht he (by simpa using hl)
  intro ns
  induction ns with
  | nil => intro acc _ _ _ _; simp [compL]
  | cons a ns ih =>
    intro acc hp ht he hl
    have h1 := hp a List.mem_cons_self
    have h2 := ht a List.mem_cons_self
    have hp' := fun b hb => hp b (List.mem_cons_of_mem _ hb)
    have ht' := fun b hb => ht b (List.mem_cons_of_mem _ hb)
    have he' := fun b hb => he b (List.mem_cons_of_mem _ hb)
    rw [List.length_cons] at hl
    rw [List.map_cons]
    unfold compL
    rw [h1]
    dsimp only
    rw [h2]
    dsimp only
    cases hb : p a with
    | true =>
      rw [if_pos rfl, he a List.mem_cons_self hb]
      dsimp only
      rw [if_pos (by omega), ih (acc ++ [f a]) hp' ht' he' (by rw [List.length_append]; simp; omega), List.filter_cons_of_pos hb]
      simp
    | false =>
      rw [if_neg (by decide), ih acc hp' ht' he' (by omega), List.filter_cons_of_neg (by rw [hb]; decide)]
theorem rng_nat {lo hi : Int} : rng lo hi = (List.range (hi - lo).toNat).map fun (k : Nat) => D.int (lo + (k : Int)) := rfl
theorem filter_yes {α : Type} (l : List α) : l.filter (fun _ => true) = l := by simp

/-! ### steps -/
section
variable {t u : DS} {c : DT} {te : DE} {τ τ' : En} {st st' : Sto} {d : D} {i : Nat}
theorem seq_nx (h : t τ st = .ok (.nx, τ') st') : dSeq t u τ st = u τ' st' := by unfold dSeq; rw [h]
theorem seq_rt (h : t τ st = .ok (.rt d, τ') st') : dSeq t u τ st = .ok (.rt d, τ') st' := by unfold dSeq; rw [h]
theorem asg_nx (h : te τ st = .ok d st') : dAsg te (gN i) τ st = .ok (.nx, τ.set i (some d)) st' := by unfold dAsg; rw [h]; rfl
theorem ifs_t (h : c τ st = .ok true st') : dIfS c t u τ st = t τ st' := by unfold dIfS; rw [h]; rfl
theorem ifs_f (h : c τ st = .ok false st') : dIfS c t u τ st = u τ st' := by unfold dIfS; rw [h]; rfl
theorem for_eq {it : DI} {g : DG} {b : DS} {ds : List D} {r : R (Fl × En)} (hi : it τ st = .ok ds st') (h : forL g b ds τ st' = r) : dFor it g b τ st = r := by unfold dFor; rw [hi]; exact h
theorem ret_rt (h : te τ st = .ok d st') : dRet te τ st = .ok (.rt d, τ) st' := by unfold dRet; rw [h]
end
end DL

/-! DL13: products with one factor within 2^64. -/
namespace DL
open PySem PySem.Spec PyProof.Rows L2
def dMulB : D2 := opI2 (fun i j => i * j) fun i j => decide (i.natAbs < 2 ^ 64) || decide (j.natAbs < 2 ^ 64)
section
variable {X : Cx} {cl : Cl}
theorem oj_mulB : OpJ X cl (binaryOp .Mult) dMulB := oj_I op_mul fun i j h => by
  rcases Bool.or_eq_true_iff.mp h with h | h
  · have := of_decide_eq_true h; exact .inl ⟨by omega, by omega⟩
  · have := of_decide_eq_true h; exact .inr ⟨by omega, by omega⟩
end
theorem FnD.bad {P : Program} {w : World} {K : PySem.W.Frag} {mg : Str → Option Value} {base : Heap} {cl : Cl} {k : Nat} {f : Addr} {fd : FuncData} {ps : List Str} : FnD P w K mg base cl k f fd ps (fun _ _ => R.bad) :=
  ⟨fun vs H Q E ⟨_, _, _, _, _, p⟩ => (show False from p).elim, fun A outer s H args us vs Q E _ _ _ _ ⟨_, _, _, _, _, p⟩ => (show False from p).elim⟩
end DL

/-! DL14: defs with defaults; a dict of the text by its texts. -/
namespace DL
open PySem PySem.Spec PyProof.Rows L2
theorem FunD.okQ {CX : CXT} {P : Program} {w : World} {K : PySem.W.Frag} {mg : Str → Option Value} {base : Heap} {x qual : Str} {params : Arguments} {body : List Stmt} {scope : Scope} {dvs : List V} {kws : List (Str × V)} {f : Addr} {fd : FuncData} {N ps : List Str} {k : Nat} {sp : Sp} (F : FunD K x qual params body scope dvs kws f fd) (S : FnScope N ps scope) (len : ∀ vs H Q E, sp vs H Q E → vs.length = ps.length)
    (hbody : ∀ (cdv : Value) (A : Around) (outer : List Env) (s : Shared) (H : Hp) (vs : List V) (Q : VK) (E : XK), Rm k (A.deeper (envOfC qual scope s.heap.objs.size f cdv)) → sp vs H Q E →
      ∃ t, PSs (cxOf CX P w K mg base N qual scope f cdv A outer s H E) body t ∧ t { nx := fun _ H' => Q .non H', rt := Q } (start N vs) H) : FnQ P w K mg base CX (k + 1) f fd ps sp := by
  obtain ⟨oc, od, dV, kV, doc, pm, an, cdv, ct, osl, rfl, lk, hcd, _, _⟩ := F.ex
  exact fnq_of lk hcd S len fun A outer s H vs Q E hr hsp => hbody cdv A outer s H vs Q E hr hsp
section
variable {P : Program} {w : World} {K : PySem.W.Frag} {mg : Str → Option Value} {base : Heap} {cl : Cl}
theorem FnD.ofD {x qual : Str} {st : Stmt} {f : Addr} {fd : FuncData} {N ps : List Str} {k : Nat} {body : DS} {dvs : List V} (F : FunD K x qual (defArgs st) (defBody st) (defScope st) dvs [] f fd) (S : FnScope N ps (defScope st))
    (hb : ∀ (cdv : Value) (A : Around) (outer : List Env) (s : Shared) (H : Hp) (E : XK), Rm k (A.deeper (envOfC qual (defScope st) s.heap.objs.size f cdv)) →
      JSs (cxOf (L2.CX P w) P w K mg base N qual (defScope st) f cdv A outer s H E) cl (Wk E) (defBody st) body) :
    FnD P w K mg base cl (k + 1) f fd ps (dDef N.length ps.length body) := by
  refine FunD.okQ F S (fun vs H Q E h => ?_) fun cdv A outer s H vs Q E hr h => ⟨_, hb cdv A outer s H E hr, ?_⟩
  · obtain ⟨as, st, ds, wd, r, p⟩ := h
    unfold dDef at p
    split at p
    · rename_i hl
      rw [← r.len]; exact hl
    · exact p.elim
  · obtain ⟨as, st, ds, wd, r, p⟩ := h
    refine ⟨as, st, startD N.length ds, wd, RepE.start r, ?_⟩
    unfold dDef at p
    split at p
    · cases h : body (startD N.length ds) st with
      | bad => rw [h] at p; exact p.elim
      | exc x st1 => rw [h] at p; exact p.elim
      | ok r st1 =>
        rw [h] at p
        obtain ⟨fl, τ1⟩ := r
        cases fl with
        | nx => exact fun as1 H1 e1 w1 σ1 r1 => p as1 H1 e1 w1 .non .non
        | rt d => exact fun as1 H1 e1 w1 v rv => p as1 H1 e1 w1 v rv
        | bk => exact p.elim
        | ct => exact p.elim
        | ex x => exact fun as1 H1 e1 w1 σ1 u dx r1 rx => p u dx as1 H1 e1 w1 rx
    · exact p.elim
/-- a def's binding with the defaults dvs behind -/
def BindsD (K : PySem.W.Frag) (fd : FuncData) (ps : List Str) (dvs : List V) : Prop := ∃ dfs, Vals dvs dfs ∧ Binds K fd ps dfs
end
/-- a dict of the text -/
def TabAt (K : PySem.W.Frag) (w : World) (mg : Str → Option Value) (x : Str) (kvs : List (Key × D)) : Prop :=
  ∃ a, mg x = some (.ref a) ∧ ∀ z d, valD kvs (.inr z) = some d → ∃ v, KDct K w a z v ∧ ∀ as H, Rep K as H d v
def dTab (kvs : List (Key × D)) (te : DE) : DE := fun τ st => (te τ st).bind fun y st => match y with
  | .str x => (match valD kvs (.inr x) with
    | some d => .ok d st
    | none => .bad)
  | _ => .bad
section
variable {X : Cx} {cl : Cl} {W : WX} {x : Str} {p pos : Pos} {e : Expr} {te : DE} {kvs : List (Key × D)}
theorem j_tab (hg : Gl X x) (T : TabAt X.K X.w X.mg x kvs) (he : JE X cl W e te) (hd : (x == ("__debug__" : Str)) = false := by decide) (hs : PlainIx e := by intro _ _; rfl) : JE X cl W (.Subscript (.Name x p) e pos) (dTab kvs te) := by
  obtain ⟨a, hm, ht⟩ := T
  refine PE.mono (pe_ixS (r := fun _ => rIxD X.K X.w) (fun _ => ix_kdict) (C8.pe_gc (v := .ref a) hg ⟨_, hm, rfl⟩ hd) he hs) fun σ H Q ⟨as, st, τ, w, e, q⟩ => ?_
  refine ⟨as, st, τ, w, e, q.bind.mono fun d st1 as1 H1 e1 w1 p1 v rv => ?_⟩
  split at p1
  · rename_i z
    cases rv
    split at p1
    · rename_i d hd
      obtain ⟨u, hk, hr⟩ := ht z d hd
      exact ⟨a, z, u, rfl, rfl, hk, p1.val w1 (hr _ _)⟩
    · exact p1.elim
  · exact p1.elim
/-- o.m(e, ..), the last ones left out -/
theorem j_methB {c m : Str} {pl : Sem Bool} {F : DF} {k : Nat} {f : Addr} {fd : FuncData} {ps : List Str} {dvs : List V} {dds : List D} {o : Expr} {es : List Expr} {t : DA} {to : DE} {apos : Pos} (hx : ∀ σ, PassesAt (L2.CX X.prog X.w) X σ (WE W σ)) (hc : Cls X.K (cl c)) (hm : Meth X.K (cl c) m f) (G : FnD X.prog X.w X.K X.mg X.base cl k f fd ps F) (hr : Rm k X.A) (hb : BindsD X.K fd ps dvs) (hd : ∀ as H, Reps X.K as H dds dvs)
    (ho : JE X cl W o to) (ha : JA X cl W (e :: es) t)
    (hst : starEach (e :: es) X.env = (false, eval e X.env) :: starEach es X.env := by rfl) (hpl : (backTo pos (starEach es X.env)).any (·.1) = false := by rfl)
    (ht : eval (.Call (.Attribute o m apos) (e :: es) [] pos) X.env = (do
      let ov ← eval o X.env
      standAt apos.atName
      let (f, first) ← holding [ov] (getMethod ov m pl)
      callWith pos f first (backTo pos (starEach (e :: es) X.env)) (backToKw pos (keywordEach [] X.env))) := by rfl) :
    JE X cl W (.Call (.Attribute o m apos) (e :: es) [] pos) (dMeth c m (fun ds st => F (ds ++ dds) st) to t) := by
  obtain ⟨dfs, hv, hb⟩ := hb
  exact j_methD hx hc hm G hr hb hv hd ho ha hst hpl ht
/-- the rows of the dict, as they stand -/
inductive KTabs (K : PySem.W.Frag) (a : Addr) : List (Key × D) → Prop
  | nil : KTabs K a []
  | cons {z : Str} {d : D} {u : Value} {kvs : List (Key × D)} : PySem.W.nsIn K a z = some (some u) → KRep K d u → KTabs K a kvs → KTabs K a ((.inr z, d) :: kvs)
theorem KTabs.at {K : PySem.W.Frag} {a : Addr} : ∀ {kvs : List (Key × D)}, KTabs K a kvs → ∀ {z : Str} {d : D}, valD kvs (.inr z) = some d → ∃ u, PySem.W.nsIn K a z = some (some u) ∧ KRep K d u
  | _, .nil, _, _, h => by cases h
  | _, .cons (z := z') h1 h2 t, z, d, h => by
    unfold valD at h
    split at h
    · rename_i e
      cases h
      cases e
      exact ⟨_, h1, h2⟩
    · exact KTabs.at t h
theorem TabAt.of {K : PySem.W.Frag} {w : World} {mg : Str → Option Value} {x : Str} {kvs : List (Key × D)} {a : Addr} {es : Array DictEntry} {n : Nat} (hm : mg x = some (.ref a)) (hl : K.lookup a = some ⟨.type "dict", none, .dict es n, #[]⟩) (hk : PySem.W.KeysLit w.params es.toList) (ht : KTabs K a kvs) : TabAt K w mg x kvs :=
  ⟨a, hm, fun z d hd => by
    obtain ⟨u, h1, h2⟩ := ht.at hd
    obtain ⟨v, r1, r2⟩ := h2.go
    exact ⟨v, ⟨es, n, u, hl, hk, h1, r1⟩, r2⟩⟩
end
/-! ### a dict that is only read; str, lower -/
section
variable {X : Cx} {cl : Cl} {W : WX} {pos : Pos}
theorem j_dispF {ks : List (Option Expr)} {vs : List Expr} {trs : List (TE × TE)} {u : DPs} (h : JPs X cl W pos ks vs trs u) (hall : ks.all (·.isSome) = true := by rfl) (hl : ks.length = vs.length := by rfl) (h0 : ks ≠ [] := by decide)
    (h15 : ks.length ≤ 15 := by decide) : JE X cl W (.Dict ks vs pos) (dDispF u) := by
  refine PE.mono (pe_disp h.pps hall hl h0 h15) fun σ H Q ⟨as, st, τ, w, e, p⟩ a ha => ?_
  have m0 : Mk1 as H a (as.hide a) (upd H a (.dK [])) := Mk1.start w ha
  refine h.run (w.hide ha) (e.mv (Mv.hide ha)) ?_
  unfold dDispF at p
  cases hr : u τ st with
  | bad => rw [hr] at p; exact p.elim
  | exc x st1 =>
    rw [hr] at p
    intro c dx as1 H1 e1 w1 r1
    obtain ⟨m1, k1⟩ := m0.next e1 w
    exact p c dx _ H1 m1.evo (m1.fix w w1).1 (r1.mv m1.mv)
  | ok kvs st1 =>
    rw [hr] at p
    intro as1 H1 e1 w1 xs rs
    obtain ⟨m1, k1⟩ := m0.next e1 w
    have p : Post X.K cl (WE W σ) as H (if kvs.length ≤ 15 then .ok (.dic (mergeD kvs)) st1 else .bad) (QV X.K Q) := p
    split at p
    · rename_i hl
      refine ⟨k1.trans upd_same, xs, rfl, by rw [← rs.len]; exact hl, ?_⟩
      have m2 : Mk1 as H a as1 (upd H1 a (.dK (mergeK [] xs))) := m1.set w
      obtain ⟨w2, n2⟩ := m2.fix w (w1.wrx m1.mem)
      exact p _ _ m2.evo w2 _ (.dic n2 upd_same (RepF.k (((mergeD_ok rs).mv (Mv.side (.inr m1.mem))).mv m2.mv)))
    · exact p.elim
end
theorem call_str_bool {X : Cx} : CallR X (.type "str") (fun xs H Q => ∃ b : Bool, xs = [.bl b] ∧ Q (.str (if b then "True" else "False")) H) := by
  intro pins s σ H xs us Q I r h
  obtain ⟨b, rfl, q⟩ := h
  obtain ⟨u, rfl, r1⟩ := vals1 r
  cases r1
  exact PySem.P.str_of_bool ⟨.str _, H, I.tok _, ⟨_, rfl⟩, q⟩
def cStrA : DC := fun ds st => match ds with
  | [.int i] => if i.natAbs.log2 < 1920 then .ok (.str (toString i)) st else .bad
  | [.str a] => .ok (.str a) st
  | [.bl b] => .ok (.str (if b then "True" else "False")) st
  | _ => .bad
def mLower : DM := fun x ds st => match x, ds with
  | .str a, [] => if a.length ≤ 5592405 then .ok (.str (Txt.lower a)) st else .bad
  | _, _ => .bad
section
variable {X : Cx} {cl : Cl}
theorem cj_strA : CallJ X cl (.type "str") cStrA := CallJ.of (CallR.or' call_str_int (CallR.or' SkE.call_str_str call_str_bool)) fun E as st H xs ds Q w rs p => by
  unfold cStrA at p
  split at p
  · rename_i i
    obtain ⟨v, rfl, r⟩ := rs.one
    cases r
    split at p
    · rename_i hl
      exact .inl ⟨i, rfl, hl, p.val w (.str _)⟩
    · exact p.elim
  · obtain ⟨v, rfl, r⟩ := rs.one
    cases r
    exact .inr (.inl ⟨_, rfl, p.val w (.str _)⟩)
  · obtain ⟨v, rfl, r⟩ := rs.one
    cases r
    exact .inr (.inr ⟨_, rfl, p.val w (.str _)⟩)
  · exact p.elim
theorem mj_lower : MtJ X cl "str.lower" mLower := MtJ.of mt_lower fun E as st H x xs d ds Q w rx rs p => by
  unfold mLower at p
  split at p
  · cases rx
    cases rs
    split at p
    · rename_i hl
      exact ⟨_, rfl, rfl, hl, p.val w (.str _)⟩
    · exact p.elim
  · exact p.elim
end
end DL

/-! DL15: str.replace (its place in a walk: see j_replace). -/
namespace DL
open PySem PySem.Spec PyProof.Rows L2
def mReplace : DM := fun x ds st => match x, ds with
  | .str a, [.str b, .str c] => if a.length + (a.length + 1) * c.length ≤ 16777216 then .ok (.str (Txt.replace a b c)) st else .bad
  | _, _ => .bad
end DL

/-! DW1: what a run of a plain function gives, step by step (Wp), and its rules. -/
namespace DL
open PySem PySem.Spec PyProof.Rows L2

/-- the run ends well, with Q; or with an own exception, with E -/
def Wp {α : Type} (r : R α) (Q : α → Sto → Prop) (E : Exn → Sto → Prop) : Prop := match r with
  | .ok a st => Q a st
  | .exc x st => E x st
  | .bad => False
abbrev NoX : Exn → Sto → Prop := fun _ _ => False
section
variable {α β : Type} {r : R α} {Q Q' : α → Sto → Prop} {E E' : Exn → Sto → Prop} {st st' : Sto} {a : α}
theorem Wp.mono (h : Wp r Q E) (hq : ∀ a st, Q a st → Q' a st) (he : ∀ x st, E x st → E' x st) : Wp r Q' E' := by
  cases r with
  | ok a st => exact hq _ _ h
  | exc x st => exact he _ _ h
  | bad => exact h
theorem Wp.to (h : Wp r Q E) (hq : ∀ a st, Q a st → Q' a st) : Wp r Q' E := h.mono hq fun _ _ e => e
theorem Wp.toN (h : Wp r Q NoX) (hq : ∀ a st, Q a st → Q' a st) : Wp r Q' E := h.mono hq fun _ _ e => e.elim
theorem wp_ok (q : Q a st) : Wp (.ok a st) Q E := q
theorem wp_exc {x : Exn} (q : E x st) : Wp (.exc x st : R α) Q E := q
theorem wp_of (h : r = .ok a st) (q : Q a st) : Wp r Q E := by rw [h]; exact q
theorem wp_ofx {x : Exn} (h : r = .exc x st) (q : E x st) : Wp r Q E := by rw [h]; exact q
theorem wp_eq (h : Wp r (fun b st' => b = a ∧ st' = st) NoX) : r = .ok a st := by
  cases r with
  | ok b st' => obtain ⟨rfl, rfl⟩ := h; rfl
  | exc x st => exact h.elim
  | bad => exact h.elim
theorem wp_ex (h : Wp r Q NoX) : ∃ a st, r = .ok a st ∧ Q a st := by
  cases r with
  | ok b st' => exact ⟨b, st', rfl, h⟩
  | exc x st => exact h.elim
  | bad => exact h.elim
theorem wp_bind {k : α → Sto → R β} {Q : β → Sto → Prop} (h : Wp r (fun a st => Wp (k a st) Q E) E) : Wp (r.bind k) Q E := by
  cases r with
  | ok b st' => exact h
  | exc x st => exact h
  | bad => exact h
theorem wp_stm {τ : En} {k : α → Sto → R (Fl × En)} {Q : Fl × En → Sto → Prop} (h : Wp r (fun a st => Wp (k a st) Q E) (fun x st => Q (.ex x, τ) st)) : Wp (r.stm τ k) Q E := by
  cases r with
  | ok b st' => exact h
  | exc x st => exact h
  | bad => exact h
end
/-- a truth -/
def truK (Q : Bool → Sto → Prop) (d : D) (st : Sto) : Prop := match d with
  | .bl b => Q b st
  | _ => False
theorem truK_bl {Q : Bool → Sto → Prop} {b : Bool} {st : Sto} (h : Q b st) : truK Q (.bl b) st := h
theorem wp_tru {r : R D} {Q : Bool → Sto → Prop} {E : Exn → Sto → Prop} (h : Wp r (truK Q) E) : Wp r.tru Q E := by
  refine wp_bind (h.to fun d st q => ?_)
  cases d <;> first | exact q | exact q.elim
/-- a row that is not too long; a number -/
def lenK (ds : List D) (A : Prop) : Prop := ds.length ≤ 16777216 ∧ A
theorem lenK_mk {ds : List D} {A : Prop} (h : ds.length ≤ 16777216) (q : A) : lenK ds A := ⟨h, q⟩
def intK (Q : Int → Prop) (d : D) : Prop := match d with
  | .int i => Q i
  | _ => False
theorem intK_int {Q : Int → Prop} {i : Int} (h : Q i) : intK Q (.int i) := h
theorem intK.elim {Q : Int → Prop} {d : D} (h : intK Q d) : ∃ i, d = .int i ∧ Q i := by
  cases d with
  | int i => exact ⟨i, rfl, h⟩
  | _ => exact False.elim h
def keyK (Q : Key → Prop) (d : D) : Prop := match d with
  | .int i => Q (.inl i)
  | .str x => Q (.inr x)
  | _ => False
theorem keyK_i {Q : Key → Prop} {i : Int} (h : Q (.inl i)) : keyK Q (.int i) := h
theorem keyK_s {Q : Key → Prop} {x : Str} (h : Q (.inr x)) : keyK Q (.str x) := h
def dispK (Q : List (Key × D) → Prop) (kvs : List (Key × D)) : Prop := kvs.length ≤ 15 ∧ Q (mergeD kvs)
theorem dispK_mk {Q : List (Key × D) → Prop} {kvs kvs' : List (Key × D)} (h : kvs.length ≤ 15) (hm : mergeD kvs = kvs') (q : Q kvs') : dispK Q kvs := ⟨h, by rw [hm]; exact q⟩
/-- a thing of the type -/
def isK (T : String) (d : D) (st : Sto) (A : Prop) : Prop := isT T d st = true ∧ A
theorem isK_mk {T : String} {d : D} {st : Sto} {A : Prop} (h : isT T d st = true) (q : A) : isK T d st A := ⟨h, q⟩
/-- names behind stores -/
def Put (σ : En) (i : Nat) (x : Option D) (ρ : En) : Prop := σ.set i x = ρ
theorem put_0 {x y : Option D} {σ : En} : Put (x :: σ) 0 y (y :: σ) := rfl
theorem put_s {x y : Option D} {σ ρ : En} {n : Nat} (h : Put σ n y ρ) : Put (x :: σ) (n + 1) y (x :: ρ) := by
  unfold Put at *
  rw [List.set_cons_succ, h]
def SetTo (σ ρ : En) : Prop := σ = ρ
theorem setTo_set {σ τ ρ : En} {i : Nat} {x : Option D} (h : SetTo σ τ) (p : Put τ i x ρ) : SetTo (σ.set i x) ρ := by
  unfold Put SetTo at *
  rw [h, p]
theorem setTo_refl {σ : En} : SetTo σ σ := rfl
/-- what follows -/
def seqK (u : DS) (Q : Fl × En → Sto → Prop) (E : Exn → Sto → Prop) (r : Fl × En) (st : Sto) : Prop := match r with
  | (.nx, τ) => Wp (u τ st) Q E
  | r => Q r st
/-- behind a turn of a loop -/
def turnK (P : En → Sto → Prop) (Q : Fl × En → Sto → Prop) (r : Fl × En) (st : Sto) : Prop := match r with
  | (.nx, τ) => P τ st
  | (.ct, τ) => P τ st
  | (.bk, τ) => Q (.nx, τ) st
  | r => Q r st
/-- behind a def -/
def finK (Q : D → Sto → Prop) (E : Exn → Sto → Prop) (r : Fl × En) (st : Sto) : Prop := match r with
  | (.nx, _) => Q .non st
  | (.rt d, _) => Q d st
  | (.ex x, _) => E x st
  | _ => False
/-- it hands back -/
def rtK (Q : D → Sto → Prop) (r : Fl × En) (st : Sto) : Prop := match r with
  | (.rt d, _) => Q d st
  | _ => False
section
variable {Q : Fl × En → Sto → Prop} {E : Exn → Sto → Prop} {QD : D → Sto → Prop} {QB : Bool → Sto → Prop} {QA : List D → Sto → Prop} {P : En → Sto → Prop}
  {st : Sto} {τ τ' : En} {t u : DS} {c c' : DT} {te tf tg : DE} {ta : DA} {d : D} {x : Exn} {i : Nat} {r : D2}
theorem seqK_nx (h : SetTo τ τ') (q : Wp (u τ' st) Q E) : seqK u Q E (.nx, τ) st := by rw [show τ = τ' from h]; exact q
theorem seqK_rt (q : Q (.rt d, τ) st) : seqK u Q E (.rt d, τ) st := q
theorem seqK_bk (q : Q (.bk, τ) st) : seqK u Q E (.bk, τ) st := q
theorem seqK_ct (q : Q (.ct, τ) st) : seqK u Q E (.ct, τ) st := q
theorem seqK_ex (q : Q (.ex x, τ) st) : seqK u Q E (.ex x, τ) st := q
theorem turnK_nx (h : SetTo τ τ') (q : P τ' st) : turnK P Q (.nx, τ) st := by rw [show τ = τ' from h]; exact q
theorem turnK_ct (h : SetTo τ τ') (q : P τ' st) : turnK P Q (.ct, τ) st := by rw [show τ = τ' from h]; exact q
theorem turnK_bk (h : SetTo τ τ') (q : Q (.nx, τ') st) : turnK P Q (.bk, τ) st := by rw [show τ = τ' from h]; exact q
theorem turnK_rt (q : Q (.rt d, τ) st) : turnK P Q (.rt d, τ) st := q
theorem turnK_ex (q : Q (.ex x, τ) st) : turnK P Q (.ex x, τ) st := q
theorem rtK_mk (q : QD d st) : rtK QD (.rt d, τ) st := q
theorem wp_rtF {E' : Exn → Sto → Prop} (h : Wp (t τ st) (rtK QD) NoX) : Wp (t τ st) (finK QD E') E := h.mono (fun r st q => by
  obtain ⟨f, τ1⟩ := r
  cases f <;> first | exact q | exact False.elim q) fun _ _ e => e.elim
theorem wp_rtS {E' E2 : Exn → Sto → Prop} (h : Wp (t τ st) (rtK QD) NoX) : Wp (t τ st) (seqK u (finK QD E') E2) E := h.mono (fun r st q => by
  obtain ⟨f, τ1⟩ := r
  cases f <;> first | exact q | exact False.elim q) fun _ _ e => e.elim
theorem finK_nx (q : QD .non st) : finK QD E (.nx, τ) st := q
theorem finK_rt (q : QD d st) : finK QD E (.rt d, τ) st := q
theorem finK_ex (q : E x st) : finK QD E (.ex x, τ) st := q
theorem wp_seq (h : Wp (t τ st) (seqK u Q E) E) : Wp (dSeq t u τ st) Q E := by
  refine wp_bind (h.to fun r st q => ?_)
  obtain ⟨f, τ1⟩ := r
  cases f <;> exact q
theorem wp_fin' {r : R (Fl × En)} (h : Wp r (finK QD E) NoX) : Wp r.fin QD E := by
  cases r with
  | ok a st =>
    obtain ⟨f, τ1⟩ := a
    cases f <;> first | exact h | exact h.elim
  | exc x st => exact h.elim
  | bad => exact h
theorem wp_def {N n : Nat} {body : DS} {ds : List D} (hl : ds.length = n) (hτ : startD N ds = τ) (h : Wp (body τ st) (finK QD E) NoX) : Wp (dDef N n body ds st) QD E := by
  unfold dDef
  rw [if_pos hl, hτ]
  exact wp_fin' h
theorem wp_next (q : Q (.nx, τ) st) : Wp (dNext τ st) Q E := q
theorem wp_retN (q : Q (.rt .non, τ) st) : Wp (dRetN τ st) Q E := q
theorem wp_break (q : Q (.bk, τ) st) : Wp (dBreak τ st) Q E := q
theorem wp_cont (q : Q (.ct, τ) st) : Wp (dCont τ st) Q E := q
theorem wp_ret (h : Wp (te τ st) (fun d st => Q (.rt d, τ) st) (fun x st => Q (.ex x, τ) st)) : Wp (dRet te τ st) Q E := wp_stm (h.to fun _ _ q => q)
theorem wp_drop (h : Wp (te τ st) (fun _ st => Q (.nx, τ) st) (fun x st => Q (.ex x, τ) st)) : Wp (dDrop te τ st) Q E := wp_stm (h.to fun _ _ q => q)
theorem wp_ifs (h : Wp (c τ st) (fun b st => if b = true then Wp (t τ st) Q E else Wp (u τ st) Q E) (fun x st => Q (.ex x, τ) st)) : Wp (dIfS c t u τ st) Q E := by
  refine wp_stm (h.to fun b st q => ?_)
  cases b <;> exact q
theorem wp_asg (h : Wp (te τ st) (fun d st => Q (.nx, τ.set i (some d)) st) (fun x st => Q (.ex x, τ) st)) : Wp (dAsg te (gN i) τ st) Q E := wp_stm (h.to fun _ _ q => q)
theorem wp_asg_g {g : DG} (h : Wp (te τ st) (fun d st => Wp (g d τ st) (fun τ' st => Q (.nx, τ') st) (fun x st => Q (.ex x, τ) st)) (fun x st => Q (.ex x, τ) st)) : Wp (dAsg te g τ st) Q E :=
  wp_stm (h.to fun _ _ q => wp_stm q)
theorem wp_var (h : τ[i]? = some (some d)) (q : QD d st) : Wp (dVar i τ st) QD E := by unfold dVar; rw [h]; exact q
theorem wp_c (q : QD d st) : Wp (dC d τ st) QD E := q
theorem wp_bin (h : Wp (te τ st) (fun x st => Wp (tf τ st) (fun y st => Wp (r x y st) QD E) E) E) : Wp (dBin r te tf τ st) QD E := wp_bind (h.to fun _ _ q => wp_bind q)
theorem wp_tst (h : Wp (te τ st) (truK QB) E) : Wp (dTst te τ st) QB E := wp_tru h
theorem wp_truv (h : Wp (te τ st) (fun d st => Wp (R.opt (truD d st) st) QB E) E) : Wp (dTru te τ st) QB E := wp_bind h
theorem wp_opt {α : Type} {o : Option α} {a : α} {Q : α → Sto → Prop} (h : o = some a) (q : Q a st) : Wp (R.opt o st) Q E := by rw [h]; exact q
theorem wp_nott (h : Wp (c τ st) (fun b st => QB (!b) st) E) : Wp (dNotT c τ st) QB E := wp_bind h
theorem wp_andt (h : Wp (c τ st) (fun b st => if b = true then Wp (c' τ st) QB E else QB false st) E) : Wp (dAndT c c' τ st) QB E := by
  refine wp_bind (h.to fun b st q => ?_)
  cases b <;> exact q
theorem wp_ort (h : Wp (c τ st) (fun b st => if b = true then QB true st else Wp (c' τ st) QB E) E) : Wp (dOrT c c' τ st) QB E := by
  refine wp_bind (h.to fun b st q => ?_)
  cases b <;> exact q
theorem wp_andv (h : Wp (te τ st) (truK fun b st => if b = true then Wp (tf τ st) QD E else QD (.bl false) st) E) : Wp (dAndV te tf τ st) QD E := by
  refine wp_bind (wp_tru (h.to fun d st q => ?_))
  cases d with
  | bl b => cases b <;> exact q
  | _ => exact q.elim
theorem wp_orv (h : Wp (te τ st) (truK fun b st => if b = true then QD (.bl true) st else Wp (tf τ st) QD E) E) : Wp (dOrV te tf τ st) QD E := by
  refine wp_bind (wp_tru (h.to fun d st q => ?_))
  cases d with
  | bl b => cases b <;> exact q
  | _ => exact q.elim
theorem wp_notv (h : Wp (te τ st) (truK fun b st => QD (.bl (!b)) st) E) : Wp (dNotV te τ st) QD E := by
  refine wp_bind (wp_tru (h.to fun d st q => ?_))
  cases d <;> exact q
theorem wp_if (h : Wp (c τ st) (fun b st => if b = true then Wp (te τ st) QD E else Wp (tf τ st) QD E) E) : Wp (dIf c te tf τ st) QD E := by
  refine wp_bind (h.to fun b st q => ?_)
  cases b <;> exact q
theorem wp_chain {r' : D2} (h : Wp (te τ st) (fun x st => Wp (tf τ st) (fun y st => Wp (r x y st) (truK fun b st => if b = true then Wp (tg τ st) (fun z st => Wp (r' y z st) QD E) E else QD (.bl false) st) E) E) E) : Wp (dChain r r' te tf tg τ st) QD E := by
  refine wp_bind (h.to fun x st q => wp_bind (q.to fun y st q => wp_bind (wp_tru (q.to fun d st q => ?_))))
  cases d with
  | bl b =>
    cases b
    · exact q
    · exact wp_bind q
  | _ => exact q.elim
theorem wp_nil (q : QA [] st) : Wp (dNil τ st) QA E := q
theorem wp_cons (h : Wp (te τ st) (fun d st => Wp (ta τ st) (fun ds st => QA (d :: ds) st) E) E) : Wp (dCons te ta τ st) QA E := wp_bind (h.to fun _ _ q => wp_bind q)
theorem wp_tup (h : Wp (ta τ st) (fun ds st => lenK ds (QD (.tup ds) st)) E) : Wp (dTup ta τ st) QD E := wp_bind (h.to fun _ _ q => by rw [if_pos (by rw [sizeLine_eq]; exact q.1)]; exact q.2)
theorem wp_lst (h : Wp (ta τ st) (fun ds st => lenK ds (QD (.lst ds) st)) E) : Wp (dLst ta τ st) QD E := wp_bind (h.to fun _ _ q => by rw [if_pos (by rw [sizeLine_eq]; exact q.1)]; exact q.2)
theorem wp_new (h : Wp (ta τ st) (fun ds st => lenK ds (QD (.ref st.length) (st ++ [.lst ds]))) E) : Wp (dNew ta τ st) QD E := wp_bind (h.to fun _ _ q => by rw [if_pos (by rw [sizeLine_eq]; exact q.1)]; exact q.2)
theorem wp_app {F : DC} (h : Wp (ta τ st) (fun ds st => Wp (F ds st) QD E) E) : Wp (dApp F ta τ st) QD E := wp_bind h
theorem wp_neg (h : Wp (te τ st) (fun d st => intK (fun i => QD (.int (-i)) st) d) E) : Wp (dNeg te τ st) QD E := wp_bind (h.to fun _ _ z => by obtain ⟨i, e, q⟩ := z.elim; subst e; exact q)
theorem wp_disp {tp : DPs} {Q : D → Sto → Prop} (h : Wp (tp τ st) (fun kvs st => dispK (fun kvs => Q (.ref st.length) (st ++ [.dK kvs])) kvs) E) : Wp (dDisp tp τ st) Q E := wp_bind (h.to fun _ _ q => by rw [if_pos q.1]; exact q.2)
theorem wp_pnil {Q : List (Key × D) → Sto → Prop} (q : Q [] st) : Wp (dPNil τ st) Q E := q
theorem wp_pcons {tk tv : DE} {tp : DPs} {Q : List (Key × D) → Sto → Prop} (h : Wp (tk τ st) (fun k st => Wp (tv τ st) (fun v st => Wp (tp τ st) (fun r st => keyK (fun k => Q ((k, v) :: r) st) k) E) E) E) : Wp (dPCons tk tv tp τ st) Q E :=
  wp_bind (h.to fun k _ q => wp_bind (q.to fun v _ q => wp_bind (q.to fun r _ q => by
    cases k <;> first | exact q | exact False.elim q)))
theorem wp_dispE (q : QD (.ref st.length) (st ++ [.dK []])) : Wp (dDispE τ st) QD E := q
theorem wp_fld {f : Str} {cs : List Str} (h : Wp (te τ st) (fun d st => Wp (fldV f cs d st) QD E) E) : Wp (dFld f cs te τ st) QD E := wp_bind h
theorem wp_fldv {f c : Str} {cs : List Str} {n : Nat} {fs : List (Str × D)} (h : st[n]? = some (.ins c fs)) (hc : c ∈ cs) (hf : valD fs f = some d) (q : QD d st) : Wp (fldV f cs (.ref n) st) QD E := by
  unfold fldV
  dsimp only
  rw [h]
  dsimp only
  rw [if_pos hc, hf]
  exact q
theorem wp_sl {tl th : DO} (h : Wp (te τ st) (fun x st => Wp (tl τ st) (fun lo st => Wp (th τ st) (fun hi st => Wp (dCut x lo hi st) QD E) E) E) E) : Wp (dSl te tl th τ st) QD E := wp_bind (h.to fun _ _ q => wp_bind (q.to fun _ _ q => wp_bind q))
theorem wp_nopart {Q : Option Int → Sto → Prop} (q : Q none st) : Wp (dNoPart τ st) Q E := q
theorem wp_part {Q : Option Int → Sto → Prop} (h : Wp (te τ st) (fun d st => intK (fun i => Q (some i) st) d) E) : Wp (dPart te τ st) Q E := wp_bind (h.to fun _ _ z => by obtain ⟨i, e, q⟩ := z.elim; subst e; exact q)
theorem wp_bmt {T : String} {m : DM} (h : Wp (te τ st) (fun x st => isK T x st (Wp (ta τ st) (fun ds st => Wp (m x ds st) QD E) E)) E) : Wp (dBMT T m te ta τ st) QD E := wp_bind (h.to fun _ _ q => by rw [if_pos q.1]; exact wp_bind q.2)
theorem wp_puta {td ty tv : DE} (h : Wp (tv τ st) (fun v st => Wp (td τ st) (fun x st => Wp (ty τ st) (fun y st => Wp (sPutA x y v τ st) Q E) (fun x st => Q (.ex x, τ) st)) (fun x st => Q (.ex x, τ) st)) (fun x st => Q (.ex x, τ) st)) : Wp (dPutA td ty tv τ st) Q E :=
  wp_stm (h.to fun _ _ q => wp_stm (q.to fun _ _ q => wp_stm q))
theorem wp_flds {f : Str} {cs : List Str} {to tv : DE} (h : Wp (tv τ st) (fun v st => Wp (to τ st) (fun d st => Wp (setF f cs d v τ st) Q E) (fun x st => Q (.ex x, τ) st)) (fun x st => Q (.ex x, τ) st)) : Wp (dFldS f cs to tv τ st) Q E :=
  wp_stm (h.to fun _ _ q => wp_stm q)
theorem wp_aug {y : D} (hv : τ[i]? = some (some y)) (h : Wp (te τ st) (fun z st => Wp (r y z st) (fun w st => Q (.nx, τ.set i (some w)) st) (fun x st => Q (.ex x, τ) st)) (fun x st => Q (.ex x, τ) st)) : Wp (dAug i te r τ st) Q E := by
  unfold dAug
  rw [hv]
  exact wp_stm (h.to fun _ _ q => wp_stm q)
theorem wp_for {it : DI} {g : DG} (h : Wp (it τ st) (fun ds st => Wp (forL g t ds τ st) Q E) (fun x st => Q (.ex x, τ) st)) : Wp (dFor it g t τ st) Q E := wp_stm h
/-- a loop over one name by its invariant -/
theorem wp_forN {j : Nat} {ds : List D} (P : Nat → En → Sto → Prop) (h0 : P 0 τ st)
    (hs : ∀ i d τ st, ds[i]? = some d → P i τ st → Wp (t (τ.set j (some d)) st) (turnK (P (i + 1)) Q) E) (hq : ∀ τ st, P ds.length τ st → Q (.nx, τ) st) : Wp (forL (gN j) t ds τ st) Q E := by
  induction ds generalizing P τ st with
  | nil => exact hq _ _ h0
  | cons d ds ih =>
    show Wp ((t (τ.set j (some d)) st).turn _) Q E
    refine wp_bind ((hs 0 d τ st rfl h0).to fun r st q => ?_)
    obtain ⟨f, τ1⟩ := r
    have go : ∀ τ st, P 1 τ st → Wp (forL (gN j) t ds τ st) Q E := fun τ st p => ih (fun i => P (i + 1)) p (fun i d τ st hd hp => hs (i + 1) d τ st (by simpa using hd) hp) fun τ st p => hq τ st p
    cases f with
    | nx => exact go _ _ q
    | ct => exact go _ _ q
    | bk => exact q
    | rt d => exact q
    | ex x => exact q
theorem wp_forG {g : DG} {ds : List D} (P : Nat → En → Sto → Prop) (h0 : P 0 τ st)
    (hs : ∀ i d τ st, ds[i]? = some d → P i τ st → Wp (g d τ st) (fun τ st => Wp (t τ st) (turnK (P (i + 1)) Q) E) NoX) (hq : ∀ τ st, P ds.length τ st → Q (.nx, τ) st) : Wp (forL g t ds τ st) Q E := by
  induction ds generalizing P τ st with
  | nil => exact hq _ _ h0
  | cons d ds ih =>
    show Wp ((g d τ st).stm τ _) Q E
    refine wp_stm ((hs 0 d τ st rfl h0).mono (fun τ1 st q => wp_bind (q.to fun r st q => ?_)) fun _ _ e => e.elim)
    obtain ⟨f, τ1⟩ := r
    have go : ∀ τ st, P 1 τ st → Wp (forL g t ds τ st) Q E := fun τ st p => ih (fun i => P (i + 1)) p (fun i d τ st hd hp => hs (i + 1) d τ st (by simpa using hd) hp) fun τ st p => hq τ st p
    cases f with
    | nx => exact go _ _ q
    | ct => exact go _ _ q
    | bk => exact q
    | rt d => exact q
    | ex x => exact q
/-- a while by a measure -/
theorem wp_while {body : DS} (P : En → Sto → Prop) (μ : En → Sto → Nat) (h0 : P τ st) (hμ : μ τ st < 1000000000)
    (hs : ∀ τ st, P τ st → Wp (c τ st) (fun b st1 => if b = true then Wp (body τ st1) (turnK (fun τ2 st2 => P τ2 st2 ∧ μ τ2 st2 < μ τ st) Q) E else Q (.nx, τ) st1) (fun x st => Q (.ex x, τ) st)) : Wp (dWhile c body τ st) Q E := by
  unfold dWhile
  rw [show fuel = 1000000000 from rfl]
  generalize (1000000000 : Nat) = n at hμ ⊢
  induction n generalizing τ st with
  | zero => omega
  | succ n ih =>
    show Wp ((c τ st).stm τ _) Q E
    refine wp_stm ((hs τ st h0).to fun b st1 q => ?_)
    cases b with
    | false => exact q
    | true =>
      rw [if_pos rfl] at q ⊢
      refine wp_bind (q.to fun r st q => ?_)
      obtain ⟨f, τ1⟩ := r
      cases f with
      | nx => exact ih q.1 (by have := q.2; omega)
      | ct => exact ih q.1 (by have := q.2; omega)
      | bk => exact q
      | rt d => exact q
      | ex x => exact q
/-- a while by a falling number -/
theorem wp_whileI {body : DS} (P : Nat → En → Sto → Prop) {m : Nat} (h0 : P m τ st) (hm : m < 1000000000)
    (hs : ∀ m τ st, P m τ st → Wp (c τ st) (fun b st1 => if b = true then Wp (body τ st1) (turnK (fun τ2 st2 => ∃ m', m' < m ∧ P m' τ2 st2) Q) E else Q (.nx, τ) st1) (fun x st => Q (.ex x, τ) st)) : Wp (dWhile c body τ st) Q E := by
  unfold dWhile
  rw [show fuel = 1000000000 from rfl]
  generalize (1000000000 : Nat) = n at hm ⊢
  induction n generalizing m τ st with
  | zero => omega
  | succ n ih =>
    show Wp ((c τ st).stm τ _) Q E
    refine wp_stm ((hs m τ st h0).to fun b st1 q => ?_)
    cases b with
    | false => exact q
    | true =>
      rw [if_pos rfl] at q ⊢
      refine wp_bind (q.to fun r st q => ?_)
      obtain ⟨f, τ1⟩ := r
      cases f with
      | nx => obtain ⟨m', h1, h2⟩ := q; exact ih h2 (by omega)
      | ct => obtain ⟨m', h1, h2⟩ := q; exact ih h2 (by omega)
      | bk => exact q
      | rt d => exact q
      | ex x => exact q
theorem wp_optb {b : Bool} (q : QB b st) : Wp (R.opt (truD (.bl b) st) st) QB E := q
theorem wp_comp {it : DI} {tg : Tgt} {tt : DT} {te : DE} {vs : List Nat} {σ : En} (hw : wipeD τ vs = σ) (h : Wp (it τ st) (fun ds st => Wp (compL tg tt te σ ds [] st) (fun out st => QD (.lst out) st) E) E) : Wp (dComp it tg tt te vs τ st) QD E := by
  rw [← hw] at h
  exact wp_bind (h.to fun _ _ q => wp_bind q)
theorem wp_compN {it : DI} {tg : Tgt} {tt : DT} {te : DE} {vs : List Nat} {σ : En} (hw : wipeD τ vs = σ) (h : Wp (it τ st) (fun ds st => Wp (compL tg tt te σ ds [] st) (fun out st => QD (.ref st.length) (st ++ [.lst out])) E) E) : Wp (dCompN it tg tt te vs τ st) QD E := by
  rw [← hw] at h
  exact wp_bind (h.to fun _ _ q => wp_bind q)
/-- a comprehension by its invariant: how many items are behind, the row so far -/
theorem wp_compL {tg : Tgt} {tt : DT} {te : DE} {ds : List D} {Q : List D → Sto → Prop} (P : Nat → List D → Sto → Prop) (h0 : P 0 [] st) (hl : ds.length ≤ 16777216)
    (hs : ∀ i d acc st, ds[i]? = some d → P i acc st → ∃ τ1, tg.put d τ = some τ1 ∧ Wp (tt τ1 st) (fun b st => if b = true then Wp (te τ1 st) (fun y st => P (i + 1) (acc ++ [y]) st) NoX else P (i + 1) acc st) NoX)
    (hq : ∀ out st, P ds.length out st → Q out st) : Wp (compL tg tt te τ ds [] st) Q E := by
  suffices h : ∀ (ds : List D) (acc : List D) (st : Sto) (P : Nat → List D → Sto → Prop), acc.length + ds.length ≤ 16777216 → P 0 acc st →
      (∀ i d acc st, ds[i]? = some d → P i acc st → ∃ τ1, tg.put d τ = some τ1 ∧ Wp (tt τ1 st) (fun b st => if b = true then Wp (te τ1 st) (fun y st => P (i + 1) (acc ++ [y]) st) NoX else P (i + 1) acc st) NoX) →
      (∀ out st, P ds.length out st → Q out st) → Wp (compL tg tt te τ ds acc st) Q E from h ds [] st P (by simpa using hl) h0 hs hq
  intro ds
  induction ds with
  | nil => intro acc st P _ h0 _ hq; exact hq _ _ h0
  | cons d ds ih =>
    intro acc st P hl h0 hs hq
    obtain ⟨τ1, h1, h2⟩ := hs 0 d acc st rfl h0
    obtain ⟨b, st1, h3, h4⟩ := wp_ex h2
    unfold compL
    rw [h1]
    dsimp only
    rw [h3]
    dsimp only
    rw [List.length_cons] at hl
    cases b with
    | true =>
      rw [if_pos rfl] at h4 ⊢
      obtain ⟨y, st2, h5, h6⟩ := wp_ex h4
      rw [h5]
      dsimp only
      rw [if_pos (by rw [sizeLine_eq]; omega)]
      exact ih _ _ (fun i => P (i + 1)) (by rw [List.length_append]; simp; omega) h6 (fun i d acc st hd hp => hs (i + 1) d acc st (by simpa using hd) hp) hq
    | false =>
      rw [if_neg (by decide)] at h4 ⊢
      exact ih _ _ (fun i => P (i + 1)) (by omega) h4 (fun i d acc st hd hp => hs (i + 1) d acc st (by simpa using hd) hp) hq
end
end DL

/-! DW2: leaves: what the operations give. -/
namespace DL
open PySem PySem.Spec PyProof.Rows L2
section
variable {Q : D → Sto → Prop} {E : Exn → Sto → Prop} {st : Sto} {i j : Int} {a b : Str} {xs ys : List D} {d e x y : D} {n : Nat} {kvs : List (Key × D)}
/-- the arguments of range; a row -/
def rng1K (Q : Int → Prop) (ds : List D) : Prop := ∃ k, ds = [.int k] ∧ (-4611686018427387904 ≤ k ∧ k < 4611686018427387904) ∧ Q k
theorem rng1K_mk {Q : Int → Prop} {k : Int} (h : -4611686018427387904 ≤ k ∧ k < 4611686018427387904) (q : Q k) : rng1K Q [.int k] := ⟨k, rfl, h, q⟩
def rng2K (Q : Int → Int → Prop) (ds : List D) : Prop := ∃ l k, ds = [.int l, .int k] ∧ ((-4611686018427387904 ≤ l ∧ l < 4611686018427387904) ∧ (-4611686018427387904 ≤ k ∧ k < 4611686018427387904)) ∧ Q l k
theorem rng2K_mk {Q : Int → Int → Prop} {l k : Int} (h1 : -4611686018427387904 ≤ l ∧ l < 4611686018427387904) (h : -4611686018427387904 ≤ k ∧ k < 4611686018427387904) (q : Q l k) : rng2K Q [.int l, .int k] := ⟨l, k, rfl, ⟨h1, h⟩, q⟩
def rowK (Q : List D → Prop) (d : D) : Prop := match d with
  | .lst xs => Q xs
  | .tup xs => Q xs
  | .fro xs => Q xs
  | .str x => Q (x.cps.toList.map fun c => .str ⟨#[c]⟩)
  | _ => False
theorem rowK_l {Q : List D → Prop} {xs : List D} (h : Q xs) : rowK Q (.lst xs) := h
theorem rowK_t {Q : List D → Prop} {xs : List D} (h : Q xs) : rowK Q (.tup xs) := h
theorem rowK_f {Q : List D → Prop} {xs : List D} (h : Q xs) : rowK Q (.fro xs) := h
theorem rowK_s {Q : List D → Prop} {x : Str} (h : Q (x.cps.toList.map fun c => .str ⟨#[c]⟩)) : rowK Q (.str x) := h
/-- the store's objects -/
theorem get_set {o o' : Ob} (h : st[n]? = some o') : (st.set n o)[n]? = some o := List.getElem?_set_self (List.getElem?_eq_some_iff.mp h).1
theorem get_ne {o : Ob} {m : Nat} {z : Option Ob} (hn : n ≠ m) (h : st[m]? = z) : (st.set n o)[m]? = z := by rw [List.getElem?_set_ne hn]; exact h
theorem get_new {o : Ob} : (st ++ [o])[st.length]? = some o := by simp
theorem get_old {o o' : Ob} {m : Nat} (h : st[m]? = some o') : (st ++ [o])[m]? = some o' := by rw [List.getElem?_append_left (List.getElem?_eq_some_iff.mp h).1]; exact h
theorem get_lt {o : Ob} {m : Nat} (h : st[m]? = some o) : m < st.length := (List.getElem?_eq_some_iff.mp h).1
theorem wq_add (q : Q (.int (i + j)) st) : Wp (dAdd (.int i) (.int j) st) Q E := q
theorem wq_adds (h : a.length + b.length ≤ 16777216) (q : Q (.str (a ++ b)) st) : Wp (dAdd (.str a) (.str b) st) Q E := by
  show Wp (if a.length + b.length ≤ sizeLine then _ else _) Q E
  rw [if_pos (by rw [sizeLine_eq]; exact h)]; exact q
theorem wq_addt (h : xs.length + ys.length ≤ 16777216) (q : Q (.tup (xs ++ ys)) st) : Wp (dAdd (.tup xs) (.tup ys) st) Q E := by
  show Wp (if xs.length + ys.length ≤ sizeLine then _ else _) Q E
  rw [if_pos (by rw [sizeLine_eq]; exact h)]; exact q
theorem wq_addl (h : xs.length + ys.length ≤ 16777216) (q : Q (.lst (xs ++ ys)) st) : Wp (dAdd (.lst xs) (.lst ys) st) Q E := by
  show Wp (if xs.length + ys.length ≤ sizeLine then _ else _) Q E
  rw [if_pos (by rw [sizeLine_eq]; exact h)]; exact q
theorem wq_addi (q : Q (.int (i + j)) st) : Wp (dAddI (.int i) (.int j) st) Q E := q
theorem wq_sub (q : Q (.int (i - j)) st) : Wp (dSub (.int i) (.int j) st) Q E := q
theorem wq_mul (h : i.natAbs.log2 + j.natAbs.log2 < 1000000) (q : Q (.int (i * j)) st) : Wp (dMul (.int i) (.int j) st) Q E := by
  show Wp (if decide (i.natAbs.log2 + j.natAbs.log2 < 1000000) = true then _ else _) Q E
  rw [if_pos (decide_eq_true h)]; exact q
theorem wq_mulS (h1 : i.natAbs < 2 ^ 64) (h2 : j.natAbs < 2 ^ 64) (q : Q (.int (i * j)) st) : Wp (dMul (.int i) (.int j) st) Q E := wq_mul (mul_lt h1 h2) q
theorem wq_mulB (h : i.natAbs < 2 ^ 64 ∨ j.natAbs < 2 ^ 64) (q : Q (.int (i * j)) st) : Wp (dMulB (.int i) (.int j) st) Q E := by
  show Wp (if (decide (i.natAbs < 2 ^ 64) || decide (j.natAbs < 2 ^ 64)) = true then _ else _) Q E
  rw [if_pos (by rw [Bool.or_eq_true_iff, decide_eq_true_eq, decide_eq_true_eq]; exact h)]; exact q
theorem wq_div (h : 0 < j) (h2 : j.natAbs < 2 ^ 64) (q : Q (.int (i / j)) st) : Wp (dDiv (.int i) (.int j) st) Q E := by
  show Wp (if (decide (0 < j) && decide (j.natAbs.log2 < 9000)) = true then _ else _) Q E
  have := log2_small h2
  rw [if_pos (by rw [decide_eq_true h, decide_eq_true (by omega)]; rfl)]; exact q
theorem wq_mod (h : 0 < j) (q : Q (.int (i % j)) st) : Wp (dMod (.int i) (.int j) st) Q E := by
  show Wp (if decide (0 < j) = true then _ else _) Q E
  rw [if_pos (decide_eq_true h)]; exact q
theorem wq_lt (q : Q (.bl (decide (i < j))) st) : Wp (dLtI (.int i) (.int j) st) Q E := q
theorem wq_le (q : Q (.bl (decide (i ≤ j))) st) : Wp (dLeI (.int i) (.int j) st) Q E := q
theorem wq_gt (q : Q (.bl (decide (j < i))) st) : Wp (dGtI (.int i) (.int j) st) Q E := q
theorem wq_ge (q : Q (.bl (decide (j ≤ i))) st) : Wp (dGeI (.int i) (.int j) st) Q E := q
theorem wq_eqi (q : Q (.bl (decide (i = j))) st) : Wp (dEq false (.int i) (.int j) st) Q E := wp_of dq_int (by rw [Bool.false_xor]; exact q)
theorem wq_nei (q : Q (.bl (!decide (i = j))) st) : Wp (dEq true (.int i) (.int j) st) Q E := wp_of dq_int (by rw [Bool.true_xor]; exact q)
theorem wq_eqs (ha : PyData.strOk a = true) (hb : PyData.strOk b = true) (q : Q (.bl (decide (a = b))) st) : Wp (dEq false (.str a) (.str b) st) Q E := wp_of (dq_str ha hb) (by rw [Bool.false_xor]; exact q)
theorem wq_nes (ha : PyData.strOk a = true) (hb : PyData.strOk b = true) (q : Q (.bl (!decide (a = b))) st) : Wp (dEq true (.str a) (.str b) st) Q E := wp_of (dq_str ha hb) (by rw [Bool.true_xor]; exact q)
theorem wq_eqp (ha : plD d = true) (hb : plD e = true) (da : dpD d ≤ 64) (db : dpD e ≤ 64) (q : Q (.bl (eqvD d e)) st) : Wp (dEq false d e st) Q E := wp_of (dq_eqv ha hb da db) (by rw [Bool.false_xor]; exact q)
theorem wq_nep (ha : plD d = true) (hb : plD e = true) (da : dpD d ≤ 64) (db : dpD e ≤ 64) (q : Q (.bl (!eqvD d e)) st) : Wp (dEq true d e st) Q E := wp_of (dq_eqv ha hb da db) (by rw [Bool.true_xor]; exact q)
theorem wq_ixt (h : atI xs i = some d) (q : Q d st) : Wp (dIxA (.tup xs) (.int i) st) Q E := by
  show Wp (match atI xs i with | some d => R.ok d st | none => .bad) Q E
  rw [h]; exact q
theorem wq_ixl (h : atI xs i = some d) (q : Q d st) : Wp (dIxA (.lst xs) (.int i) st) Q E := by
  show Wp (match atI xs i with | some d => R.ok d st | none => .bad) Q E
  rw [h]; exact q
theorem wq_ixf (h : atI xs i = some d) (q : Q d st) : Wp (dIxA (.fro xs) (.int i) st) Q E := by
  show Wp (match atI xs i with | some d => R.ok d st | none => .bad) Q E
  rw [h]; exact q
theorem wq_ixs {c : Nat} (hl : a.length ≤ 16777216) (h : atI a.cps.toList i = some c) (q : Q (.str ⟨#[c]⟩) st) : Wp (dIxA (.str a) (.int i) st) Q E := by
  show Wp (if a.length ≤ sizeLine then (match atI a.cps.toList i with | some c => R.ok (.str ⟨#[c]⟩) st | none => .bad) else .bad) Q E
  rw [if_pos (by rw [sizeLine_eq]; exact hl), h]; exact q
theorem wq_ixr (hn : st[n]? = some (.lst xs)) (h : atI xs i = some d) (q : Q d st) : Wp (dIxA (.ref n) (.int i) st) Q E := by
  unfold dIxA dicOf dIx seqOf
  simp only [hn]
  rw [h]; exact q
theorem wq_ixk {k : Key} (hn : st[n]? = some (.dK kvs)) (hk : keyOf y = some k) (h : valD kvs k = some d) (q : Q d st) : Wp (dIxA (.ref n) y st) Q E := by
  unfold dIxA dGetK dicOf
  simp only [hn, hk, h]
  exact q
theorem wq_ixd {k : Key} (hk : keyOf y = some k) (h : valD kvs k = some d) (q : Q d st) : Wp (dIxA (.dic kvs) y st) Q E := by
  unfold dIxA dGetK dicOf
  simp only [hk, h]
  exact q
theorem wq_ink {k : Key} (hn : st[n]? = some (.dK kvs)) (hk : keyOf y = some k) (q : Q (.bl (valD kvs k).isSome) st) : Wp (dInA false y (.ref n) st) Q E := by
  unfold dInA dInK dicOf
  simp only [hn, hk, Option.isSome_some, if_true, Bool.false_xor]
  exact q
theorem wq_nink {k : Key} (hn : st[n]? = some (.dK kvs)) (hk : keyOf y = some k) (q : Q (.bl !(valD kvs k).isSome) st) : Wp (dInA true y (.ref n) st) Q E := by
  unfold dInA dInK dicOf
  simp only [hn, hk, Option.isSome_some, if_true, Bool.true_xor]
  exact q
theorem wq_int (q : Q (.int i) st) : Wp (cInt [.int i] st) Q E := q
theorem wq_intb {b : Bool} (q : Q (.int (if b then 1 else 0)) st) : Wp (cInt [.bl b] st) Q E := q
theorem wq_abs (q : Q (.int (if i < 0 then -i else i)) st) : Wp (cAbs [.int i] st) Q E := q
theorem wq_lent (q : Q (.int xs.length) st) : Wp (cLen [.tup xs] st) Q E := q
theorem wq_lenl (q : Q (.int xs.length) st) : Wp (cLen [.lst xs] st) Q E := q
theorem wq_lenf (q : Q (.int xs.length) st) : Wp (cLen [.fro xs] st) Q E := q
theorem wq_lens (h : a.length ≤ 16777216) (q : Q (.int a.length) st) : Wp (cLen [.str a] st) Q E := by
  show Wp (if a.length ≤ sizeLine then _ else _) Q E
  rw [if_pos (by rw [sizeLine_eq]; exact h)]; exact q
theorem wq_lenr (h : st[n]? = some (.lst xs)) (q : Q (.int xs.length) st) : Wp (cLen [.ref n] st) Q E := by
  unfold cLen seqOf
  simp only [h]
  exact q
theorem wq_lenk (h : st[n]? = some (.dK kvs)) (q : Q (.int kvs.length) st) : Wp (cLen [.ref n] st) Q E := by
  unfold cLen seqOf dicOf
  simp only [h]
  exact q
theorem wq_tupl (q : Q (.tup xs) st) : Wp (cTuple [.lst xs] st) Q E := q
theorem wq_tupt (q : Q (.tup xs) st) : Wp (cTuple [.tup xs] st) Q E := q
theorem wq_tupr (h : st[n]? = some (.lst xs)) (q : Q (.tup xs) st) : Wp (cTuple [.ref n] st) Q E := by
  unfold cTuple seqOf
  simp only [h]
  exact q
theorem wq_listt (q : Q (.lst xs) st) : Wp (cList [.tup xs] st) Q E := q
theorem wq_all {bs : List Bool} (h : boolsOf xs = some bs) (q : Q (.bl (bs.all id)) st) : Wp (cAll1 [.lst xs] st) Q E := by
  show Wp (match (boolsOf xs).map fun ns => D.bl (ns.all id) with | some v => R.ok v st | none => .bad) Q E
  rw [h]; exact q
theorem wq_any {bs : List Bool} (h : boolsOf xs = some bs) (q : Q (.bl (bs.any id)) st) : Wp (cAny1 [.lst xs] st) Q E := by
  show Wp (match (boolsOf xs).map fun ns => D.bl (ns.any id) with | some v => R.ok v st | none => .bad) Q E
  rw [h]; exact q
theorem wq_sum {ns : List Int} (h : intsOf xs = some ns) (q : Q (.int ns.sum) st) : Wp (cSum1 [.lst xs] st) Q E := by
  show Wp (match (intsOf xs).map fun ns => D.int ns.sum with | some v => R.ok v st | none => .bad) Q E
  rw [h]; exact q
theorem wq_append (h : st[n]? = some (.lst xs)) (hl : xs.length < 16777216) (q : Q .non (st.set n (.lst (xs ++ [d])))) : Wp (mAppend (.ref n) [d] st) Q E := by
  unfold mAppend
  simp only [h]
  rw [if_pos (by rw [sizeLine_eq]; exact hl)]
  exact q
theorem wq_tyr {ty : String} (h : st[n]? = some (.lst xs)) : isT "list" (.ref n) st = true := by
  unfold isT
  simp only [h]
  rfl
theorem wq_isi {T m : String} (h : tyNm d st = some m) (q : Q (.bl (isTy T m)) st) : Wp (cIsi T [d, .raw (.ty T)] st) Q E := by
  show Wp (if T = T then (match tyNm d st with | some n => R.ok (.bl (isTy T n)) st | none => .bad) else .bad) Q E
  rw [if_pos rfl, h]; exact q
theorem wq_rng1 {QI : List D → Sto → Prop} {τ : En} {ta : DA} (h : Wp (ta τ st) (fun ds st => rng1K (fun k => QI (rng 0 k) st) ds) E) : Wp (iRng1D ta τ st) QI E :=
  wp_bind (h.to fun ds st ⟨k, e, hk, q⟩ => by subst e; show Wp (if -(2 ^ 62) ≤ k ∧ k < 2 ^ 62 then _ else _) QI E; rw [if_pos (by omega)]; exact q)
theorem wq_rng2 {QI : List D → Sto → Prop} {τ : En} {ta : DA} (h : Wp (ta τ st) (fun ds st => rng2K (fun l k => QI (rng l k) st) ds) E) : Wp (iRng2D ta τ st) QI E :=
  wp_bind (h.to fun ds st ⟨l, k, e, hk, q⟩ => by subst e; show Wp (if (-(2 ^ 62) ≤ l ∧ l < 2 ^ 62) ∧ (-(2 ^ 62) ≤ k ∧ k < 2 ^ 62) then _ else _) QI E; rw [if_pos (by omega)]; exact q)
theorem wq_iany {QI : List D → Sto → Prop} {τ : En} {te : DE} (h : Wp (te τ st) (fun d st => rowK (fun xs => QI xs st) d) E) : Wp (iAny te τ st) QI E :=
  wp_bind (h.to fun d st q => by
    cases d <;> first | exact q | exact False.elim q)
theorem wq_putk {Q : Fl × En → Sto → Prop} {τ : En} {k : Key} (hn : st[n]? = some (.dK kvs)) (hk : keyOf y = some k) (hl : kvs.length < 16777216) {kvs' : List (Key × D)} (hp : putD kvs k x = kvs') (q : Q (.nx, τ) (st.set n (.dK kvs'))) : Wp (sPutA (.ref n) y x τ st) Q E := by
  rw [← hp] at q
  unfold sPutA sPutK dicOf
  simp only [hn, hk, Option.isSome_some, if_true]
  rw [if_pos (by rw [sizeLine_eq]; exact hl)]
  exact q
theorem wq_putl {Q : Fl × En → Sto → Prop} {τ : En} {m : Nat} (hn : st[n]? = some (.lst xs)) (hk : ixN xs.length i = some m) (q : Q (.nx, τ) (st.set n (.lst (xs.set m x)))) : Wp (sPutA (.ref n) (.int i) x τ st) Q E := by
  unfold sPutA sSetL dicOf
  simp only [hn, hk, Option.isSome_none]
  exact q
theorem wq_gtup2 {Q : En → Sto → Prop} {τ : En} {i j : Nat} (q : Q ((τ.set i (some x)).set j (some y)) st) : Wp (gTupN [i, j] (.tup [x, y]) τ st) Q E := q
theorem wq_gtup3 {Q : En → Sto → Prop} {τ : En} {i j k : Nat} {z : D} (q : Q (((τ.set i (some x)).set j (some y)).set k (some z)) st) : Wp (gTupN [i, j, k] (.tup [x, y, z]) τ st) Q E := q
theorem wq_gtup4 {Q : En → Sto → Prop} {τ : En} {i j k l : Nat} {z w : D} (q : Q ((((τ.set i (some x)).set j (some y)).set k (some z)).set l (some w)) st) : Wp (gTupN [i, j, k, l] (.tup [x, y, z, w]) τ st) Q E := q
/-- a method; a new object; a key that is dropped -/
def methK (c m : Str) (F : DF) (t : DA) (τ : En) (Q : D → Sto → Prop) (E : Exn → Sto → Prop) (d : D) (st : Sto) : Prop :=
  ∃ n fs, d = .ref n ∧ st[n]? = some (.ins c fs) ∧ valD fs m = none ∧ Wp (t τ st) (fun ds st => Wp (F (.ref n :: ds) st) Q E) E
theorem methK_mk {c m : Str} {F : DF} {t : DA} {τ : En} {fs : List (Str × D)} (h : st[n]? = some (.ins c fs)) (hf : valD fs m = none) (q : Wp (t τ st) (fun ds st => Wp (F (.ref n :: ds) st) Q E) E) : methK c m F t τ Q E (.ref n) st := ⟨n, fs, rfl, h, hf, q⟩
theorem wp_meth {c m : Str} {F : DF} {to : DE} {t : DA} {τ : En} (h : Wp (to τ st) (methK c m F t τ Q E) E) : Wp (dMeth c m F to t τ st) Q E :=
  wp_bind (h.to fun d st ⟨n, fs, e, h1, h2, q⟩ => by
    subst e
    dsimp only
    rw [h1]
    dsimp only
    rw [if_pos ⟨rfl, h2⟩]
    exact wp_bind q)
theorem wp_make {c : Str} {F : DF} {t : DA} {τ : En} (h : Wp (t τ st) (fun ds st => Wp (F (.ref st.length :: ds) (st ++ [.ins c []])) (fun r st' => r = .non ∧ Q (.ref st.length) st') E) E) : Wp (dMake c F t τ st) Q E :=
  wp_bind (h.to fun ds st q => wp_bind (q.to fun r st' ⟨e, q⟩ => by subst e; exact q))
def popK (Q : D → Sto → Prop) (x y : D) (st : Sto) : Prop := ∃ n kvs k v, x = .ref n ∧ st[n]? = some (.dK kvs) ∧ keyOf y = some k ∧ valD kvs k = some v ∧ Q v (st.set n (.dK (dropD kvs k)))
theorem popK_mk {k : Key} {v : D} (h : st[n]? = some (.dK kvs)) (hk : keyOf y = some k) (hv : valD kvs k = some v) (q : Q v (st.set n (.dK (dropD kvs k)))) : popK Q (.ref n) y st := ⟨n, kvs, k, v, rfl, h, hk, hv, q⟩
theorem wp_setf {Q : Fl × En → Sto → Prop} {τ : En} {f c : Str} {cs : List Str} {fs fs' : List (Str × D)} {v : D} (h : st[n]? = some (.ins c fs)) (hc : c ∈ cs) (hl : fs.length < 1000) (hp : putFD f v fs = fs') (q : Q (.nx, τ) (st.set n (.ins c fs'))) : Wp (setF f cs (.ref n) v τ st) Q E := by
  unfold setF
  dsimp only
  rw [h]
  dsimp only
  rw [if_pos ⟨hc, hl⟩, hp]
  exact q
theorem wp_fldaug {Q : Fl × En → Sto → Prop} {τ : En} {f : Str} {cs : List Str} {to tv : DE} {r : D2} (h : Wp (to τ st) (fun d st => Wp (fldV f cs d st) (fun x st => Wp (tv τ st) (fun y st => Wp (r x y st) (fun z st => Wp (setF f cs d z τ st) Q E) (fun x st => Q (.ex x, τ) st)) (fun x st => Q (.ex x, τ) st)) (fun x st => Q (.ex x, τ) st)) (fun x st => Q (.ex x, τ) st)) : Wp (dFldAug f cs to tv r τ st) Q E :=
  wp_stm (h.to fun _ _ q => wp_stm (q.to fun _ _ q => wp_stm (q.to fun _ _ q => wp_stm q)))
theorem wp_fcons {Q : Fl × En → Sto → Prop} {τ τ' : En} {j : Nat} {t : DS} {ds : List D} (hs : SetTo (τ.set j (some d)) τ') (h : Wp (t τ' st) (turnK (fun τ st => Wp (forL (gN j) t ds τ st) Q E) Q) E) : Wp (forL (gN j) t (d :: ds) τ st) Q E := by
  have hs : τ.set j (some d) = τ' := hs
  subst hs
  show Wp ((t (τ.set j (some d)) st).turn _) Q E
  refine wp_bind (h.to fun r st q => ?_)
  obtain ⟨f, τ1⟩ := r
  cases f <;> exact q
theorem wp_fnil {Q : Fl × En → Sto → Prop} {τ : En} {g : DG} {t : DS} (q : Q (.nx, τ) st) : Wp (forL g t [] τ st) Q E := q
theorem wp_tab {kvs : List (Key × D)} {τ : En} {te : DE} (h : Wp (te τ st) (fun y st => Wp (match y with | .str x => (match valD kvs (.inr x) with | some d => R.ok d st | none => .bad) | _ => .bad) Q E) E) : Wp (dTab kvs te τ st) Q E := wp_bind h
theorem wq_tab {kvs : List (Key × D)} {x : Str} (h : valD kvs (.inr x) = some d) (q : Q d st) : Wp (match (D.str x) with | .str x => (match valD kvs (.inr x) with | some d => R.ok d st | none => .bad) | _ => .bad) Q E := by
  show Wp (match valD kvs (.inr x) with | some d => R.ok d st | none => .bad) Q E
  rw [h]; exact q
theorem if_t {A B : Prop} (h : A) : if true = true then A else B := by rw [if_pos rfl]; exact h
theorem if_f {A B : Prop} (h : B) : if false = true then A else B := by rw [if_neg (by decide)]; exact h
theorem if_nt {A B : Prop} (h : B) : if (!true) = true then A else B := if_f h
theorem if_nf {A B : Prop} (h : A) : if (!false) = true then A else B := if_t h
theorem if_dT {A B p : Prop} [Decidable p] (h : p) (q : A) : if decide p = true then A else B := by rw [if_pos (decide_eq_true h)]; exact q
theorem if_dF {A B p : Prop} [Decidable p] (h : ¬p) (q : B) : if decide p = true then A else B := by rw [if_neg (by rw [decide_eq_false h]; decide)]; exact q
theorem if_dec {A B p : Prop} [Decidable p] (h1 : p → A) (h2 : ¬p → B) : if decide p = true then A else B := by
  by_cases h : p
  · rw [if_pos (decide_eq_true h)]; exact h1 h
  · rw [if_neg (by rw [decide_eq_false h]; decide)]; exact h2 h
theorem if_ndec {A B p : Prop} [Decidable p] (h1 : ¬p → A) (h2 : p → B) : if (!decide p) = true then A else B := by
  by_cases h : p
  · rw [if_neg (by rw [decide_eq_true h]; decide)]; exact h2 h
  · rw [if_pos (by rw [decide_eq_false h]; rfl)]; exact h1 h
theorem if_b {A B : Prop} {b : Bool} (h1 : b = true → A) (h2 : b = false → B) : if b = true then A else B := by
  cases b
  · exact if_f (h2 rfl)
  · exact if_t (h1 rfl)
theorem if_nb {A B : Prop} {b : Bool} (h1 : b = false → A) (h2 : b = true → B) : if (!b) = true then A else B := by
  cases b
  · exact if_t (h1 rfl)
  · exact if_f (h2 rfl)
end
end DL

/-! DL16: lists of the store walked while they stay (or change): comprehensions and for. -/
namespace DL
open PySem PySem.Spec PyProof.Rows L2
structure WalkR (K : PySem.W.Frag) (cl : Cl) (as : Mp) (H : Hp) (J : It) (n : Nat) : Prop where
  go : ∀ i as' st' H' ds, Mv as H as' H' → Wd K cl as' st' H' → st'[n]? = some (.lst ds) → i < ds.length → J.go i H'
  yld : ∀ i as' st' H' x H'' ds, Mv as H as' H' → Wd K cl as' st' H' → st'[n]? = some (.lst ds) → J.yld i H' x H'' → H'' = H' ∧ ∃ d, ds[i]? = some d ∧ Rep K as' H' d x
  stop : ∀ i as' st' H' ds, Mv as H as' H' → Wd K cl as' st' H' → st'[n]? = some (.lst ds) → ds.length ≤ i → J.stop i H'
def liftIR (K : PySem.W.Frag) (cl : Cl) (W : WX) (t : DE) : TI := fun σ H Q => ∃ as st τ, Wd K cl as st H ∧ RepE K as H τ σ ∧ Post K cl (WE W σ) as H (t τ st) fun d st' as' H' => ∃ n ds, d = .ref n ∧ st'[n]? = some (.lst ds) ∧ ∀ J, WalkR K cl as' H' J n → Q J H'
abbrev JIR (X : Cx) (cl : Cl) (W : WX) (tg e : Expr) (t : DE) : Prop := PI X tg e (liftIR X.K cl W t)
theorem obl {K : PySem.W.Frag} {cl : Cl} {as : Mp} {st : Sto} {H : Hp} {n : Nat} {a : Addr} {ds : List D} (w : Wd K cl as st H) (ha : as.m[n]? = some a) (hs : st[n]? = some (.lst ds)) : ∃ xs, H a = some (.lst xs) ∧ Reps K as H ds xs := by
  obtain ⟨b, h, h1, h2, h3⟩ := w.ob n _ hs
  rw [ha] at h1; cases h1
  cases h3 with
  | lst r => exact ⟨_, h2, r⟩
theorem walk_ref {K : PySem.W.Frag} {cl : Cl} {as : Mp} {H : Hp} {n : Nat} {a : Addr} (ha : as.m[n]? = some a) : WalkR K cl as H (Itl K a) n where
  go := fun i as' st' H' ds e w hs hi => by
    obtain ⟨xs, h1, r⟩ := obl w (e.at ha) hs
    obtain ⟨v, h2, _⟩ := r.get (List.getElem?_eq_getElem hi)
    exact ⟨xs, v, .of h1, h2⟩
  yld := fun i as' st' H' x H'' ds e w hs ⟨h1, h2⟩ => by
    subst h1
    obtain ⟨xs, h3, r⟩ := obl w (e.at ha) hs
    have h4 := h2 xs (.of h3)
    have hi : i < ds.length := by
      rw [r.len]
      exact (List.getElem?_eq_some_iff.mp h4).1
    obtain ⟨v, h5, h6⟩ := r.get (List.getElem?_eq_getElem hi)
    rw [h4] at h5; cases h5
    exact ⟨rfl, _, List.getElem?_eq_getElem hi, h6⟩
  stop := fun i as' st' H' ds e w hs hi => by
    obtain ⟨xs, h3, r⟩ := obl w (e.at ha) hs
    exact ⟨xs, .of h3, by rw [← r.len]; exact hi⟩
/-- the list behind a value, when it is one of the store's -/
def refD (t : DE) : DE := fun τ st => (t τ st).bind fun d st => match d with
  | .ref n => match st[n]? with
    | some (.lst _) => .ok (.ref n) st
    | _ => .bad
  | _ => .bad
section
variable {X : Cx} {cl : Cl} {W : WX} {tg e : Expr} {te : DE}
theorem ji_ref (he : JE X cl W e te) : JIR X cl W tg e (refD te) := by
  refine PI.mono (pi_list he) fun σ H Q ⟨as, st, τ, w, e, p⟩ => ⟨as, st, τ, w, e, p.bind.mono fun d st1 as1 H1 e1 w1 p1 v rv => ?_⟩
  split at p1
  · split at p1
    · rename_i n hs
      cases rv with
      | ref ha =>
        obtain ⟨n', ds', h1, h2, h3⟩ := p1.here w1
        cases h1
        obtain ⟨xs, h4, _⟩ := obl w1 ha h2
        exact ⟨_, rfl, ⟨_, .of h4⟩, h3 _ (walk_ref ha)⟩
    · exact p1.elim
  · exact p1.elim
end
/-! ### for -/
def forR (n : Nat) (g : DG) (body : DS) : Nat → Nat → DS
  | 0, _, _, _ => .bad
  | f + 1, i, τ, st => match st[n]? with
    | some (.lst ds) => match ds[i]? with
      | none => .ok (.nx, τ) st
      | some d => (g d τ st).stm τ fun τ st => (body τ st).turn fun τ st => forR n g body f (i + 1) τ st
    | _ => .bad
def fuelR : Nat := 16777218
def dForR (it : DE) (g : DG) (body : DS) : DS := fun τ st => (refD it τ st).stm τ fun d st => match d with
  | .ref n => forR n g body fuelR 0 τ st
  | _ => .bad
def isRef (r : R D) : Bool := match r with
  | .ok (.ref _) _ => true
  | _ => false
/-- for, over anything -/
def dForX (it : DE) (g : DG) (body : DS) : DS := fun τ st => if isRef (it τ st) = true then dForR it g body τ st else dFor (iAny it) g body τ st
section
variable {X : Cx} {cl : Cl} {W : WX} {tg e c : Expr} {body : List Stmt} {it : DE} {g : DG} {t : DS} {pos : Pos}
theorem js_forR (hx : CxOk X W) (hi : JE X cl W e it) (hg : JG X cl W tg g) (hb : JSs X cl W body t) (hs : ∀ x, foldedSetIterable e X.env x = pure x := by intro _; rfl) : JS X cl W (.For tg e body [] pos) (dForR it g t) := by
  refine PS.mono (ps_for hx.own hx.calm (ji_ref hi) hg hb hs) fun M σ H ⟨as, st, τ, w, e, p⟩ => ⟨as, st, τ, w, e, (Post.stm e p).mono fun d st1 as1 H1 e1 w1 p1 => ?_⟩
  cases d with
  | ref n =>
    have p1 : Post X.K cl E00 as1 H1 (forR n g t fuelR 0 τ st1) (fun r _ as' H' => FlOk X.K cl W M as' H' r.2 r.1) := p1
    obtain ⟨ds0, hs0⟩ : ∃ ds, st1[n]? = some (.lst ds) := by
      cases ho : st1[n]? with
      | none =>
        have q : forR n g t fuelR 0 τ st1 = .bad := by show forR n g t (16777217 + 1) 0 τ st1 = .bad; unfold forR; rw [ho]
        rw [q] at p1; exact p1.elim
      | some o =>
        cases o with
        | lst ds => exact ⟨ds, rfl⟩
        | _ =>
          refine absurd p1 ?_
          have q : forR n g t fuelR 0 τ st1 = .bad := by show forR n g t (16777217 + 1) 0 τ st1 = .bad; unfold forR; rw [ho]
          rw [q]; exact fun p => p.elim
    refine ⟨n, ds0, rfl, hs0, fun J Wk => ?_⟩
    refine ⟨fun i m σ' H' => ∃ as' st' τ', Evo as1 H1 as' H' ∧ Wd X.K cl as' st' H' ∧ RepE X.K as' H' τ' σ' ∧ Post X.K cl E00 as' H' (forR n g t m i τ' st') (fun r _ as' H' => FlOk X.K cl W M as' H' r.2 r.1),
      ⟨fuelR, as1, st1, τ, .refl, w1, e.evo e1, p1⟩, ?_⟩
    rintro i m σ' H' ⟨as', st', τ', e2, w2, r2, p2⟩
    cases m with
    | zero => exact p2.elim
    | succ m =>
      unfold forR at p2
      split at p2
      · rename_i ds hds
        split at p2
        · rename_i hn
          exact .inl ⟨Wk.stop i as' st' H' ds e2.mv w2 hds (by simpa using hn), p2.here w2 σ' r2⟩
        · rename_i d hd
          have hlt := (List.getElem?_eq_some_iff.mp hd).1
          refine .inr ⟨Wk.go i as' st' H' ds e2.mv w2 hds hlt, _, fun σ'' H'' n => n, fun x H'' y => ?_⟩
          obtain ⟨rfl, d', hd', r3⟩ := Wk.yld i as' st' H' x H'' ds e2.mv w2 hds y
          rw [hd] at hd'; cases hd'
          refine ⟨as', st', τ', d, w2, r2, r3, (Post.stm r2 p2).mono fun τ4 st4 as4 H4 e4 w4 p4 σ4 r4 => ?_⟩
          refine turn_ok w4 r4 p4 fun as5 H5 τ5 st5 σ5 e5 w5 r5 p5 => ⟨m, Nat.lt_succ_self m, as5, st5, τ5, (e2.trans e4).trans e5, w5, r5, p5⟩
      · exact p2.elim
  | _ => exact p1.elim
theorem js_forX (hx : CxOk X W) (hi : JE X cl W e it) (hg : JG X cl W tg g) (hb : JSs X cl W body t) (hs : ∀ x, foldedSetIterable e X.env x = pure x := by intro _; rfl) : JS X cl W (.For tg e body [] pos) (dForX it g t) :=
  JS.or (js_forR hx hi hg hb hs) (js_for hx (ji_any hi) hg hb hs) fun τ st => (ite_or _ _).elim .inl fun h => .inr (.inl h)
end

/-! ### comprehensions -/
def compR (n : Nat) (tg : Tgt) (tt : DT) (te : DE) (τ : En) : Nat → Nat → List D → Sto → R (List D)
  | 0, _, _, _ => .bad
  | f + 1, i, acc, st => match st[n]? with
    | some (.lst ds) => match ds[i]? with
      | none => .ok acc st
      | some d => match tg.put d τ with
        | none => .bad
        | some τ1 => match tt τ1 st with
          | .ok b st => if b = true then (match te τ1 st with
            | .ok y st => if acc.length < sizeLine then compR n tg tt te τ f (i + 1) (acc ++ [y]) st else .bad
            | _ => .bad) else compR n tg tt te τ f (i + 1) acc st
          | _ => .bad
    | _ => .bad
def dCompR (it : DE) (tg : Tgt) (tt : DT) (te : DE) (vs : List Nat) : DE := fun τ st => (refD it τ st).bind fun d st => match d with
  | .ref n => (compR n tg tt te (wipeD τ vs) fuelR 0 [] st).bind fun out st => .ok (.lst out) st
  | _ => .bad
def dCompX (it : DE) (tg : Tgt) (tt : DT) (te : DE) (vs : List Nat) : DE := fun τ st => if isRef (it τ st) = true then dCompR it tg tt te vs τ st else dComp (iAny it) tg tt te vs τ st
theorem compR_lst {n : Nat} {tg : Tgt} {tt : DT} {te : DE} {τ : En} {f i : Nat} {acc out : List D} {st stf : Sto} (h : compR n tg tt te τ f i acc st = .ok out stf) : ∃ ds, st[n]? = some (.lst ds) := by
  cases f with
  | zero => cases h
  | succ f =>
    unfold compR at h
    split at h
    · rename_i ds hds; exact ⟨ds, hds⟩
    · cases h
theorem compR_nox {n : Nat} {tg : Tgt} {tt : DT} {te : DE} {τ : En} : ∀ {f i : Nat} {acc : List D} {st stx : Sto} {x : Exn}, compR n tg tt te τ f i acc st ≠ .exc x stx := by
  intro f
  induction f with
  | zero => intro i acc st stx x h; cases h
  | succ f ih =>
    intro i acc st stx x h
    unfold compR at h
    split at h
    · split at h
      · cases h
      · split at h
        · cases h
        · split at h
          · split at h
            · split at h
              · split at h
                · exact ih h
                · cases h
              · cases h
            · exact ih h
          · cases h
    · cases h
section
variable {X : Cx} {cl : Cl} {W : WX}
theorem comp_coreR {as : Mp} {st : Sto} {σ : L2.St} {τ : En} {H : Hp} {J : It} {n : Nat} {tg : Tgt} {tt : DT} {te : DE} {vs : List Nat} {A : Addr} {Qf : Hp → Prop} {out : List D} {stf : Sto} {fu : Nat}
    (hv : ∀ i ∈ tg.names, i ∈ vs) (w : Wd X.K cl as st H) (e : RepE X.K as H τ σ) (Wk : WalkR X.K cl as H J n) (ha : H A = none) (hr : compR n tg tt te (wipeD τ vs) fu 0 [] st = .ok out stf)
    (hq : ∀ as' H' xs, Mk1 as H A as' H' → Wd X.K cl as' stf H' → H' A = some (.lst xs) → Reps X.K as' H' out xs → Qf H') :
    ∃ Wv : Nat → Nat → Hp → Prop, (∃ m, Wv 0 m (upd H A (.lst []))) ∧ ∀ i m H, Wv i m H →
      (J.stop i H ∧ Qf H) ∨ (J.go i H ∧ ∃ Nx : Hp → Prop, (∀ H', Nx H' → ∃ m', m' < m ∧ Wv (i + 1) m' H') ∧ ∀ x H', J.yld i H x H' → (tg.raw X.K) x (L2.wipe σ vs) H' fun σ2 H2 => L2.wipe σ2 vs = L2.wipe σ vs ∧ liftT X.K cl W0 tt σ2 H2 fun b H3 =>
        if b = true then lift X.K cl W0 te σ2 H3 fun y H4 => ∃ acc, H4 A = some (.lst acc) ∧ acc.length < sizeLine ∧ Nx (upd H4 A (.lst (acc ++ [y]))) else Nx H3) := by
  refine ⟨fun i m H' => ∃ as' st' acc xs, Mk1 as H A as' H' ∧ Wd X.K cl as' st' H' ∧ H' A = some (.lst xs) ∧ Reps X.K as' H' acc xs ∧ compR n tg tt te (wipeD τ vs) m i acc st' = .ok out stf,
    ⟨fu, as.hide A, st, [], [], Mk1.start w ha, w.hide ha, upd_same, .nil, hr⟩, ?_⟩
  rintro i m H' ⟨as', st', acc, xs, m1, w1, hA, ra, hc⟩
  cases m with
  | zero => cases hc
  | succ m =>
    unfold compR at hc
    split at hc
    · rename_i ds hds
      split at hc
      · rename_i hn
        cases hc
        exact .inl ⟨Wk.stop i as' _ H' ds m1.mvs w1 hds (by simpa using hn), hq as' H' xs m1 w1 hA ra⟩
      · rename_i d hd
        have hlt := (List.getElem?_eq_some_iff.mp hd).1
        refine .inr ⟨Wk.go i as' st' H' ds m1.mvs w1 hds hlt, _, fun H'' n => n, fun x H'' y => ?_⟩
        obtain ⟨rfl, d', hd', r3⟩ := Wk.yld i as' st' H' x H'' ds m1.mvs w1 hds y
        rw [hd] at hd'; cases hd'
        split at hc
        · cases hc
        · rename_i τ1 hp
          refine tg.run hv ((e.mv m1.mvs).wipe vs) r3 hp fun σ1 q1 q2 => ⟨q2.trans (wipe_wipe σ vs vs fun _ h => h), as', st', τ1, w1, q1, ?_⟩
          cases ht : tt τ1 st' with
          | bad => rw [ht] at hc; cases hc
          | exc _ _ => rw [ht] at hc; cases hc
          | ok b st4 =>
            rw [ht] at hc
            dsimp only at hc
            intro as4 H4 e4 w4
            obtain ⟨m4, k4⟩ := m1.next e4 w
            cases b with
            | false => exact ⟨m, Nat.lt_succ_self m, as4, st4, acc, xs, m4, w4, k4.trans hA, ra.evo e4, hc⟩
            | true =>
              rw [if_pos rfl] at hc
              show lift X.K cl W0 te σ1 H4 _
              refine ⟨as4, st4, τ1, w4, q1.evo e4, ?_⟩
              cases hy : te τ1 st4 with
              | bad => rw [hy] at hc; cases hc
              | exc _ _ => rw [hy] at hc; cases hc
              | ok z st5 =>
                rw [hy] at hc
                dsimp only at hc
                intro as5 H5 e5 w5 v rv
                obtain ⟨m5, k5⟩ := m4.next e5 w
                split at hc
                · rename_i hl
                  have ra5 := (ra.evo e4).evo e5
                  refine ⟨xs, k5.trans (k4.trans hA), by rw [← ra5.len]; exact hl, ?_⟩
                  have sd : Mv as5 H5 as5 (upd H5 A (.lst (xs ++ [v]))) := Mv.side (.inr m5.mem)
                  exact ⟨m, Nat.lt_succ_self m, as5, st5, acc ++ [z], xs ++ [v], m5.set w, w5.wrx m5.mem, upd_same, (ra5.append (.cons rv .nil)).mv sd, hc⟩
                · cases hc
    · cases hc
theorem lift_compR {it : DE} {tg : Tgt} {tt : DT} {te : DE} {vs : List Nat} (hv : ∀ i ∈ tg.names, i ∈ vs) {σ : L2.St} {H : Hp} {Q : VK} (h : lift X.K cl W (dCompR it tg tt te vs) σ H Q) :
    tLc (liftIR X.K cl W (refD it)) (tg.raw X.K) (liftT X.K cl W0 tt) (lift X.K cl W0 te) vs σ H Q := by
  obtain ⟨as, st, τ, w, e, p⟩ := h
  refine ⟨as, st, τ, w, e, p.bind.mono fun d st1 as1 H1 e1 w1 p1 => ?_⟩
  cases d with
  | ref n =>
    dsimp only at p1
    cases hc : compR n tg tt te (wipeD τ vs) fuelR 0 [] st1 with
    | bad => rw [hc] at p1; exact p1.elim
    | exc x stx => exact (compR_nox hc).elim
    | ok out stf =>
      rw [hc] at p1
      obtain ⟨ds, hds⟩ := compR_lst hc
      refine ⟨n, ds, rfl, hds, fun J Wk A ha => ?_⟩
      refine comp_coreR hv w1 (e.evo e1) Wk ha hc fun as' H' xs m w' hA ra => ?_
      obtain ⟨w2, n2⟩ := m.fix w1 w'
      exact Post.ok p1 m.evo w2 _ (.lst n2 hA (ra.mv m.mv))
  | _ => exact p1.elim
variable {elt tge iter : Expr} {ifs : List Expr} {scope : Scope} {own : List (Str × Nat)} {pos spos : Pos} {it : DE} {tg : Tgt} {tt : DT} {te : DE}
theorem j_lcR (hc : X.calm = true) (hN : X.N.Nodup) (hi : JE X cl W iter it) (ok : BlkOk X.N X.env.scope scope own) (hv : ∀ i ∈ tg.names, i ∈ own.map (·.2))
    (hg : ∀ (s : Shared) (H : Hp) (C : Addr) (cl : List (Str × Addr)) (fp : List Addr), PG (X.blk s H scope (compEnvC scope cl C X.env) fp) tge (tg.raw X.K))
    (ht : ∀ (s : Shared) (H : Hp) (C : Addr) (cl' : List (Str × Addr)) (fp : List Addr), JTs (X.blk s H scope (compEnvC scope cl' C X.env) fp) cl ifs tt)
    (he : ∀ (s : Shared) (H : Hp) (C : Addr) (cl' : List (Str × Addr)) (fp : List Addr), JE (X.blk s H scope (compEnvC scope cl' C X.env) fp) cl W0 elt te) (hs : ∀ x, foldedSetIterable iter X.env x = pure x := by intro _; rfl) :
    JE X cl W (.ListComp elt [⟨tge, iter, ifs, 0⟩] scope pos) (dCompR it tg tt te (own.map (·.2))) :=
  PE.mono (pe_lc hc hN (ji_ref hi) ok hg ht he hs) fun _ _ _ h => lift_compR hv h
theorem j_lcX (hc : X.calm = true) (hN : X.N.Nodup) (hi : JE X cl W iter it) (ok : BlkOk X.N X.env.scope scope own) (hv : ∀ i ∈ tg.names, i ∈ own.map (·.2))
    (hg : ∀ (s : Shared) (H : Hp) (C : Addr) (cl : List (Str × Addr)) (fp : List Addr), PG (X.blk s H scope (compEnvC scope cl C X.env) fp) tge (tg.raw X.K))
    (ht : ∀ (s : Shared) (H : Hp) (C : Addr) (cl' : List (Str × Addr)) (fp : List Addr), JTs (X.blk s H scope (compEnvC scope cl' C X.env) fp) cl ifs tt)
    (he : ∀ (s : Shared) (H : Hp) (C : Addr) (cl' : List (Str × Addr)) (fp : List Addr), JE (X.blk s H scope (compEnvC scope cl' C X.env) fp) cl W0 elt te) (hs : ∀ x, foldedSetIterable iter X.env x = pure x := by intro _; rfl) :
    JE X cl W (.ListComp elt [⟨tge, iter, ifs, 0⟩] scope pos) (dCompX it tg tt te (own.map (·.2))) :=
  JE.or (j_lcR hc hN hi ok hv hg ht he hs) (j_lc hc hN (ji_any hi) ok hv hg ht he hs) fun τ st => (ite_or _ _).elim .inl fun h => .inr (.inl h)
end
/-- where the turns leave the store as it is -/
theorem compR_eq {n : Nat} {tg : Tgt} {tt : DT} {te : DE} {τ : En} {st : Sto} {ds : List D} (hs : st[n]? = some (.lst ds)) (hk : ∀ d ∈ ds, ∀ τ1, tg.put d τ = some τ1 → (∀ b s, tt τ1 st = .ok b s → s = st) ∧ ∀ y s, te τ1 st = .ok y s → s = st) :
    ∀ {f i : Nat} {acc : List D}, i ≤ ds.length → ds.length < f + i → compR n tg tt te τ f i acc st = compL tg tt te τ (ds.drop i) acc st := by
  intro f
  induction f with
  | zero => intro i acc h1 h2; omega
  | succ f ih =>
    intro i acc h1 h2
    unfold compR
    rw [hs]
    dsimp only
    by_cases hi : i < ds.length
    · rw [List.drop_eq_getElem_cons hi, List.getElem?_eq_getElem hi]
      unfold compL
      dsimp only
      cases hp : tg.put ds[i] τ with
      | none => rfl
      | some τ1 =>
        obtain ⟨k1, k2⟩ := hk _ (List.getElem_mem hi) _ hp
        dsimp only
        cases ht : tt τ1 st with
        | bad => rfl
        | exc _ _ => rfl
        | ok b s1 =>
          have := k1 b s1 ht
          subst this
          dsimp only
          cases b with
          | false => exact ih (by omega) (by omega)
          | true =>
            rw [if_pos rfl, if_pos rfl]
            cases hy : te τ1 s1 with
            | bad => rfl
            | exc _ _ => rfl
            | ok y s2 =>
              have := k2 y s2 hy
              subst this
              dsimp only
              rw [ih (by omega) (by omega)]
    · have : i = ds.length := by omega
      subst this
      rw [List.getElem?_eq_none (Nat.le_refl _), List.drop_length]
      rfl
/-- a comprehension over a list of the store, its turns known -/
theorem wp_compX {α : Type} {it : DE} {tg : Tgt} {tt : DT} {te : DE} {vs : List Nat} {τ σ : En} {st : Sto} {n : Nat} {QD : D → Sto → Prop} {E : Exn → Sto → Prop} (c : α → D) (g : α → En) (p : α → Bool) (f : α → D) {ns : List α}
    (hw : wipeD τ vs = σ) (hi : it τ st = .ok (.ref n) st) (hs : st[n]? = some (.lst (ns.map c))) (hp : ∀ a ∈ ns, tg.put (c a) σ = some (g a)) (ht : ∀ a ∈ ns, tt (g a) st = .ok (p a) st) (he : ∀ a ∈ ns, te (g a) st = .ok (f a) st) (hl : ns.length ≤ 16777216)
    (q : QD (.lst ((ns.filter p).map f)) st) : Wp (dCompX it tg tt te vs τ st) QD E := by
  have e : dCompX it tg tt te vs τ st = .ok (.lst ((ns.filter p).map f)) st := by
    unfold dCompX dCompR
    rw [hi, if_pos (show isRef (R.ok (D.ref n) st) = true from rfl)]
    have er : refD it τ st = .ok (.ref n) st := by
      unfold refD
      rw [hi]
      show (match st[n]? with | some (.lst _) => R.ok (D.ref n) st | _ => R.bad : R D) = _
      rw [hs]
    rw [er]
    show (compR n tg tt te (wipeD τ vs) fuelR 0 [] st).bind (fun out st => R.ok (D.lst out) st) = _
    rw [hw, compR_eq hs (fun d hd τ1 h => by
      obtain ⟨a, ha, rfl⟩ := List.mem_map.mp hd
      rw [hp a ha] at h; cases h
      exact ⟨fun b s hb => by rw [ht a ha] at hb; cases hb; rfl, fun y s hy => by rw [he a ha] at hy; cases hy; rfl⟩) (Nat.zero_le _) (by rw [List.length_map]; show ns.length < 16777218 + 0; omega), List.drop_zero,
      compL_map c g p f hp ht (fun a ha _ => he a ha) (by rw [sizeLine_eq]; exact hl)]
  rw [e]
  exact q
/-! ### a + b, a list that will change -/
def dAddN : D2 := fun x y st => match lstOf x st, lstOf y st with
  | some a, some b => if a.length + b.length ≤ sizeLine then .ok (.ref st.length) (st ++ [.lst (a ++ b)]) else .bad
  | _, _ => .bad
theorem oj_addN {X : Cx} {cl : Cl} : OpJ X cl (binaryOp .Add) dAddN := OpJ.of (OpR.or (X := X) op_add (OpR.or op_add_str (OpR.or op_catA op_cat))) fun E as st H x y dx dy Q w rx ry p => by
  unfold dAddN at p
  cases h1 : lstOf dx st with
  | none => rw [h1] at p; exact p.elim
  | some a =>
    cases h2 : lstOf dy st with
    | none => rw [h1, h2] at p; exact p.elim
    | some b =>
      rw [h1, h2] at p
      dsimp only at p
      obtain ⟨pa, xs, rfl, ha, ra⟩ := lstOf_ok w rx h1
      obtain ⟨pb, ys, rfl, hb, rb⟩ := lstOf_ok w ry h2
      split at p
      · rename_i hl
        exact .inr (.inr (.inr ⟨pa, pb, xs, ys, rfl, rfl, ha, hb, by rw [← ra.len, ← rb.len]; exact hl, fun q hq => p _ _ (Evo.push w hq) (w.push hq (.lst (ra.append rb))) _ (Rep.newRef w)⟩))
      · exact p.elim
theorem wq_addN {x y : D} {xs ys : List D} {st : Sto} {Q : D → Sto → Prop} {E : Exn → Sto → Prop} (h1 : lstOf x st = some xs) (h2 : lstOf y st = some ys) (hl : xs.length + ys.length ≤ 16777216) (q : Q (.ref st.length) (st ++ [.lst (xs ++ ys)])) : Wp (dAddN x y st) Q E := by
  unfold dAddN
  rw [h1, h2]
  dsimp only
  rw [if_pos (by rw [sizeLine_eq]; exact hl)]
  exact q
/-! ### a text taken once or not at all -/
def dRep : D2 := fun x y st => match x, y with
  | .str a, .int n => if n = 0 then .ok (.str Str.empty) st else if n = 1 then .ok (.str a) st else .bad
  | _, _ => .bad
theorem op_strRep {X : Cx} : OpR X (binaryOp .Mult) (fun x y H Q => ∃ a n, x = .str a ∧ y = .int n ∧ ((n = 0 ∧ Q (.str Str.empty) H) ∨ (n = 1 ∧ Q (.str a) H))) := by
  intro pins s σ H x y v u Q I rx ry h
  obtain ⟨a, n, rfl, rfl, h⟩ := h
  obtain ⟨t, rfl⟩ := rx
  obtain ⟨t', rfl⟩ := ry
  rcases h with ⟨rfl, q⟩ | ⟨rfl, q⟩
  · exact PySem.P.mul_str_none (by omega) (by omega) ⟨.str Str.empty, H, I.tok _, ⟨_, rfl⟩, q⟩
  · refine PySem.P.mul_str (by decide) (fun _ h => by simp at h) (fun _ h => by simp at h) ?_
    rw [if_neg (by omega), if_pos (by simp)]
    exact ⟨.str a, H, I.tok s.toks, ⟨_, rfl⟩, q⟩
theorem oj_rep {X : Cx} {cl : Cl} : OpJ X cl (binaryOp .Mult) dRep := OpJ.of op_strRep fun E as st H x y dx dy Q w rx ry p => by
  unfold dRep at p
  split at p
  · cases rx; cases ry
    split at p
    · rename_i h
      exact ⟨_, _, rfl, rfl, .inl ⟨h, p.val w (.str _)⟩⟩
    · split at p
      · rename_i h
        exact ⟨_, _, rfl, rfl, .inr ⟨h, p.val w (.str _)⟩⟩
      · exact p.elim
  · exact p.elim
theorem wq_rep0 {a : Str} {st : Sto} {Q : D → Sto → Prop} {E : Exn → Sto → Prop} (q : Q (.str Str.empty) st) : Wp (dRep (.str a) (.int 0) st) Q E := q
theorem wq_rep1 {a : Str} {st : Sto} {Q : D → Sto → Prop} {E : Exn → Sto → Prop} (q : Q (.str a) st) : Wp (dRep (.str a) (.int 1) st) Q E := q
end DL

/-! DL17: a text picked from a written list, then put into str.replace (tokens carried). -/
namespace DL
open PySem PySem.Spec PyProof.Rows L2
/-- storing a name comes to one state -/
theorem nsSet_at {M : Model} {s : Shared} {a : Addr} {m : Str → Option Value} (hn : s.heap.Ns a m) (name : Str) (v : Value) :
    ∃ s', ∀ (Γ : PySem.Ctx) (Q : Unit → Pos → Shared → Prop) (E : Value → Pos → Shared → Prop) (p : Pos), Sem.wp M Γ (nsSet a name v) Q E p s ↔ Q () p s' := by
  obtain ⟨o, es, ep, ho, hd, hk, hm⟩ := hn
  have hany : es.any (·.refKey) = false := by
    rw [Array.any_eq_false']; intro e he; obtain ⟨n, t, h⟩ := hk e he; simp [DictEntry.refKey, h]
  apply Exists.intro
  intro Γ Q E p
  simp only [nsSet, strHash, Sem.wp_bind', Sem.wp_cmd_ask, Sem.wp_pure', Sem.wp_cmd_mkText]
  rw [Sem.wp_loadPart_of M Γ E p { s with toks := s.toks + 1 } (o := o) _ ho]
  simp only [hd, aRefKeyMayBeTheName_eq, aRefKeyMayBeTheNameByArray, hany, Bool.and_false, Bool.false_eq_true, if_false, Sem.wp_cmd_updatePart]
  exact ⟨fun h => h.2, fun h => ⟨by rw [ho]; rfl, h⟩⟩
section
variable {X : Cx} {pins : List (Addr × Obj)} {σ : L2.St} {H : Hp} {s : Shared}
/-- .. and the value lies there as it is -/
theorem store_raw {M : Model} {A : Around} {E : Value → Shared → Prop} {i : Nat} {x : Str} {v : V} {u : Value} {Q : Unit → Shared → Prop} (I : Inv X pins σ H s) (hN : X.N.Nodup) (hi : X.N[i]? = some x) (hk : X.env.kindOf x = some .local) (hx : Loc X.env.scope x) (r : RelV v u)
    (hf : X.fn x = true ∨ X.env.scope.names.lookup x = some .local)
    (h : ∀ s', Inv X pins (σ.set i (some v)) H s' → (∃ m, s'.heap.Ns X.env.locals m ∧ m x = some u) → s'.toks = s.toks + 1 → Q () s') : wpAny M A (storeName X.env x u) Q E s := by
  intro Γ p hΓ
  obtain ⟨m, hn, _⟩ := id I.loc
  have hcls : (X.env.scope.kind == .class || (X.env.scope.kind == .module && X.env.locals != X.env.globals)) = false := by rw [I.ok.kind]; rfl
  obtain ⟨s', hs'⟩ := nsSet_at (M := M) hn x u
  have h1 := store_ok (M := M) (A := A) (E := E) (Q := fun _ s' => Inv X pins (σ.set i (some v)) H s') I hN hi hx r (fun _ I2 => I2) hf Γ p hΓ
  have h2 := wpAny_storeName_local (M := M) (A := A) (E := E) (v := u) (Q := fun _ s' => (∃ m, s'.heap.Ns X.env.locals m ∧ m x = some u) ∧ s'.toks = s.toks + 1) hk hn (fun h' hn' hs => ⟨⟨_, hn', by simp⟩, rfl⟩) hcls Γ p hΓ
  rw [storeName_local hk hcls] at h1 h2 ⊢
  have h3 := (hs' Γ _ _ p).mp h2
  exact (hs' Γ _ _ p).mpr (h s' ((hs' Γ _ _ p).mp h1) h3.1 h3.2)
/-- a text under a name whose token is known -/
def RawT (X : Cx) (x : Str) (s : Shared) : Prop := ∃ m c u, s.heap.Ns X.env.locals m ∧ m x = some (.str c u) ∧ u ≠ 0 ∧ u < s.toks
theorem RawT.get {x : Str} {i : Nat} {c : Str} (h : RawT X x s) (I : Inv X pins σ H s) (hN : X.N[i]? = some x) (hk : X.env.kindOf x = some .local) (hv : Vis X.env.scope x) (hσ : σ[i]? = some (some (.str c))) : ∃ m u, s.heap.Ns X.env.locals m ∧ m x = some (.str c u) ∧ u ≠ 0 ∧ u < s.toks := by
  obtain ⟨m, c', u, hn, hm, h1, h2⟩ := h
  obtain ⟨m', hn', hl⟩ := I.loc
  obtain ⟨u', ⟨t, rfl⟩, l⟩ := hl i x _ hN hσ hv
  have e : m' = m := hn'.eq_nsMap.trans hn.eq_nsMap.symm
  subst e
  rcases l with ⟨_, q⟩ | ⟨q, _⟩
  · rw [hm] at q
    cases q
    exact ⟨m', u, hn', hm, h1, h2⟩
  · rw [hk] at q
    rcases q with q | q <;> cases q
end
/-! ### rules that hold where something is known of the state -/
def PEh (hy : Shared → Prop) (X : Cx) (e : Expr) (t : TE) : Prop := ∀ (pins : List (Addr × Obj)) (s : Shared) (σ : L2.St) (H : Hp) (Q : VK), hy s → Inv X pins σ H s → t σ H Q → wpAny (model X.prog X.w) X.A (eval e X.env) (EP X pins σ Q) X.xe s
def PTh (hy : Shared → Prop) (X : Cx) (e : Expr) (t : TT) : Prop := ∀ (pins : List (Addr × Obj)) (s : Shared) (σ : L2.St) (H : Hp) (Q : Bool → Hp → Prop), hy s → Inv X pins σ H s → t σ H Q → wpAny (model X.prog X.w) X.A (isTrue e X.env (eval e X.env)) (TP X pins σ Q) X.xe s
def PSh (hy : Shared → Prop) (X : Cx) (st : Stmt) (t : TS) : Prop := ∀ (pins : List (Addr × Obj)) (s : Shared) (σ : L2.St) (H : Hp) (D : Ends), hy s → Inv X pins σ H s → t D σ H → wpAny (model X.prog X.w) X.A (exec st X.env) (SP X pins D) X.xe s
section
variable {hy : Shared → Prop} {X : Cx}
theorem psh_if {c : Expr} {a b : List Stmt} {tc : TT} {t u : TS} {pos : Pos} (hc : PTh hy X c tc) (ha : PSs X a t) (hb : PSs X b u) : PSh hy X (.If c a b pos) (tIfS tc t u) :=
  fun pins s σ H D hs I h => wpAny_If (thn (hc pins s σ H _ hs I h) fun
    | true, s1, ⟨H1, I1, q1⟩ => ha.run pins s1 σ H1 D I1 q1
    | false, s1, ⟨H1, I1, q1⟩ => hb.run pins s1 σ H1 D I1 q1)
theorem pth_cmp {a b : Expr} {op : CmpOp} {r : R2} {ta tb : TE} {pos : Pos} (ho : OpR X (compareOp op) r) (ha : PEh hy X a ta) (hb : PE X b tb) (hm : behindInMarks op b = false) : PTh hy X (.Compare a [op] [b] pos) (tTest (tOp r ta tb)) :=
  fun pins s σ H Q hs I h => wpAny_isTrue_Compare1
    (thn (ha pins s σ H _ hs I h) fun v s1 ⟨x, H1, I1, r1, q1⟩ =>
      thn (hb.run pins s1 σ H1 _ I1 q1) fun u s2 ⟨y, H2, I2, r2, q2⟩ =>
        thn (ho pins s2 σ H2 x y v u _ I2 r1 r2 q2) fun c s3 ⟨z, H3, I3, r3, k, e, q3⟩ => by
          subst e
          cases r3
          exact wpAny_truthy_bool ⟨H3, I3, q3⟩) hm
theorem peh_call {CX : CXT} {k : Nat} {f : Addr} {fd : FuncData} {ps : List Str} {sp : Sp} {dvs : List V} {ds : List Value} {E : L2.St → XK} {x : Str} {p pos : Pos} {e : Expr} {t : TE} (F : FnQ X.prog X.w X.K X.mg X.base CX k f fd ps sp) (hr : Rm k X.A) (hg : Gl X x) (hm : X.mg x = some (.ref f))
    (hk : PySem.W.keepIn X.K (.ref f) = true) (hb : Binds X.K fd ps ds) (hd : Vals dvs ds) (hx : ∀ σ, PassesAt CX X σ (E σ)) (ha : PEh hy X e t) (hdb : (x == ("__debug__" : Str)) = false) (he : starEach [e] X.env = [(false, eval e X.env)]) :
    PEh hy X (.Call (.Name x p) [e] [] pos) (fun σ H Q => t σ H fun v H1 => sp ([v] ++ dvs) H1 Q (E σ)) := by
  intro pins s σ H Q hs I h
  refine wpAny_Call_Name_kw (ld_glob I hg hm ?_ hdb)
  refine PySem.W.callWith_K (h₀ := X.base) I.ok.mod.kin hk ?_ he rfl
  rw [he]
  show wpAny _ _ (spliced ((false, eval e X.env) :: backTo pos [])) _ _ s
  refine Calls.spliced_cons (thn (ha pins s σ H _ hs I h) fun v s1 ⟨y, H1, I1, r1, q1⟩ => ?_)
  refine Calls.spliced_nil ⟨I1.kIn, ?_⟩
  exact run_fnQ (vs := [y]) F hr hb hd (hx σ) I1 (.cons r1 .nil) q1
/-- text.replace(c, name) -/
theorem peh_repl {ik ib j0 : Nat} {kx bx y : Str} {p1 p2 c0 apos pos : Pos} (hNk : X.N[ik]? = some kx) (hvk : Vis X.env.scope kx) (hNb : X.N[ib]? = some bx) (hvb : Vis X.env.scope bx) (hk : X.env.kindOf bx = some .local)
    (hdk : (kx == ("__debug__" : Str)) = false) (hck : (kx == ("__classdict__" : Str)) = false) (hdb : (bx == ("__debug__" : Str)) = false)
    (hst : starEach [.Constant (.str y) j0 c0, .Name bx p2] X.env = [(false, eval (.Constant (.str y) j0 c0) X.env), (false, eval (.Name bx p2) X.env)])
    (hbase : attributeBase (.Name kx p1) "replace" X.env (eval (.Name kx p1) X.env) = eval (.Name kx p1) X.env) (hline : (apos.endLine == pos.line) = true) :
    PEh (fun s => RawT X bx s) X (.Call (.Attribute (.Name kx p1) "replace" apos) [.Constant (.str y) j0 c0, .Name bx p2] [] pos)
      (fun σ H Q => ∃ x z, σ[ik]? = some (some (.str x)) ∧ σ[ib]? = some (some (.str z)) ∧ (y == z) = false ∧ x.length + (x.length + 1) * z.length ≤ 16777216 ∧ Q (.str (Txt.replace x y z)) H) := by
  intro pins s σ H Q hs I h
  obtain ⟨x, z, hx, hz, hyz, hl, q⟩ := h
  obtain ⟨m, u, hn, hm, hu, hlt⟩ := hs.get I hNb hk hvb hz
  refine PySem.Call_method2 hbase hst hline (raw_name hNk hvk I hx (fun v r => ?_) hdk hck)
  obtain ⟨tx, rfl⟩ := r
  have h0 : s.toks ≠ 0 := Nat.ne_of_gt (Nat.lt_of_le_of_lt (Nat.zero_le _) hlt)
  refine ⟨"str", _, F.plainAttrs_str, F.slot_str_replace, F.type_str_replace, typeIs_str _ _ _, (fun _ e => nomatch e), ?_⟩
  refine Calls.callWith_builtin rfl (Calls.evalArgs_plain (Calls.spliced_cons (Calls.Constant_str ?_)))
  refine Calls.spliced_cons (wpAny_Name (wpAny_loadName_local I.ok.kind hk hn hm ?_) hdb)
  refine Calls.spliced_nil ?_
  exact PySem.SC.replace h0 hu (Nat.ne_of_gt hlt) hyz hl fun t' k => ⟨.str (Txt.replace x y z), H, I.tok k, ⟨t', rfl⟩, q⟩
end
/-! ### a text picked from four written ones -/
abbrev fourV (y0 y1 y2 y3 : Str) : List V := [.str y0, .str y1, .str y2, .str y3]
def FourO (o : Obj) (y0 y1 y2 y3 : Str) (t : Nat) : Prop := o.cls = .type "list" ∧ o.data = .seq #[.str y0 t, .str y1 (t + 1), .str y2 (t + 1 + 1), .str y3 (t + 1 + 1 + 1)] 0
section
variable {X : Cx}
theorem four_list {y0 y1 y2 y3 : Str} {j0 j1 j2 j3 : Nat} {c0 c1 c2 c3 lp : Pos} {pins : List (Addr × Obj)} {s : Shared} {σ : L2.St} {H : Hp} (h1 : 1 ≤ s.toks) (I : Inv X pins σ H s) :
    wpAny (model X.prog X.w) X.A (eval (.List [.Constant (.str y0) j0 c0, .Constant (.str y1) j1 c1, .Constant (.str y2) j2 c2, .Constant (.str y3) j3 c3] lp) X.env)
      (fun v s1 => ∃ a o t, v = .ref a ∧ H a = none ∧ FourO o y0 y1 y2 y3 t ∧ t ≠ 0 ∧ t + 3 < s1.toks ∧ Inv X pins σ (upd H a (.frz o (.lst (fourV y0 y1 y2 y3)))) s1) X.xe s := by
  refine wpAny_List_spliced ?_
  show wpAny _ _ (spliced [(false, eval (.Constant (.str y0) j0 c0) X.env), (false, eval (.Constant (.str y1) j1 c1) X.env), (false, eval (.Constant (.str y2) j2 c2) X.env), (false, eval (.Constant (.str y3) j3 c3) X.env)]) _ _ s
  refine Calls.spliced_cons (Calls.Constant_str (Calls.spliced_cons (Calls.Constant_str (Calls.spliced_cons (Calls.Constant_str (Calls.spliced_cons (Calls.Constant_str (Calls.spliced_nil ?_))))))))
  have h4 : (4 : Nat) ≤ sizeLine := by decide
  refine ⟨h4, s.heap.objs.size, ⟨.type "list", none, .seq #[.str y0 s.toks, .str y1 (s.toks + 1), .str y2 (s.toks + 1 + 1), .str y3 (s.toks + 1 + 1 + 1)] 0, #[]⟩, s.toks, rfl, I.hok.fresh (Nat.le_refl _), ⟨rfl, rfl⟩, by omega, by show s.toks + 3 < s.toks + 1 + 1 + 1 + 1; omega, ?_⟩
  exact I.laid (t' := s.toks + 1 + 1 + 1 + 1) (fun b u e => Heap.get?_push_of_some _ e) (Nat.le_refl _) ⟨Heap.get?_push_size _ rfl, h4, [.str y0 s.toks, .str y1 (s.toks + 1), .str y2 (s.toks + 1 + 1), .str y3 (s.toks + 1 + 1 + 1)], 0, .cons ⟨_, rfl⟩ (.cons ⟨_, rfl⟩ (.cons ⟨_, rfl⟩ (.cons ⟨_, rfl⟩ .nil))), Heap.get?_push_size _ rfl⟩
end
/-- x = [.., .., .., ..][i], then a statement that may know x's token -/
def tPick (y0 y1 y2 y3 : Str) (i : Nat) (te : TE) (t2 : TS) : TS := fun D σ H => ∀ a o t, H a = none → FourO o y0 y1 y2 y3 t → te σ (upd H a (.frz o (.lst (fourV y0 y1 y2 y3)))) fun y H' => ∃ j c, y = .int j ∧ 0 ≤ j ∧ [y0, y1, y2, y3][j.toNat]? = some c ∧ H' a = some (.frz o (.lst (fourV y0 y1 y2 y3))) ∧ t2 D (σ.set i (some (.str c))) H'
theorem psst_pick {X : Cx} {i j0 j1 j2 j3 : Nat} {x y0 y1 y2 y3 : Str} {c0 c1 c2 c3 lp sp p1 ap : Pos} {idx : Expr} {te : TE} {st2 : Stmt} {t2 : TS} (hN : X.N.Nodup) (hi : X.N[i]? = some x) (hk : X.env.kindOf x = some .local) (hx : Loc X.env.scope x) (hf : X.fn x = true ∨ X.env.scope.names.lookup x = some .local)
    (hs : PlainIx idx) (he : PE X idx te) (h2 : PSh (fun s => RawT X x s) X st2 t2)
    (hsw : swapsWith (.Subscript (.List [.Constant (.str y0) j0 c0, .Constant (.str y1) j1 c1, .Constant (.str y2) j2 c2, .Constant (.str y3) j3 c3] lp) idx sp) (some (.Name x p1)) ap.line X.env = pure false) :
    PSsT X [.Assign [.Name x p1] (.Subscript (.List [.Constant (.str y0) j0 c0, .Constant (.str y1) j1 c1, .Constant (.str y2) j2 c2, .Constant (.str y3) j3 c3] lp) idx sp) ap, st2] (tPick y0 y1 y2 y3 i te t2) := by
  intro pins s σ H D h1 I h
  refine wpAny_execs_cons (wpAny_Assign_Name (Subscript_ (thn (four_list h1 I) fun v s1 ⟨a, o, t, hv, ha, ho, ht, htl, I1⟩ => ?_)) hsw)
  subst hv
  refine wpAny_mono (PySem.wpAny_toks (he.run pins s1 σ _ _ I1 (h a o t ha ho))) (fun u s2 q => ?_) fun _ _ z => z.2
  obtain ⟨hle, y, H2, I2, r2, j, c, rfl, hj0, hc, hfa, q2⟩ := q
  obtain ⟨tj, rfl⟩ := r2
  have hobj := (I2.hok a _ hfa).1
  have hl : s2.heap.IsList a #[.str y0 t, .str y1 (t + 1), .str y2 (t + 1 + 1), .str y3 (t + 1 + 1 + 1)] := ⟨o, hobj, ho.1, 0, ho.2⟩
  obtain ⟨k, rfl⟩ : ∃ k : Nat, j = k := ⟨j.toNat, by omega⟩
  rw [Int.toNat_natCast] at hc
  have hit : ∃ w : Nat, (#[Value.str y0 t, .str y1 (t + 1), .str y2 (t + 1 + 1), .str y3 (t + 1 + 1 + 1)])[k]? = some (.str c w) ∧ w ≠ 0 ∧ w ≤ t + 3 := by
    match k, hc with
    | 0, hc => cases hc; exact ⟨t, rfl, ht, by omega⟩
    | 1, hc => cases hc; exact ⟨t + 1, rfl, by omega, by omega⟩
    | 2, hc => cases hc; exact ⟨t + 1 + 1, rfl, by omega, by omega⟩
    | 3, hc => cases hc; exact ⟨t + 1 + 1 + 1, rfl, by omega, by omega⟩
    | n + 4, hc => simp at hc
  obtain ⟨w, hw, hw0, hwt⟩ := hit
  have hk4 : k < 4 := by
    by_cases hk4 : k < 4
    · exact hk4
    · rw [List.getElem?_eq_none (by simp; omega)] at hc; cases hc
  refine item_listR hl (Int.natCast_nonneg k) (by omega) (by rw [Int.toNat_natCast]; exact hw) ?_ (hs _ _)
  refine store_raw (v := V.str c) I2 hN hi hk hx ⟨w, rfl⟩ hf fun s3 I3 ⟨m, hn, hm⟩ htk => ?_
  have hlt : w < s3.toks := by
    rw [htk]
    have : t + 3 < s2.toks := Nat.lt_of_lt_of_le htl hle
    omega
  refine wpAny_execs_cons (thn (h2 pins s3 _ H2 D ⟨m, c, w, hn, hm, hw0, hlt⟩ I3 q2) fun f s4 q4 => ?_)
  cases f with
  | next => exact wpAny_execs_nil q4
  | ret v => exact q4
  | brk => exact q4
  | cont => exact q4
end DL

/-! DL18: DL17's pick and replace, as rules of the plain layer. -/
namespace DL
open PySem PySem.Spec PyProof.Rows L2
abbrev JSsT (X : Cx) (cl : Cl) (W : WX) (s : List Stmt) (t : DS) : Prop := PSsT X s (liftS X.K cl W t)
/-- an index that is not negative -/
def dIxP : D2 := fun x y st => match y with
  | .int j => if 0 ≤ j then dIxA x y st else .bad
  | _ => .bad
/-- str.replace of one text by another -/
def mReplP : DM := fun x ds st => match x, ds with
  | .str a, [.str b, .str c] => if (b == c) = false ∧ a.length + (a.length + 1) * c.length ≤ 16777216 then .ok (.str (Txt.replace a b c)) st else .bad
  | _, _ => .bad
section
variable {X : Cx} {cl : Cl} {W : WX} {s : Stmt} {rest : List Stmt} {t u : DS} {e : Expr} {te : DE} {x : Str} {i : Nat} {pos pos' : Pos}
theorem lift_seq {M : Ends} {σ : L2.St} {H : Hp} (h : liftS X.K cl W (dSeq t u) M σ H) : tSeq (liftS X.K cl W t) (liftS X.K cl W u) M σ H := by
  obtain ⟨as, st, τ, w, e, p⟩ := h
  refine ⟨as, st, τ, w, e, p.bind.mono fun r st1 as1 H1 e1 w1 p1 => ?_⟩
  obtain ⟨f, τ1⟩ := r
  cases f with
  | nx => exact fun σ1 r1 => ⟨as1, st1, τ1, w1, r1, p1⟩
  | rt d => exact p1.here w1
  | bk => exact p1.here w1
  | ct => exact p1.here w1
  | ex x => exact p1.here w1
theorem lift_set {M : Ends} {σ : L2.St} {H : Hp} (h : liftS X.K cl W (dAsg te (gN i)) M σ H) : tAsg (lift X.K cl W te) (gName i) M σ H := by
  obtain ⟨as, st, τ, w, e, p⟩ := h
  refine ⟨as, st, τ, w, e, (Post.stm e p).mono fun d st1 as1 H1 e1 w1 p1 v rv => ?_⟩
  exact p1.here w1 _ ((e.evo e1).set i rv)
theorem jst_cons (h1 : JS X cl W s t) (h2 : JSsT X cl W rest u) : JSsT X cl W (s :: rest) (dSeq t u) :=
  fun pins s σ H D h0 I h => psst_cons (PST.of h1) h2 pins s σ H D h0 I (lift_seq h)
/-- a name is stored: behind it a token is out -/
theorem jss_asgT (hN : X.N.Nodup) (hi : X.N[i]? = some x) (hx : Loc X.env.scope x) (he : JE X cl W e te) (h2 : JSsT X cl W rest u) (hk : X.env.kindOf x = some .local := by rfl)
    (hs : swapsWith e (some (.Name x pos')) pos.line X.env = pure false := by rfl) (hf : X.fn x = true ∨ X.env.scope.names.lookup x = some .local := by first | exact .inl rfl | exact .inr rfl | assumption) :
    JSs X cl W (.Assign [.Name x pos'] e pos :: rest) (dSeq (dAsg te (gN i)) u) := by
  refine ⟨fun pins s σ H D I h => ?_⟩
  refine wpAny_execs_cons (wpAny_Assign_Name (thn (he.run pins s σ H _ I (lift_set (lift_seq h))) fun v s1 ⟨y, H1, I1, r1, q1⟩ => ?_) hs)
  exact store_raw I1 hN hi hk hx r1 hf fun s2 I2 _ htk => h2 pins s2 _ H1 D (by omega) I2 q1
end
/-! ### where a text's token is known -/
section
variable {hy : Shared → Prop} {X : Cx} {cl : Cl} {W : WX} {t u : DS} {pos : Pos}
theorem jsh_if {c : Expr} {a b : List Stmt} {tc : DT} (hc : PTh hy X c (liftT X.K cl W tc)) (ha : JSs X cl W a t) (hb : JSs X cl W b u) : PSh hy X (.If c a b pos) (liftS X.K cl W (dIfS tc t u)) := by
  intro pins s σ H D hs I ⟨as, st, τ, w, e, p⟩
  refine psh_if hc ha hb pins s σ H D hs I ⟨as, st, τ, w, e, (Post.stm e p).mono fun d st1 as1 H1 e1 w1 p1 => ?_⟩
  cases d with
  | true => exact ⟨as1, st1, τ, w1, e.evo e1, p1⟩
  | false => exact ⟨as1, st1, τ, w1, e.evo e1, p1⟩
theorem jth_cmp {a b : Expr} {op : CmpOp} {r : D2} {ta tb : DE} (ho : OpJ X cl (compareOp op) r) (ha : PEh hy X a (lift X.K cl W ta)) (hb : JE X cl W b tb) (hm : behindInMarks op b = false) : PTh hy X (.Compare a [op] [b] pos) (liftT X.K cl W (dTst (dBin r ta tb))) := by
  intro pins s σ H Q hs I ⟨as, st, τ, w, e, p⟩
  refine pth_cmp (ho (WE W σ)) ha hb hm pins s σ H Q hs I ?_
  show tOp _ _ _ σ H _
  refine lift_bin ⟨as, st, τ, w, e, p.bind.mono fun d st1 as1 H1 e1 w1 p1 v rv => ?_⟩
  cases d with
  | bl b => cases rv; exact ⟨b, rfl, p1.here w1⟩
  | _ => exact p1.elim
theorem jeh_call {F : DF} {k : Nat} {f : Addr} {fd : FuncData} {ps : List Str} {x : Str} {p : Pos} {e : Expr} {te : DE} (hx : ∀ σ, PassesAt (L2.CX X.prog X.w) X σ (WE W σ)) (G : FnD X.prog X.w X.K X.mg X.base cl k f fd ps F) (hr : Rm k X.A) (hg : Gl X x) (hm : X.mg x = some (.ref f))
    (hk : PySem.W.keepIn X.K (.ref f) = true) (hb : Binds X.K fd ps []) (ha : PEh hy X e (lift X.K cl W te)) (hdb : (x == ("__debug__" : Str)) = false := by decide) (he : starEach [e] X.env = [(false, eval e X.env)] := by rfl) :
    PEh hy X (.Call (.Name x p) [e] [] pos) (lift X.K cl W (dApp F (dCons te dNil))) := by
  intro pins s σ H Q hs I ⟨as, st, τ, w, e0, p⟩
  refine peh_call (dvs := []) G hr hg hm hk hb .nil hx ha hdb he pins s σ H Q hs I ?_
  exact ⟨as, st, τ, w, e0, p.bind.bind.mono fun d st1 as1 H1 e1 w1 p1 v rv => ⟨as1, st1, [d], w1, .cons rv .nil, p1.here w1⟩⟩
end
section
variable {X : Cx} {cl : Cl} {W : WX}
theorem jeh_repl {ik ib j0 : Nat} {kx bx y : Str} {p1 p2 c0 apos pos : Pos} (hNk : X.N[ik]? = some kx) (hNb : X.N[ib]? = some bx)
    (hvk : Vis X.env.scope kx := by first | exact Or.inl rfl | exact Or.inr (Or.inl rfl) | exact Or.inr (Or.inr rfl)) (hvb : Vis X.env.scope bx := by first | exact Or.inl rfl | exact Or.inr (Or.inl rfl) | exact Or.inr (Or.inr rfl)) (hk : X.env.kindOf bx = some .local := by rfl)
    (hdk : (kx == ("__debug__" : Str)) = false := by decide) (hck : (kx == ("__classdict__" : Str)) = false := by decide) (hdb : (bx == ("__debug__" : Str)) = false := by decide)
    (hst : starEach [.Constant (.str y) j0 c0, .Name bx p2] X.env = [(false, eval (.Constant (.str y) j0 c0) X.env), (false, eval (.Name bx p2) X.env)] := by rfl)
    (hbase : attributeBase (.Name kx p1) "replace" X.env (eval (.Name kx p1) X.env) = eval (.Name kx p1) X.env := by rfl) (hline : (apos.endLine == pos.line) = true := by rfl) :
    PEh (fun s => RawT X bx s) X (.Call (.Attribute (.Name kx p1) "replace" apos) [.Constant (.str y) j0 c0, .Name bx p2] [] pos) (lift X.K cl W (dBMT "str" mReplP (dVar ik) (dCons (dC (.str y)) (dCons (dVar ib) dNil)))) := by
  intro pins s σ H Q hs I ⟨as, st, τ, w, e, p⟩
  refine peh_repl hNk hvk hNb hvb hk hdk hck hdb hst hbase hline pins s σ H Q hs I ?_
  unfold dBMT at p
  have p : Post X.K cl (WE W σ) as H ((dVar ik τ st).bind fun x st => if isT "str" x st = true then ((dVar ib τ st).bind fun d st => R.ok [D.str y, d] st).bind fun ds st => mReplP x ds st else .bad) (QV X.K Q) := by
    refine Eq.mp (congrArg (fun z => Post X.K cl (WE W σ) as H z (QV X.K Q)) ?_) p
    show ((dVar ik τ st).bind _) = ((dVar ik τ st).bind _)
    congr 1
    funext x st
    congr 1
    show (((dVar ib τ st).bind fun d st => (R.ok [] st).bind fun ds st => R.ok (d :: ds) st).bind fun ds st => R.ok (D.str y :: ds) st).bind _ = _
    cases dVar ib τ st <;> rfl
  unfold dVar at p
  split at p
  · rename_i d hd
    obtain ⟨v, h1, h2⟩ := e.get ik d hd
    split at p
    · rename_i d2 hd2
      obtain ⟨v2, h3, h4⟩ := e.get ib d2 hd2
      cases h2 with
      | str a =>
        cases h4 with
        | str c =>
          have p : Post X.K cl (WE W σ) as H (if (y == c) = false ∧ a.length + (a.length + 1) * c.length ≤ 16777216 then .ok (.str (Txt.replace a y c)) st else .bad) (QV X.K Q) := p
          split at p
          · rename_i hc
            exact ⟨a, c, h1, h3, hc.1, hc.2, p.here w _ (.str _)⟩
          · exact p.elim
        | _ => exact absurd (show Post X.K cl (WE W σ) as H (R.bad (α := D)) (QV X.K Q) from p) (fun z => z.elim)
      | _ => exact absurd p (fun z => by
          dsimp only [R.bind] at z
          split at z
          · exact z.elim
          · exact z.elim)
    · dsimp only [R.bind] at p
      split at p <;> exact p.elim
  · exact p.elim
theorem jst_pick {i j0 j1 j2 j3 : Nat} {x y0 y1 y2 y3 : Str} {c0 c1 c2 c3 lp sp p1 ap : Pos} {idx : Expr} {di : DE} {st2 : Stmt} {d2 : DS} (hN : X.N.Nodup) (hi : X.N[i]? = some x) (hx : Loc X.env.scope x) (he : JE X cl W idx di) (h2 : PSh (fun s => RawT X x s) X st2 (liftS X.K cl W d2))
    (hk : X.env.kindOf x = some .local := by rfl) (hf : X.fn x = true ∨ X.env.scope.names.lookup x = some .local := by first | exact .inl rfl | exact .inr rfl | assumption) (hs : PlainIx idx := by intro _ _; rfl)
    (hsw : swapsWith (.Subscript (.List [.Constant (.str y0) j0 c0, .Constant (.str y1) j1 c1, .Constant (.str y2) j2 c2, .Constant (.str y3) j3 c3] lp) idx sp) (some (.Name x p1)) ap.line X.env = pure false := by rfl) :
    JSsT X cl W [.Assign [.Name x p1] (.Subscript (.List [.Constant (.str y0) j0 c0, .Constant (.str y1) j1 c1, .Constant (.str y2) j2 c2, .Constant (.str y3) j3 c3] lp) idx sp) ap, st2]
      (dSeq (dAsg (dBin dIxP (dLst (dCons (dC (.str y0)) (dCons (dC (.str y1)) (dCons (dC (.str y2)) (dCons (dC (.str y3)) (dNil)))))) di) (gN i)) d2) := by
  intro pins s σ H M h0 I h
  refine psst_pick hN hi hk hx hf hs he h2 hsw pins s σ H M h0 I ?_
  intro a o t ha ho
  obtain ⟨as, st, τ, w, e, p⟩ := lift_set (lift_seq h)
  have ev := Evo.new w (o := .frz o (.lst (fourV y0 y1 y2 y3))) ha
  have p : Post X.K cl (WE W σ) as H ((di τ st).bind fun y st => dIxP (.lst [.str y0, .str y1, .str y2, .str y3]) y st) (QV X.K fun v H' => liftS X.K cl W d2 M (σ.set i (some v)) H') := by
    refine Eq.mp (congrArg (fun z => Post X.K cl (WE W σ) as H z _) ?_) p
    unfold dBin dLst
    rw [show (dCons (dC (.str y0)) (dCons (dC (.str y1)) (dCons (dC (.str y2)) (dCons (dC (.str y3)) (dNil))))) τ st = R.ok [.str y0, .str y1, .str y2, .str y3] st from rfl]
    dsimp only [R.bind]
    rw [if_pos (show ([.str y0, .str y1, .str y2, .str y3] : List D).length ≤ sizeLine from (by decide : (4 : Nat) ≤ sizeLine))]
  refine ⟨as, st, τ, w.new ha, e.evo ev, (Post.evo ev p).bind.mono fun y st1 as1 H1 e1 w1 p1 v rv => ?_⟩
  unfold dIxP at p1
  cases rv with
  | int j =>
    dsimp only at p1
    split at p1
    · rename_i hj
      obtain ⟨k, rfl⟩ : ∃ k : Nat, j = k := ⟨j.toNat, by omega⟩
      have p1 : Post X.K cl (WE W σ) as1 H1 (match atI ([.str y0, .str y1, .str y2, .str y3] : List D) (k : Int) with | some d => .ok d st1 | none => .bad) (QV X.K fun v H' => liftS X.K cl W d2 M (σ.set i (some v)) H') := p1
      have hat : atI ([.str y0, .str y1, .str y2, .str y3] : List D) (k : Int) = ([.str y0, .str y1, .str y2, .str y3] : List D)[k]? := by
        unfold atI ixN
        rw [if_pos (by omega)]
        by_cases hk4 : k < 4
        · rw [if_pos (by simp; omega)]
          rfl
        · rw [if_neg (by simp; omega), List.getElem?_eq_none (by simp; omega)]
          rfl
      rw [hat] at p1
      refine ⟨k, ([y0, y1, y2, y3] : List Str)[k]?.getD y0, rfl, hj, ?_, e1.keep a _ upd_same (w.nin ha), ?_⟩
      · rw [Int.toNat_natCast]
        match k, p1 with
        | 0, _ => rfl
        | 1, _ => rfl
        | 2, _ => rfl
        | 3, _ => rfl
        | n + 4, p1 => exact absurd (show Post X.K cl (WE W σ) as1 H1 (R.bad (α := D)) _ from p1) fun z => z.elim
      · match k, p1 with
        | 0, p1 => exact p1.here w1 _ (.str y0)
        | 1, p1 => exact p1.here w1 _ (.str y1)
        | 2, p1 => exact p1.here w1 _ (.str y2)
        | 3, p1 => exact p1.here w1 _ (.str y3)
        | n + 4, p1 => exact absurd (show Post X.K cl (WE W σ) as1 H1 (R.bad (α := D)) _ from p1) fun z => z.elim
    · exact p1.elim
  | _ => exact p1.elim
end
/-! ### in steps -/
theorem wq_ixP {ds : List D} {j : Int} {d : D} {st : Sto} {Q : D → Sto → Prop} {E : Exn → Sto → Prop} (h0 : 0 ≤ j) (h : atI ds j = some d) (q : Q d st) : Wp (dIxP (.lst ds) (.int j) st) Q E := by
  unfold dIxP
  dsimp only
  rw [if_pos h0]
  show Wp (match atI ds j with | some d => .ok d st | none => .bad) Q E
  rw [h]
  exact q
theorem wq_replP {a b c : Str} {st : Sto} {Q : D → Sto → Prop} {E : Exn → Sto → Prop} (h0 : (b == c) = false) (h : a.length + (a.length + 1) * c.length ≤ 16777216) (q : Q (.str (Txt.replace a b c)) st) : Wp (mReplP (.str a) [.str b, .str c] st) Q E := by
  unfold mReplP
  dsimp only
  rw [if_pos ⟨h0, h⟩]
  exact q
end DL

/-! DL19: own exceptions: made by their __init__ and raised. -/
namespace DL
open PySem PySem.Spec PyProof.Rows L2
section
variable {X : Cx} {e : Expr} {es : List Expr} {ta : TA} {x : Str} {p1 p2 pos : Pos} {C0 : Addr}
/-- B.__init__(self, ..), B an own class over ValueError without an __init__ -/
theorem pe_beinit {pl : Sem Bool} (hg : Gl X x) (hm : X.mg x = some (.ref C0)) (hr : PySem.W.readsIn X.K C0 (.type "type") = true) (hsp : PySem.W.specialIn X.K (.ref C0) "__getattribute__" = some (some (.builtin "type.__getattribute__")))
    (vV : PySem.W.findCls X.K (.ref C0) (.type "type") "__init__" = some (.val (.builtin "ValueError.__init__"))) (ha : PA X (e :: es) ta)
    (hc : eval (.Call (.Attribute (.Name x p1) "__init__" p2) (e :: es) [] pos) X.env = (do
      let ov ← eval (.Name x p1) X.env
      standAt p2.atName
      let (f, first) ← holding [ov] (getMethod ov "__init__" pl)
      callWith pos f first (backTo pos (starEach (e :: es) X.env)) (backToKw pos (keywordEach [] X.env))) := by rfl)
    (he : starEach (e :: es) X.env = (false, eval e X.env) :: starEach es X.env := by rfl) (hpl : (backTo pos (starEach es X.env)).any (·.1) = false := by rfl) (hdb : (x == ("__debug__" : Str)) = false := by decide) :
    PE X (.Call (.Attribute (.Name x p1) "__init__" p2) (e :: es) [] pos) (tVeI X.K ta) := by
  refine ⟨fun pins s σ H Q I h => ?_⟩
  refine PySem.W.methodCall_KW (ld_glob I hg hm ?_ hdb) hc
  refine PySem.W.method_cls I.kIn hsp (PySem.W.cls_value I.kIn hr vV (by decide +kernel) ?_)
  show wpAny _ _ (callWith pos (Value.builtin "ValueError.__init__") [] (backTo pos (starEach (e :: es) X.env)) []) _ _ _
  refine PyProof.Rows.callWith_method1 (thn (ha.run pos pins _ σ H _ (I.tok _) h) fun us s1 ⟨vs, H1, I1, r1, a, C, ws, ev, hl, T, ea, q⟩ => ?_) he hpl
  subst ev
  cases r1 with
  | @cons _ u0 _ ur ra rw' =>
    obtain rfl : u0 = Value.ref a := ra
    have hlen : ur.length ≤ sizeLine := by
      rw [← Paired.length rw', sizeLine_eq]
      omega
    exact oinit_ok T I1 ea hlen fun s' J => ⟨.non, H1, J, rfl, q⟩
end
/-- what an __init__ of two fields does to its new exception -/
def spX2 (K : PySem.W.Frag) (f1 f2 : Str) : Sp := fun vs H Q _ => ∃ (a C : Addr) (y1 y2 : V), vs = [.ref a, y1, y2] ∧ OexC K C ∧ PySem.W.findIn K (.ref C) f1 = some none ∧ PySem.W.findIn K (.ref C) f2 = some none ∧ H a = some (exo a C none) ∧
  ∀ dx, H dx = none → dx ≠ a → Q .non (upd (upd (upd H dx (exd dx [(f1, y1)])) a (exo a C (some dx))) dx (exd dx [(f2, y2), (f1, y1)]))
theorem spX2_len {K : PySem.W.Frag} {f1 f2 : Str} {vs : List V} {H : Hp} {Q : VK} {E : XK} (h : spX2 K f1 f2 vs H Q E) : vs.length = 3 := by
  obtain ⟨a, C, y1, y2, rfl, _⟩ := h
  rfl
/-- .. the text of such an __init__ -/
abbrev tX2 (K : PySem.W.Frag) (f1 f2 msg : Str) : TS := tSeq (tDrop (tVeI K (tCons (tVar 0) (tCons (tC (.str msg)) tNil)))) (tSeq (tOst K f1 (tVar 0) (tVar 1)) (tSeq (tOst K f2 (tVar 0) (tVar 2)) tNext))
theorem tX2_ok {K : PySem.W.Frag} {f1 f2 msg : Str} {n0 n1 n2 : Str} {vs : List V} {H : Hp} {Q : VK} {E : XK} (hn : f1 ≠ f2) (h : spX2 K f1 f2 vs H Q E) : tX2 K f1 f2 msg { nx := fun _ H' => Q .non H', rt := Q } (start [n0, n1, n2] vs) H := by
  obtain ⟨a, C, y1, y2, rfl, T, h1, h2, ha, q⟩ := h
  refine ⟨.ref a, rfl, a, C, [.str msg], rfl, (by decide : (1 : Nat) ≤ 1000), T, ha, ?_⟩
  refine ⟨y1, rfl, .ref a, rfl, a, C, rfl, T, h1, .inl ⟨ha, fun dx hd hne => ?_⟩⟩
  refine ⟨y2, rfl, .ref a, rfl, a, C, rfl, T, h2, .inr ⟨dx, [(f1, y1)], upd_same, ?_, (by decide : (1 : Nat) ≤ 900), ?_⟩⟩
  · rw [upd_ne hne, upd_same]
  · exact q dx hd hne
/-! ### C(e, ..), in the room of single frames -/
section
variable {X : Cx} {e : Expr} {es : List Expr} {ta : TA} {p pos : Pos} {C : Addr}
theorem pmk_oexQ {CX : CXT} {x : Str} {fI : Addr} {k : Nat} {fd : FuncData} {ps : List Str} {sp : Sp} {ds : List Value} {dvs : List V} (T : OexC X.K C) (iC : PySem.W.findIn X.K (.ref C) "__init__" = some (some (.ref fI))) (tI : PySem.W.typeIn X.K (.ref fI) = some (.type "function"))
    (F1 : FnQ X.prog X.w X.K X.mg X.base CX k fI fd ps sp) (hr : Rm (k + 1) X.A) (hb : Binds X.K fd ps ds) (hd : Vals dvs ds) (hx : Passes CX X (fun _ _ _ => False)) (hg : Gl X x) (hm : X.mg x = some (.ref C)) (ha : PA X (e :: es) ta)
    (hdb : (x == ("__debug__" : Str)) = false := by decide) (he : starEach (e :: es) X.env = (false, eval e X.env) :: starEach es X.env := by rfl) (hpl : (backTo pos (starEach es X.env)).any (·.1) = false := by rfl) :
    PMk X (.Call (.Name x p) (e :: es) [] pos) (tMkO C sp dvs ta) := by
  intro pins s σ H Q I h
  obtain ⟨nm, q, N, bs, bm, sn, sub, ab, col, dd, k0, k1, k2, k3, k5, hC, hbm⟩ := T.cls
  refine wpAny_Call_Name_kw (ld_glob I hg hm ?_ hdb)
  refine PySem.W.callWith_K (h₀ := X.base) I.ok.mod.kin T.kC (thn (ha.run pos pins s σ H _ I h) fun us s1 ⟨vs, H1, I1, r1, hz, q1⟩ => ⟨I1.kIn, ?_⟩) he hpl
  show wpAny _ _ (call (.ref C) us) _ _ _
  obtain ⟨hp, g, dr, tk, os⟩ := s1
  have hsz : hp.objs.size ≤ hp.objs.size + 1 := Nat.le_succ _
  have hn : H1 (hp.objs.size + 1) = none := I1.hok.fresh hsz
  have hq := q1 (hp.objs.size + 1) hn
  have kk : ∀ b o, hp.get? b = some o → ((hp.push (PySem.W.kdv_tup us)).push (PySem.HandSPX.excO C hp.objs.size)).get? b = some o := fun b o e => Heap.get?_push_of_some _ (Heap.get?_push_of_some _ e)
  have hget : ((hp.push (PySem.W.kdv_tup us)).push (PySem.HandSPX.excO C hp.objs.size)).get? (hp.objs.size + 1) = some (PySem.HandSPX.excO C hp.objs.size) := by heap_get
  have I2 : Inv X pins σ (upd H1 (hp.objs.size + 1) (exo (hp.objs.size + 1) C none)) ⟨(hp.push (PySem.W.kdv_tup us)).push (PySem.HandSPX.excO C hp.objs.size), g, dr, tk, os⟩ :=
    I1.laid (t' := tk) (a := hp.objs.size + 1) (o := exo (hp.objs.size + 1) C none) (h' := (hp.push (PySem.W.kdv_tup us)).push (PySem.HandSPX.excO C hp.objs.size)) kk hsz (exo_ok hget)
  have r2 : Vals (V.ref (hp.objs.size + 1) :: (vs ++ dvs)) (Value.ref (hp.objs.size + 1) :: (us ++ ds)) := .cons rfl (r1.append hd)
  have hl : (Value.ref (hp.objs.size + 1) :: us ++ ds).length = ps.length := by
    have e := r2.length
    rw [F1.len _ _ _ _ hq] at e
    exact e.symm
  have hus : us.length ≤ sizeLine := by
    rw [← Paired.length r1, sizeLine_eq]
    omega
  refine wpAny_call (PySem.HandSPX.call_own PySem.F.excBase_ValueError (fun Y => PySem.HandSPX.refsVE_contains Y bm hbm) (I1.kIn _ _ hC) (PySem.W.looks_findIn I1.kIn iC) (fun self => PySem.W.bind_fn I1.kIn self tI) hus
    (codeAny_mono (F1.run _ X.stack _ _ ⟨Value.ref (hp.objs.size + 1) :: us, []⟩ (Value.ref (hp.objs.size + 1) :: (us ++ ds)) _ _ (fun _ _ _ => False) (hr.make C us []) (I2.env0.make C us []) (hb _ (Value.ref (hp.objs.size + 1) :: us) I2.kIn hl) r2 hq) fun r s' hq' => ?_))
  cases r with
  | error er => exact hx pins σ _ _ er s' I2 hq'
  | ok fl =>
    cases fl with
    | ret u =>
      obtain ⟨v, H2, os2, bare2, un2, hok2, rv, ev, d, fs, ea, ed, hd1, q2⟩ := hq'
      subst ev
      obtain ⟨h2, g2, d2, t2, os'⟩ := s'
      exact ⟨rv, mk_end (raises_own T.exC T.tyC) I1 hsz kk un2 hok2 os2 bare2 ea ed hd1 q2⟩
    | next => exact False.elim hq'
    | brk => exact False.elim hq'
    | cont => exact False.elim hq'
end
/-- facts of an exception class of two fields -/
structure XC2 (K : PySem.W.Frag) (mg : Str → Option Value) (C : Addr) (fI : Addr) (f1 f2 : Str) : Prop where
  oex : OexC K C
  ini : PySem.W.findIn K (.ref C) "__init__" = some (some (.ref fI))
  tI : PySem.W.typeIn K (.ref fI) = some (.type "function")
  n1 : PySem.W.findIn K (.ref C) f1 = some none
  n2 : PySem.W.findIn K (.ref C) f2 = some none
/-- raise C(e1, e2) -/
def dRaise2 (c f1 f2 : Str) (t : DA) : DS := fun τ st => (t τ st).stm τ fun ds st => match ds with
  | [d1, d2] => .ok (.ex ⟨c, [(f2, d2), (f1, d1)]⟩, τ) st
  | _ => .bad
theorem passes_no {P : Program} {w : World} {X : Cx} : Passes (L2.CX P w) X (fun _ _ _ => False) := fun _ _ _ _ _ _ _ h => by
  obtain ⟨_, _, _, _, _, _, _, _, _, _, _, _, z⟩ := h
  exact z.elim
section
variable {X : Cx} {cl : Cl} {W : WX} {e : Expr} {es : List Expr} {t : DA} {p pos pos2 : Pos}
theorem js_raise2 {c x f1 f2 : Str} {fI : Addr} {k : Nat} {fd : FuncData} {ps : List Str} (hc : X.calm = true) (tk : Takes X W) (T : XC2 X.K X.mg (cl c) fI f1 f2) (hm : X.mg x = some (.ref (cl c))) (F1 : FnQ X.prog X.w X.K X.mg X.base (L2.CX X.prog X.w) k fI fd ps (spX2 X.K f1 f2)) (hr : Rm (k + 1) X.A) (hb : Binds X.K fd ps [])
    (hg : Gl X x) (ha : JA X cl W (e :: es) t)
    (hdb : (x == ("__debug__" : Str)) = false := by decide) (he : starEach (e :: es) X.env = (false, eval e X.env) :: starEach es X.env := by rfl) (hpl : (backTo pos (starEach es X.env)).any (·.1) = false := by rfl) :
    JS X cl W (.Raise (some (.Call (.Name x p) (e :: es) [] pos)) none pos2) (dRaise2 c f1 f2 t) := by
  refine PS.mono (ps_raise hc tk (pmk_oexQ (dvs := []) (ds := []) T.oex T.ini T.tI F1 hr hb .nil passes_no hg hm ha hdb he hpl)) fun M σ H ⟨as, st, τ, w, e, p⟩ => ?_
  refine ⟨as, st, τ, w, e, (Post.stm e p).mono fun ds st1 as1 H1 e1 w1 p1 vs rv => ?_⟩
  cases rv with
  | nil => exact p1.elim
  | @cons d1 v1 _ _ r1 rv =>
    cases rv with
    | nil => exact p1.elim
    | @cons d2 v2 _ _ r2 rv =>
      cases rv with
      | cons _ _ => exact p1.elim
      | nil =>
        refine ⟨(by decide : (2 : Nat) ≤ 1000), fun a ha => ⟨a, cl c, v1, v2, rfl, T.oex, T.n1, T.n2, upd_same, fun dx hd hne => ⟨rfl, dx, [(f2, v2), (f1, v1)], ?_, upd_same, ?_, ?_⟩⟩⟩
        · rw [upd_ne (Ne.symm hne), upd_same]
        · rw [upd_ne hne] at hd; exact hd
        · have hd1 : H1 dx = none := by rw [upd_ne hne] at hd; exact hd
          have eh : upd (del (upd (upd (upd (upd H1 a (exo a (cl c) none)) dx (exd dx [(f1, v1)])) a (exo a (cl c) (some dx))) dx (exd dx [(f2, v2), (f1, v1)])) a) dx (.xd [(f2, v2), (f1, v1)]) = upd H1 dx (.xd [(f2, v2), (f1, v1)]) := by
            funext b
            by_cases hb : b = dx
            · rw [hb, upd_same, upd_same]
            · rw [upd_ne hb, upd_ne hb]
              by_cases hba : b = a
              · rw [hba, del_same, ha]
              · rw [del_ne hba, upd_ne hb, upd_ne hba, upd_ne hb, upd_ne hba]
          rw [eh]
          have ev := Evo.new w1 (o := .xd [(f2, v2), (f1, v1)]) hd1
          exact p1 as1 _ ev (w1.new hd1) σ _ _ ((e.evo e1).evo ev) ⟨rfl, .inr ⟨dx, _, rfl, w1.nin hd1, upd_same, .cons (r2.evo ev) (.cons (r1.evo ev) .nil)⟩⟩
end
end DL

/-! DL20: try with several clauses `except C as e`. -/
namespace DL
open PySem PySem.Spec PyProof.Rows L2
abbrev HTS := Addr → Value → Option Addr → TS
/-- the ends of a suite whose name goes -/
abbrev goneE (i : Nat) (D : Ends) : Ends := { nx := fun σ' H' => D.nx (σ'.set i none) H', rt := D.rt, bk := fun σ' H' => D.bk (σ'.set i none) H', ct := fun σ' H' => D.ct (σ'.set i none) H' }
/-- what the clauses wish of an exception of the body, one after the other -/
def wAses (K : PySem.W.Frag) (Wout : WX) (D : Ends) : List (Value × Nat × HTS) → WX
  | [] => Wout
  | (c, i, ts) :: r => fun cls d σ H => ∃ b, PySem.W.exmOne K cls c = some b ∧ (b = true → ∀ a, H a = none → ts a cls d (goneE i D) (σ.set i (some (.ref a))) H) ∧ (b = false → wAses K Wout D r cls d σ H)
inductive HdsAs (X : Cx) : List ExceptHandler → List (Value × Nat × HTS) → Prop
  | nil : HdsAs X [] []
  | cons {x n : Str} {i : Nat} {c : Value} {ts : HTS} {b₀ : Stmt} {suite : List Stmt} {np pos' : Pos} {hds : List ExceptHandler} {l : List (Value × Nat × HTS)} (hc : Names X x c) (hi : X.N[i]? = some n) (hln : X.env.kindOf n = some .local)
      (hsu : ∀ (a : Addr) (oe : Obj) (cls : Value) (d : Option Addr) (pn : List (Addr × Obj)), Zc cls d oe → (∃ vs, oe.data = .fields vs) → PSs (X.suite a ((a, oe) :: pn)) (b₀ :: suite) (ts a cls d)) (r : HdsAs X hds l) :
      HdsAs X (.ExceptHandler (some (.Name x np)) (some n) (b₀ :: suite) pos' :: hds) ((c, i, ts) :: l)
section
variable {X : Cx} {body : List Stmt} {h₀ : ExceptHandler} {hds : List ExceptHandler} {l : List (Value × Nat × HTS)} {pos : Pos} {tb : WX → TS} {Wout : WX}
theorem ps_try_ases (hs : X.stack = X.env :: X.outer) (hf : X.env.frame = some X.env.locals) (hN : X.N.Nodup) (tk : Takes X Wout)
    (hb : ∀ (W : WX) (pn : List (Addr × Obj)) (xe : Value → Shared → Prop), Takes (X.tr pn xe) W → PassesOwn (model X.prog X.w) X.A X.env xe → PSs (X.tr pn xe) body (tb W))
    (hh : HdsAs X (h₀ :: hds) l) : PS X (.Try body (h₀ :: hds) [] [] pos) (fun D σ H => tb (wAses X.K Wout D l) D σ H) := by
  refine ⟨fun pins s σ H D I h => ?_⟩
  have ok := I.ok
  have hfr : X.A.frames = some (X.env :: X.outer) := by rw [ok.frames, hs]
  refine wpAny_Try_except ?_
  refine wpAny_mono ((hb (wAses X.K Wout D l) (X.pn ++ pins) (fun e s₁ => wpAny (model X.prog X.w) X.A (noteFrame e X.env) (fun _ s₂ => wpAny (model X.prog X.w) X.A (setFlight e none) (fun _ s₃ =>
    wpAny (model X.prog X.w) X.A (handleBy e X.env (h₀ :: hds)) (SP X pins D) X.xe s₃) X.xe s₂) X.xe s₁) (fun u s' xx => ?_) PassesOwn.looking).run [] s σ H D (I.toTry _) h) (fun f s1 hsp => ?_) (fun e s1 he => he)
  · -- the catch
    obtain ⟨a, B, sI, pins', σ', H', cls, d, rfl, J', nb, up, sky, na, os, ag, w⟩ := xx
    have J : Inv X pins σ' H' sI := J'.ofTry ok
    have sky' : L2.Sky B (X.env :: X.outer) a (Zc cls d) X.env.locals s'.heap := by rw [← hs]; exact sky
    show wpAny (model X.prog X.w) X.A (noteFrame (.ref a) X.env) _ _ _
    refine L2.Sky.land Zc.steady hfr hf sky' fun h3 fl3 up3 => ?_
    have J3 : Inv X pins σ' H' { s' with heap := h3 } := J.landed nb fl3.1 (up.trans up3) os ag
    obtain ⟨oe3, vs3, he3, hz3, hd3⟩ := fl3.there
    have notFr : ∀ {h : Heap} {o : Obj} {vs : Array Value}, h.FunFrames B (X.env :: X.outer) → h.get? a = some o → o.data = .fields vs → a ∉ frs (X.env :: X.outer) := fun {h o vs} ff e dd hm => by
      obtain ⟨_, o', e', hnf⟩ := ff.mem hm
      rw [e] at e'; cases e'
      exact hnf _ dd
    have nfr := notFr fl3.2.2.1 he3 hd3
    have nL : a ≠ X.env.locals := fun z => nfr (List.mem_filterMap.mpr ⟨X.env, List.mem_cons_self, by rw [hf, z]⟩)
    have nF : a ∉ X.fs := fun hm => by
      obtain ⟨e, he, q⟩ := List.mem_filterMap.mp hm
      exact nfr (List.mem_filterMap.mpr ⟨e, List.mem_cons_of_mem _ he, q⟩)
    have S3 := J3.suite he3 hd3 na nL nF
    have LT : PySem.W.Looks (model X.prog X.w) h3 (typeOf (.ref a)) cls := fun A Q E s k q => wpAny_typeOf_ref (k _ _ he3) (by rw [hz3.1]; exact q)
    generalize hgen : (h₀ :: hds) = hl at hh
    clear hgen h hb
    induction hh with
    | nil =>
      have w : Wout cls d σ' H' := w
      refine wpAny_handleBy_nil ?_
      obtain ⟨k1, k2, k3, oe, vs, T, oT, ts', he, hz, hd, h1, hr⟩ := id fl3
      unfold PySem.passOn
      refine wpAny_bind (wpAny_field he hd h1 ?_)
      rw [if_neg (show ¬ ((Value.ref T == Value.none) = true) from by simp)]
      have fin : wpAny (model X.prog X.w) X.A (setFlight (.ref a) X.env.frame) (fun _ s4 => wpAny (model X.prog X.w) X.A (throw (.ref a) : Sem Flow) (SP X pins D) X.xe s4) X.xe { s' with heap := h3 } := by
        rw [hf]
        refine PySem.HandSPX.setFlight_upZ fl3 fun h4 hh4 up4 => wpAny_throw (tk _ _ ?_)
        exact ⟨a, B, sI, pins, σ', H', cls, d, rfl, J, nb, (up.trans up3).trans up4, .inr (.inr (by rw [hs]; exact hh4)), na, os, ag, w⟩
      first
        | exact wpAny_bind (wpAny_pure (wpAny_bind fin))
        | exact wpAny_bind fin
    | @cons x n i c ts b₀ suite np pos' hds l hc hi hln hsu r ih =>
      obtain ⟨b, hb1, hyes, hno⟩ := w
      have hloc : Loc X.env.scope n := .inl hln
      refine wpAny_handleBy_cons (codeAny_handlers_test ?_) (by intro q; cases q)
      have LM := PySem.W.exm_one (M := model X.prog X.w) (J3.kIn) LT hb1
      have test : ∀ {Q : Value → Shared → Prop} {E : Value → Shared → Prop}, Q c { s' with heap := h3 } → wpAny (model X.prog X.w) (X.A.mark (some (.ref a))) (eval (.Name x np) X.env) Q E { s' with heap := h3 } := fun {Q E} q => by
        obtain ⟨hg, hdbg, hm | ⟨hm, hv, hnn⟩⟩ := hc
        · exact ld_glob (X := X.suite a ((a, oe3) :: (X.pn ++ pins))) S3 hg hm q hdbg
        · exact ld_blt (X := X.suite a ((a, oe3) :: (X.pn ++ pins))) S3 hg hm hv q hnn hdbg
      refine test (LM.here ?_)
      cases b with
      | true =>
        refine codeAny_handlers_suite_as ?_
        refine PySem.HandSPX.lands_againZ fl3 fun h4 fl4 up4 => ?_
        have J4 : Inv X pins σ' H' { s' with heap := h4 } := J.landed nb fl4.1 ((up.trans up3).trans up4) os ag
        obtain ⟨oe4, vs4, he4, hz4, hd4⟩ := fl4.there
        have S4 := J4.suite he4 hd4 na nL nF
        refine store_ok (X := X.suite a ((a, oe4) :: (X.pn ++ pins))) (v := .ref a) S4 hN hi hloc rfl (fun s5 S5 => ?_) (.inr hln)
        refine wpAny_mono ((hsu a oe4 cls d (X.pn ++ pins) hz4 ⟨_, hd4⟩).run [] s5 _ H' _ S5 (hyes rfl a na)) (fun f s6 hsp => ?_) (fun _ _ z => False.elim z)
        have end_ : ∀ {σ6 : L2.St} {H6 : Hp} {Q : Shared → Prop}, Inv (X.suite a ((a, oe4) :: (X.pn ++ pins))) [] σ6 H6 s6 → (∀ s7, Inv X pins (σ6.set i none) H6 s7 → Q s7) →
            wpAny (model X.prog X.w) X.A (do bindName X.env n .none; unbindBehindTheSuite X.env n pos') (fun _ s7 => Q s7) X.xe s6 := fun {σ6 H6 Q} S6 hq => gone_ok (S6.unsuite ok) hN hi hln hq
        cases f with
        | next =>
          obtain ⟨σ6, H6, S6, q6⟩ := hsp
          exact end_ S6 fun s7 J7 => ⟨_, _, J7, q6⟩
        | brk =>
          obtain ⟨σ6, H6, S6, q6⟩ := hsp
          exact end_ S6 fun s7 J7 => ⟨_, _, J7, q6⟩
        | cont =>
          obtain ⟨σ6, H6, S6, q6⟩ := hsp
          exact end_ S6 fun s7 J7 => ⟨_, _, J7, q6⟩
        | ret u =>
          obtain ⟨v6, σ6, H6, S6, r6, q6⟩ := hsp
          exact end_ S6 fun s7 J7 => ⟨_, _, _, J7, r6, q6⟩
      | false => exact ih (hno rfl)
  · cases f with
    | next =>
      obtain ⟨σ', H', J', q⟩ := hsp
      exact wpAny_execs_nil ⟨σ', H', J'.ofTry ok, q⟩
    | brk =>
      obtain ⟨σ', H', J', q⟩ := hsp
      exact ⟨σ', H', J'.ofTry ok, q⟩
    | cont =>
      obtain ⟨σ', H', J', q⟩ := hsp
      exact ⟨σ', H', J'.ofTry ok, q⟩
    | ret u =>
      obtain ⟨v, σ', H', J', r, q⟩ := hsp
      exact ⟨v, σ', H', J'.ofTry ok, r, q⟩
end
end DL

/-! DL21: what an except suite tells of its exception; try: .. except C as e: return (..). -/
namespace PySem.W
open PySem PySem.Spec PySem.Calls PyProof.Rows
section
variable {prog : Program} {w : World} {A : Around} {E : Value → Shared → Prop} {s : Shared} {K : Frag} {x D : Addr} {ox : Obj} {od : Option Obj}
theorem dl_findObj {C : Addr} {name : Str} {a g : Value} (hc : (clsIn K C).isSome = true) (ha : findIn K (.ref C) name = some (some a)) (hg : specialIn K a "__get__" = some (some g)) (ht : takesIn K a = some true) : findObj K C od name = some (.bind g a) := by
  obtain ⟨cd, hc⟩ := Option.isSome_iff_exists.mp hc
  unfold findObj
  rw [hc, Option.bind_some, ha, Option.bind_some]
  simp [hg, ht]
theorem dl_kin {Q : Option Value → Shared → Prop} (hga : findIn K (.ref D) "__getattribute__" = some (some (.builtin "BaseException.__getattribute__"))) (hgt : findIn K (.ref D) "__getattr__" = some none) (hsub : subIn K (.ref D) (.type "BaseException") = some true)
    (hdct : hasDictIn K D = true) (ha : findIn K (.ref D) "__class__" = some (some (.builtin "object.__class__")))
    (hn : specialIn K (.builtin "object.__class__") "__get__" = some (some (.builtin "getset_descriptor.__get__"))) (htk : takesIn K (.builtin "object.__class__") = some true) (hm : mroIn K D (.type "object") = some true)
    (X : K.In s.heap) (I : InstAt s.heap x ox D od) (h : Q (some (.ref D)) { s with toks := s.toks + 1 }) : wpAny (model prog w) A (getAttr? (.ref x) "__class__") Q E s := by
  have hf : findObj K D od "__class__" = some (.bind (.builtin "getset_descriptor.__get__") (.builtin "object.__class__")) := dl_findObj (by obtain ⟨cd, hc, _⟩ := any_some hdct; rw [hc]; rfl) ha hn htk
  obtain ⟨hp, g, d, t, os⟩ := s
  have L0 := I.type (M := model prog w)
  have L1 := looks_findIn (M := model prog w) X hga
  have L2 := looks_findIn (M := model prog w) X hgt
  have L3 := looks_find (M := model prog w) X I hf
  have sub : Looks (model prog w) hp (isInstance (.ref x) (.type "BaseException")) true := L0.andThen (looks_subIn X hsub)
  have hx0 : (false && onTheHeap (Value.builtin "BaseException.__getattribute__")) = false := rfl
  have hx2 : (Value.builtin "BaseException.__getattribute__" == Value.builtin "object.__getattribute__") = false := by decide +kernel
  have hx1 : (onTheHeap (Value.ref D) && Value.builtin "BaseException.__getattribute__" == Value.builtin "object.__getattribute__") = false := by rw [hx2]; rfl
  unfold getAttr? getAttrBy? getAttrBy
  refine wpAny_bind (wpAny_mkText (wpAny_bind (wpAny_attempt (wpAny_holding (wpAny_bind (L0.at (wpAny_bind (L1.at ?_))))))))
  show wpAny _ _ (if (onTheHeap (Value.ref D) && Value.builtin "BaseException.__getattribute__" == Value.builtin "object.__getattribute__") = true then _ else _) _ _ _
  rw [hx1, if_neg Bool.false_ne_true]
  unfold getAttrByItsOwn hookBefore
  refine wpAny_bind ?_
  rw [if_pos (show onTheHeap (Value.ref D) = true from rfl)]
  refine L2.at ?_
  refine wpAny_bind (wpAny_attempt (wpAny_holding ?_))
  unfold callGetattribute
  rw [hx0, if_neg Bool.false_ne_true]
  unfold boundAndCalled
  rw [PySem.F.excAttr_ValueError.ga.bind (.ref x)]
  refine wpAny_bind (wpAny_pure ?_)
  show wpAny _ _ (call (.builtin "BaseException.__getattribute__") [.ref x, .str "__class__" t]) _ _ _
  refine wpAny_call (codeAny_call_builtin PySem.F.excAttr_ValueError.ga.plain PySem.F.entry_bexc_ga ?_)
  refine @check_slot (model prog w) _ _ ⟨hp, g, d, t + 1, os⟩ "BaseException.__getattribute__" "BaseException" "__getattribute__" (.ref x) [.str "__class__" t] [] _ (by decide +kernel) (by decide +kernel) sub (PySem.F.args_bexc_ga (.ref x) (.str "__class__" t)) ?_
  unfold Builtin.«object.__getattribute__»
  refine wpAny_bind (wpAny_of_eq (a := ((Value.ref x : Value), [Value.str "__class__" t])) (by first | rfl | (simp only [slotArgs]; rfl)) ?_)
  refine wpAny_bind (wpAny_pure (wpAny_bind (L0.at (wpAny_bind (L3.at ?_)))))
  show wpAny _ _ (holding [Value.builtin "object.__class__"] (call (.builtin "getset_descriptor.__get__") [.builtin "object.__class__", .ref x, .ref D]) >>= ret) _ _ _
  refine wpAny_bind (wpAny_holding (wpAny_call (class_get (s := ⟨hp, g, d, t + 1, os⟩) (ox := ox) (od := od) X I hm ?_)))
  refine wpAny_pure ?_
  show wpAny _ _ (handedOut (.ref D)) _ _ _
  rw [handedOut_of (v := .ref D) rfl]
  first
    | exact wpAny_pure (wpAny_pure h)
    | exact wpAny_pure h
    | exact wpAny_pure (wpAny_bind (wpAny_pure (wpAny_pure h)))
theorem dl_kitx (hga : findIn K (.ref D) "__getattribute__" = some (some (.builtin "BaseException.__getattribute__"))) (hgt : findIn K (.ref D) "__getattr__" = some none) (hsub : subIn K (.ref D) (.type "BaseException") = some true) (hdct : hasDictIn K D = true) (ha : findIn K (.ref D) "__class__" = some (some (.builtin "object.__class__")))
    (hn : specialIn K (.builtin "object.__class__") "__get__" = some (some (.builtin "getset_descriptor.__get__"))) (htk : takesIn K (.builtin "object.__class__") = some true) (hm : mroIn K D (.type "object") = some true) :
    KitX K (.ref x) (.ref D) (fun h => InstAt h x ox D od) where
  ty := fun _ _ _ I => I.type
  it := fun _ _ X _ => by
    obtain ⟨cdD, hcD, _⟩ := any_some hdct
    unfold clsIn at hcD
    split at hcD
    · rename_i c' d' cd' sl' ho
      intro A' Q' E' s' k q
      unfold isType loadHead
      exact wpAny_bind (wpAny_loadPart (k _ _ (X _ _ ho)) (wpAny_pure q))
    · cases hcD
  ne := fun h tp dd its n sl X htp => by
    obtain ⟨cdD, hcD, _⟩ := any_some hdct
    refine Bool.eq_false_iff.mpr fun q => ?_
    have e : D = tp := Value.ref.inj (beq_iff_eq.mp q)
    subst e
    unfold clsIn at hcD
    split at hcD
    · rename_i c' d' cd' sl' ho
      have z := (X _ _ ho).symm.trans htp
      cases z
    · cases hcD
  ca := fun X I k => dl_kin hga hgt hsub hdct ha hn htk hm X I k
theorem dl_kitOne {C : Addr} {b : Bool} (hs : subIn K (.ref D) (.ref D) = some true) (h : subIn K (.ref D) (.ref C) = some b) (hdct : hasDictIn K C = true) (ht : typeIn K (.ref C) = some (.type "type")) : kitOne K (.ref D) (.ref C) = some b := by
  unfold kitOne
  split
  · rename_i e
    have e : D = C := Value.ref.inj (beq_iff_eq.mp e)
    subst e
    rw [hs] at h
    exact h
  · unfold kitCls
    obtain ⟨cd, hc, _⟩ := any_some hdct
    have e2 : ((clsIn K C).isSome && typeIn K (.ref C) == some (.type "type")) = true := by rw [hc, ht] <;> rfl
    dsimp only
    rw [if_pos e2]
    exact h
end
end PySem.W
namespace DL
open PySem PySem.Spec PyProof.Rows L2
/-- facts of a family of own exception classes -/
structure XTab (K : PySem.W.Frag) (cl : Cl) (known : List Str) (sub : Str → Str → Bool) (fs : List Str) : Prop where
  exc : ∀ c ∈ known, ExcC K (cl c)
  ty : ∀ c ∈ known, PySem.W.typeIn K (.ref (cl c)) = some (.type "type")
  sb : ∀ c ∈ known, ∀ c' ∈ known, PySem.W.subIn K (.ref (cl c)) (.ref (cl c')) = some (sub c c')
  rf : ∀ c ∈ known, sub c c = true
  nf : ∀ c ∈ known, ∀ f ∈ fs, PySem.W.findIn K (.ref (cl c)) f = some none
section
variable {K : PySem.W.Frag} {cl : Cl} {known : List Str} {sub : Str → Str → Bool} {fs : List Str}
theorem XTab.exm (T : XTab K cl known sub fs) {c c' : Str} (h : c ∈ known) (h' : c' ∈ known) : PySem.W.exmOne K (.ref (cl c)) (.ref (cl c')) = some (sub c c') :=
  PySem.W.exm_ref (T.exc c' h').hs (T.exc c' h').hd (T.ty c' h') (T.sb c h c' h')
theorem XTab.kit (T : XTab K cl known sub fs) {c c' : Str} (h : c ∈ known) (h' : c' ∈ known) : PySem.W.kitOne K (.ref (cl c)) (.ref (cl c')) = some (sub c c') :=
  PySem.W.dl_kitOne (by rw [T.sb c h c h, T.rf c h]) (T.sb c h c' h') (T.exc c' h').hd (T.ty c' h')
end
/-- a part of what a suite gives back -/
inductive XP
  | s (y : Str)
  | f (y : Str)
  | i (c : Str)
  | i2 (c c' : Str)
  | a (p q : XP)
def XP.val (sub : Str → Str → Bool) (x : Exn) : XP → Option D
  | .s y => some (.str y)
  | .f y => x.fs.lookup y
  | .i c => if x.fs = [] then none else some (.bl (sub x.cls c))
  | .i2 c c' => if x.fs = [] then none else some (.bl (sub x.cls c || sub x.cls c'))
  | .a p q => match p.val sub x with
    | some (.bl true) => q.val sub x
    | some (.bl false) => some (.bl false)
    | _ => none
/-- the reading of a part, in the suite that holds x at a -/
def tXP (K : PySem.W.Frag) (cl : Cl) (known : List Str) (sub : Str → Str → Bool) (i : Nat) (p : XP) (a : Addr) (cls : Value) (d : Option Addr) : TE := fun σ H Q =>
  σ[i]? = some (some (.ref a)) ∧ ∃ as st x dv, Wd K cl as st H ∧ RepX K cl as H x cls d ∧ x.cls ∈ known ∧ p.val sub x = some dv ∧ ∀ as' H', Evo as H as' H' → Wd K cl as' st H' → ∀ v, Rep K as' H' dv v → Q v H'
def XPs.val (sub : Str → Str → Bool) (x : Exn) : List XP → Option (List D)
  | [] => some []
  | p :: ps => match p.val sub x, XPs.val sub x ps with
    | some d, some ds => some (d :: ds)
    | _, _ => none
def tXPs (K : PySem.W.Frag) (cl : Cl) (known : List Str) (sub : Str → Str → Bool) (i : Nat) (ps : List XP) (a : Addr) (cls : Value) (d : Option Addr) : TA := fun σ H Q =>
  σ[i]? = some (some (.ref a)) ∧ ∃ as st x dvs, Wd K cl as st H ∧ RepX K cl as H x cls d ∧ x.cls ∈ known ∧ XPs.val sub x ps = some dvs ∧ ∀ as' H', Evo as H as' H' → Wd K cl as' st H' → ∀ vs, Reps K as' H' dvs vs → Q vs H'
theorem RepX.cls_eq {K : PySem.W.Frag} {cl : Cl} {as : Mp} {H : Hp} {x : Exn} {u : Value} {d : Option Addr} (r : RepX K cl as H x u d) : u = .ref (cl x.cls) := r.1
theorem RepX.dict {K : PySem.W.Frag} {cl : Cl} {as : Mp} {H : Hp} {x : Exn} {u : Value} {d : Option Addr} (r : RepX K cl as H x u d) (h : x.fs ≠ []) : ∃ dd fx, d = some dd ∧ H dd = some (.xd fx) ∧ RepF K as H x.fs fx := by
  rcases r.2 with ⟨e, _⟩ | ⟨dd, fx, h1, _, h2, h3⟩
  · exact absurd e h
  · exact ⟨dd, fx, h1, h2, h3⟩
theorem RepF.look {K : PySem.W.Frag} {as : Mp} {H : Hp} {f : Str} {d : D} {ds : List (Str × D)} {vs : List (Str × V)} (r : RepF K as H ds vs) (h : ds.lookup f = some d) : ∃ v, vs.lookup f = some v ∧ Rep K as H d v := by
  induction r with
  | nil => cases h
  | @cons k dd v ds vs r1 r2 ih =>
    rw [lookup_put]
    by_cases e : f = k
    · subst e
      simp only [List.lookup_cons, beq_self_eq_true, Option.some.injEq] at h
      subst h
      rw [if_pos rfl]
      exact ⟨v, rfl, r1⟩
    · have hb : (f == k) = false := by simpa using e
      simp only [List.lookup_cons, hb] at h
      rw [if_neg e]
      exact ih h
/-! ### the parts' rules -/
section
variable {X : Cx} {cl : Cl} {known fs : List Str} {sub : Str → Str → Bool} {i : Nat} {a : Addr} {oe : Obj} {cls : Value} {d : Option Addr} {pn : List (Addr × Obj)} {n : Str} {p1 p2 pos : Pos}
theorem inst_of {pins : List (Addr × Obj)} {σ : L2.St} {H : Hp} {s : Shared} {D dd : Addr} {fx : List (Str × V)} (hz : Zc (.ref D) (some dd) oe) (hf : ∃ vs, oe.data = .fields vs) (I : Inv (X.suite a ((a, oe) :: pn)) pins σ H s) (ea : H dd = some (.xd fx)) :
    ∃ (od : Obj) (mA : Str → Option Value), PySem.W.InstAt s.heap a oe D (some od) ∧ (∀ f, PySem.W.lookIn f od = some (mA f)) ∧ ∀ f, RelO (fx.lookup f) (mA f) := by
  obtain ⟨ha, _⟩ := I.pin (a, oe) (List.mem_append_left _ List.mem_cons_self)
  obtain ⟨vs, hd⟩ := hf
  have hx : ObjOk X.prog X.w H s.heap dd (.xd fx) := I.hok dd _ ea
  obtain ⟨mA, hns, hr⟩ := hx
  obtain ⟨od, ho, hl⟩ := lookIn_ns hns
  exact ⟨od, mA, ⟨ha, hz.1, by unfold PySem.W.notCls; rw [hd] <;> rfl, by rw [hz.2]; exact ho⟩, hl, hr⟩
theorem xp_s {y : Str} {j : Nat} {c0 : Pos} : PE (X.suite a ((a, oe) :: pn)) (.Constant (.str y) j c0) (tXP X.K cl known sub i (.s y) a cls d) :=
  PE.mono pe_str fun σ H Q ⟨_, as, st, x, dv, w, rx, hk, hv, q⟩ => by
    cases hv
    exact q as H .refl w _ (.str _)
theorem xp_f (T : XTab X.K cl known sub fs) {f : Str} (hf : f ∈ fs) (hz : Zc cls d oe) (hfl : ∃ vs, oe.data = .fields vs) (hn : PE (X.suite a ((a, oe) :: pn)) (.Name n p1) (tVar i)) (hb : attributeBase (.Name n p1) f X.env (eval (.Name n p1) X.env) = eval (.Name n p1) X.env := by rfl) :
    PE (X.suite a ((a, oe) :: pn)) (.Attribute (.Name n p1) f pos) (tXP X.K cl known sub i (.f f) a cls d) := by
  refine ⟨fun pins s σ H Q I ⟨hσ, as, st, x, dv, w, rx, hk, hv, q⟩ => ?_⟩
  refine attr_of hb (thn (hn.run pins s σ H (fun v H1 => v = .ref a ∧ H1 = H) I ⟨.ref a, hσ, rfl, rfl⟩) fun u s1 hh => ?_)
  obtain ⟨y, H1, I1, ry, rfl, rfl⟩ := hh
  obtain rfl : u = Value.ref a := ry
  have hv : x.fs.lookup f = some dv := hv
  obtain ⟨dd, fx, rfl, e2, r⟩ := rx.dict (fun z => by rw [z] at hv; cases hv)
  obtain ⟨v, hv2, rv⟩ := r.look hv
  have ec := rx.cls_eq
  subst ec
  obtain ⟨od, mA, J, hl, hr⟩ := inst_of hz hfl I1 e2
  obtain ⟨u, hu, ru⟩ := RelO.some_of (v := v) (o := mA f) (by rw [← hv2]; exact hr f)
  have E := T.exc _ hk
  exact PySem.HandSPX.exc_get I1.kIn J E.hg E.hk E.hs (PySem.W.findObj_own E.hd (T.nf _ hk f hf) rfl (by rw [hl, hu])) (handed_of ru) ⟨v, _, I1.tok _, ru, q as _ .refl w v rv⟩
theorem pe_clsname {Y : Cx} {C : Addr} {x : Str} {p : Pos} (hg : Gl Y x) (hm : Y.mg x = some (.ref C)) (hdb : (x == ("__debug__" : Str)) = false := by decide) : PE Y (.Name x p) (tC (.ref C)) :=
  ⟨fun pins s σ H Q I h => ld_glob I hg hm ⟨.ref C, H, I, rfl, h⟩ hdb⟩
/-- isinstance of the held exception -/
def rIsX (K : PySem.W.Frag) (a : Addr) (cls : Value) (d : Option Addr) : List V → Hp → VK → Prop := fun xs H Q => ∃ (D dd : Addr) (fx : List (Str × V)) (b : Bool), cls = .ref D ∧ d = some dd ∧ H dd = some (.xd fx) ∧ ExcC K D ∧
  ((∃ (c : V) (cv : Value), xs = [.ref a, c] ∧ ClsV c cv ∧ PySem.W.kitOne K (.ref D) cv = some b) ∨ (∃ (tp : Addr) (cs : List V) (us : List Value), xs = [.ref a, .ref tp] ∧ H tp = some (.tup cs) ∧ Paired ClsV cs us ∧ PySem.W.kitAny K (.ref D) us = some b)) ∧ Q (.bl b) H
theorem call_isX (hz : Zc cls d oe) (hfl : ∃ vs, oe.data = .fields vs) : CallR (X.suite a ((a, oe) :: pn)) (.builtin "isinstance") (rIsX X.K a cls d) := by
  intro pins s σ H xs us Q I r h
  obtain ⟨D, dd, fx, b, rfl, rfl, e2, C, h, q⟩ := h
  obtain ⟨od, mA, J, hl, hr⟩ := inst_of hz hfl I e2
  rcases h with ⟨c, cv, rfl, hcv, e⟩ | ⟨tp, cs, ws, rfl, hT, k, e⟩
  · obtain ⟨u1, u2, rfl, r1, r2⟩ := vals2 r
    obtain rfl : u1 = Value.ref a := r1
    have ec := hcv.eq r2
    subst ec
    exact PySem.W.kia_one (PySem.W.dl_kitx C.hg C.hk C.hs C.hd C.ha C.hn C.ht C.hm) I.kIn J e (fun z => nomatch z) fun tk => ⟨.bl b, H, I.tok tk, rfl, q⟩
  · obtain ⟨u1, u2, rfl, r1, r2⟩ := vals2 r
    obtain rfl : u1 = Value.ref a := r1
    cases (show u2 = Value.ref tp from r2)
    obtain ⟨_, its, rv, o, h1, h2, n, h3⟩ := (show ObjOk X.prog X.w H s.heap tp (.tup cs) from I.hok tp _ hT)
    have e3 := ClsV.all k rv
    subst e3
    obtain ⟨oc, od', dt, sl⟩ := o
    simp only at h2 h3
    subst h2 h3
    exact PySem.W.kia_tup (PySem.W.dl_kitx C.hg C.hk C.hs C.hd C.ha C.hn C.ht C.hm) I.kIn J h1 e (fun z => nomatch z) fun tk => ⟨.bl b, H, I.tok tk, rfl, q⟩
theorem xp_i (T : XTab X.K cl known sub fs) {c x : Str} (hc : c ∈ known) (hz : Zc cls d oe) (hfl : ∃ vs, oe.data = .fields vs) (hn : PE (X.suite a ((a, oe) :: pn)) (.Name n p1) (tVar i)) (hg : Gl (X.suite a ((a, oe) :: pn)) x) (hm : X.mg x = some (.ref (cl c)))
    (hgi : Gl (X.suite a ((a, oe) :: pn)) "isinstance") (hmi : X.mg "isinstance" = none) (hv : bootBuiltins "isinstance" = some (.builtin "isinstance")) (hdb : (x == ("__debug__" : Str)) = false := by decide) {p3 : Pos}
    (he : starEach [.Name n p1, .Name x p2] X.env = (false, eval (.Name n p1) X.env) :: starEach [.Name x p2] X.env := by rfl) (hpl : (backTo pos (starEach [.Name x p2] X.env)).any (·.1) = false := by rfl) (he2 : starEach [.Name x p2] X.env = (false, eval (.Name x p2) X.env) :: starEach [] X.env := by rfl) :
    PE (X.suite a ((a, oe) :: pn)) (.Call (.Name "isinstance" p3) [.Name n p1, .Name x p2] [] pos) (tXP X.K cl known sub i (.i c) a cls d) := by
  refine PE.mono (pe_callB (call_isX hz hfl) hgi hmi hv (pa_cons hn (pa_cons (pe_clsname hg hm hdb) pa_nil he2) he) (by decide) (by decide) he hpl) fun σ H Q ⟨hσ, as, st, x, dv, w, rx, hk, hv, q⟩ => ?_
  have hne : x.fs ≠ [] := fun z => by
    unfold XP.val at hv
    rw [if_pos z] at hv
    cases hv
  unfold XP.val at hv
  rw [if_neg hne] at hv
  cases hv
  obtain ⟨dd, fx, rfl, e2, r⟩ := rx.dict hne
  refine ⟨.ref a, hσ, ?_⟩
  exact ⟨cl x.cls, dd, fx, sub x.cls c, rx.cls_eq, rfl, e2, T.exc _ hk, .inl ⟨.ref (cl c), .ref (cl c), rfl, .own _, T.kit hk hc⟩, q as H .refl w _ (.bl _)⟩
theorem xp_i2 (T : XTab X.K cl known sub fs) {c c' x x' : Str} (hc : c ∈ known) (hc' : c' ∈ known) (hz : Zc cls d oe) (hfl : ∃ vs, oe.data = .fields vs) (hn : PE (X.suite a ((a, oe) :: pn)) (.Name n p1) (tVar i)) (hg : Gl (X.suite a ((a, oe) :: pn)) x) (hm : X.mg x = some (.ref (cl c))) (hg' : Gl (X.suite a ((a, oe) :: pn)) x') (hm' : X.mg x' = some (.ref (cl c')))
    (hgi : Gl (X.suite a ((a, oe) :: pn)) "isinstance") (hmi : X.mg "isinstance" = none) (hv : bootBuiltins "isinstance" = some (.builtin "isinstance")) (hdb : (x == ("__debug__" : Str)) = false := by decide) (hdb' : (x' == ("__debug__" : Str)) = false := by decide) {p3 p4 p5 : Pos} {cx}
    (he : starEach [.Name n p1, .Tuple [.Name x p2, .Name x' p5] cx p4] X.env = (false, eval (.Name n p1) X.env) :: starEach [.Tuple [.Name x p2, .Name x' p5] cx p4] X.env := by rfl) (hpl : (backTo pos (starEach [.Tuple [.Name x p2, .Name x' p5] cx p4] X.env)).any (·.1) = false := by rfl)
    (he2 : starEach [.Tuple [.Name x p2, .Name x' p5] cx p4] X.env = (false, eval (.Tuple [.Name x p2, .Name x' p5] cx p4) X.env) :: starEach [] X.env := by rfl) (he3 : starEach [.Name x p2, .Name x' p5] X.env = (false, eval (.Name x p2) X.env) :: starEach [.Name x' p5] X.env := by rfl) (he4 : starEach [.Name x' p5] X.env = (false, eval (.Name x' p5) X.env) :: starEach [] X.env := by rfl) :
    PE (X.suite a ((a, oe) :: pn)) (.Call (.Name "isinstance" p3) [.Name n p1, .Tuple [.Name x p2, .Name x' p5] cx p4] [] pos) (tXP X.K cl known sub i (.i2 c c') a cls d) := by
  refine PE.mono (pe_callB (call_isX hz hfl) hgi hmi hv (pa_cons hn (pa_cons (pe_tup (pa_cons (pe_clsname hg hm hdb) (pa_cons (pe_clsname hg' hm' hdb') pa_nil he4) he3)) pa_nil he2) he) (by decide) (by decide) he hpl) fun σ H Q ⟨hσ, as, st, x, dv, w, rx, hk, hv, q⟩ => ?_
  have hne : x.fs ≠ [] := fun z => by
    unfold XP.val at hv
    rw [if_pos z] at hv
    cases hv
  unfold XP.val at hv
  rw [if_neg hne] at hv
  cases hv
  refine ⟨.ref a, hσ, (by decide : (2 : Nat) ≤ sizeLine), fun tp htp => ?_⟩
  have ev := Evo.new w (o := .tup [.ref (cl c), .ref (cl c')]) htp
  have rx2 := rx.evo ev
  obtain ⟨dd, fx, rfl, e2, r⟩ := rx2.dict hne
  have hkit : PySem.W.kitAny X.K (.ref (cl x.cls)) [.ref (cl c), .ref (cl c')] = some (sub x.cls c || sub x.cls c') := by
    unfold PySem.W.kitAny
    rw [T.kit hk hc]
    cases sub x.cls c with
    | true => rfl
    | false =>
      unfold PySem.W.kitAny
      rw [T.kit hk hc']
      cases sub x.cls c' <;> rfl
  exact ⟨cl x.cls, dd, fx, _, rx.cls_eq, rfl, e2, T.exc _ hk, .inr ⟨tp, _, [.ref (cl c), .ref (cl c')], rfl, upd_same, .cons (.own _) (.cons (.own _) .nil), hkit⟩, q as _ ev (w.new htp) _ (.bl _)⟩
theorem xp_one {op : BoolOp} {e : Expr} {p : XP} (h : PE (X.suite a ((a, oe) :: pn)) e (tXP X.K cl known sub i p a cls d)) : PE (X.suite a ((a, oe) :: pn)) (.BoolOp op [e] pos) (tXP X.K cl known sub i p a cls d) := pe_one h
theorem xp_and {e b : Expr} {rest : List Expr} {p q : XP} (h1 : PE (X.suite a ((a, oe) :: pn)) e (tXP X.K cl known sub i p a cls d)) (h2 : PE (X.suite a ((a, oe) :: pn)) (.BoolOp .And (b :: rest) pos) (tXP X.K cl known sub i q a cls d)) :
    PE (X.suite a ((a, oe) :: pn)) (.BoolOp .And (e :: b :: rest) pos) (tXP X.K cl known sub i (.a p q) a cls d) := by
  refine PE.mono (pe_and h1 h2) fun σ H Q ⟨hσ, as, st, x, dv, w, rx, hk, hv, qq⟩ => ?_
  unfold XP.val at hv
  split at hv
  · rename_i h
    refine ⟨hσ, as, st, x, .bl true, w, rx, hk, h, fun as' H' e' w' v rv => ?_⟩
    cases rv
    refine ⟨true, rfl, ?_⟩
    rw [if_pos rfl]
    exact ⟨hσ, as', st, x, dv, w', rx.evo e', hk, hv, fun as2 H2 e2 w2 => qq as2 H2 (e'.trans e2) w2⟩
  · rename_i h
    cases hv
    refine ⟨hσ, as, st, x, .bl false, w, rx, hk, h, fun as' H' e' w' v rv => ?_⟩
    cases rv
    refine ⟨false, rfl, ?_⟩
    rw [if_neg (by simp)]
    exact qq as' H' e' w' _ (.bl _)
  · cases hv
theorem xa_nil : PA (X.suite a ((a, oe) :: pn)) [] (tXPs X.K cl known sub i [] a cls d) := PA.mono pa_nil fun σ H Q ⟨_, as, st, x, dvs, w, rx, hk, hv, q⟩ => by
  cases hv
  exact q as H .refl w _ .nil
theorem xa_cons {e : Expr} {es : List Expr} {p : XP} {ps : List XP} (h1 : PE (X.suite a ((a, oe) :: pn)) e (tXP X.K cl known sub i p a cls d)) (h2 : PA (X.suite a ((a, oe) :: pn)) es (tXPs X.K cl known sub i ps a cls d))
    (hs : starEach (e :: es) X.env = (false, eval e X.env) :: starEach es X.env := by rfl) : PA (X.suite a ((a, oe) :: pn)) (e :: es) (tXPs X.K cl known sub i (p :: ps) a cls d) := by
  refine PA.mono (pa_cons h1 h2 hs) fun σ H Q ⟨hσ, as, st, x, dvs, w, rx, hk, hv, q⟩ => ?_
  unfold XPs.val at hv
  split at hv
  · rename_i dp ds hp hps
    cases hv
    refine ⟨hσ, as, st, x, dp, w, rx, hk, hp, fun as' H' e' w' v rv => ?_⟩
    exact ⟨hσ, as', st, x, ds, w', rx.evo e', hk, hps, fun as2 H2 e2 w2 vs rvs => q as2 H2 (e'.trans e2) w2 _ (.cons (rv.evo e2) rvs)⟩
  · cases hv
/-- the suite `return (..)` -/
abbrev tXS (K : PySem.W.Frag) (cl : Cl) (known : List Str) (sub : Str → Str → Bool) (i : Nat) (ps : List XP) : HTS := fun a cls d => tRet (tTup (tXPs K cl known sub i ps a cls d))
theorem xs_ret {es : List Expr} {ps : List XP} {cx} {p2 : Pos} (h : PA (X.suite a ((a, oe) :: pn)) es (tXPs X.K cl known sub i ps a cls d)) : PSs (X.suite a ((a, oe) :: pn)) [.Return (some (.Tuple es cx p2)) pos] (tXS X.K cl known sub i ps a cls d) := pss_one (ps_ret (pe_tup h))
end
/-! ### try -/
/-- try: .. except C1 as e: return (..) except C2 as e: return (..) -/
def dTryR (known : List Str) (sub : Str → Str → Bool) (hs : List (Str × Nat × List XP)) (t : DS) : DS := fun τ st => match t τ st with
  | .ok (.ex x, τ1) st1 => if x.cls ∈ known then (match hs.find? fun h => sub x.cls h.1 with
      | some h => (match XPs.val sub x h.2.2 with
        | some ds => if ds.length ≤ sizeLine ∧ h.2.1 < τ1.length then .ok (.rt (.tup ds), τ1) st1 else .bad
        | none => .bad)
      | none => .ok (.ex x, τ1) st1) else .bad
  | r => r
def hsOf (K : PySem.W.Frag) (cl : Cl) (known : List Str) (sub : Str → Str → Bool) (hs : List (Str × Nat × List XP)) : List (Value × Nat × HTS) := hs.map fun h => (.ref (cl h.1), h.2.1, tXS K cl known sub h.2.1 h.2.2)
section
variable {X : Cx} {cl : Cl} {W : WX} {known fs : List Str} {sub : Str → Str → Bool}
theorem ases_ok (T : XTab X.K cl known sub fs) {D : Ends} {as : Mp} {H : Hp} {st : Sto} {τ : En} {x : Exn} {σ : L2.St} {u : Value} {dx : Option Addr} (w : Wd X.K cl as st H) (e : RepE X.K as H τ σ) (rx : RepX X.K cl as H x u dx) (hk : x.cls ∈ known) :
    ∀ hs : List (Str × Nat × List XP), (∀ h ∈ hs, h.1 ∈ known) → (match hs.find? fun h => sub x.cls h.1 with
      | some h => ∃ ds, XPs.val sub x h.2.2 = some ds ∧ ds.length ≤ sizeLine ∧ h.2.1 < τ.length ∧ ∀ as' H', Evo as H as' H' → Wd X.K cl as' st H' → ∀ v, Rep X.K as' H' (.tup ds) v → D.rt v H'
      | none => W u dx σ H) → wAses X.K W D (hsOf X.K cl known sub hs) u dx σ H
  | [], _, q => q
  | h :: hs, hn, q => by
    obtain ⟨c, i, ps⟩ := h
    have ih := ases_ok (D := D) T w e rx hk hs fun z hz => hn z (List.mem_cons_of_mem _ hz)
    have hc := hn _ List.mem_cons_self
    rw [List.find?_cons] at q
    refine ⟨sub x.cls c, by rw [rx.cls_eq]; exact T.exm hk hc, fun hb a ha => ?_, fun hb => ?_⟩
    · rw [show (match (c, i, ps) with | h => sub x.cls h.1) = true from hb] at q
      obtain ⟨ds, h1, h2, hi, h3⟩ := q
      have hlen : i < σ.length := by rw [← e.len]; exact hi
      refine ⟨by rw [List.getElem?_set_self hlen], as, st, x, ds, w, rx, hk, h1, fun as' H' e' w' vs rvs => ⟨by rw [← rvs.len]; exact h2, fun p hp => ?_⟩⟩
      exact h3 as' _ (e'.trans (Evo.new w' hp)) (w'.new hp) _ (Rep.newT w' hp rvs)
    · rw [show (match (c, i, ps) with | h => sub x.cls h.1) = false from hb] at q
      exact ih q
theorem js_try {body : List Stmt} {h₀ : ExceptHandler} {hds : List ExceptHandler} {hs : List (Str × Nat × List XP)} {t : DS} {pos : Pos} (T : XTab X.K cl known sub fs) (hst : X.stack = X.env :: X.outer) (hf : X.env.frame = some X.env.locals) (hN : X.N.Nodup) (tk : Takes X W)
    (hb : ∀ (W : WX) (pn : List (Addr × Obj)) (xe : Value → Shared → Prop), Takes (X.tr pn xe) W → PassesOwn (model X.prog X.w) X.A X.env xe → JSs (X.tr pn xe) cl W body t) (hn : ∀ h ∈ hs, h.1 ∈ known)
    (hh : HdsAs X (h₀ :: hds) (hsOf X.K cl known sub hs)) : JS X cl W (.Try body (h₀ :: hds) [] [] pos) (dTryR known sub hs t) := by
  refine PS.mono (ps_try_ases (tb := fun W => liftS X.K cl W t) hst hf hN tk hb hh) fun M σ H ⟨as, st, τ, w, e, p⟩ => ⟨as, st, τ, w, e, ?_⟩
  unfold dTryR at p
  cases hr : t τ st with
  | bad => rw [hr] at p; exact p.elim
  | exc x st1 => rw [hr] at p; exact p
  | ok r st1 =>
    rw [hr] at p
    obtain ⟨fl, τ1⟩ := r
    cases fl with
    | nx => exact p
    | rt d => exact p
    | bk => exact p
    | ct => exact p
    | ex x =>
      dsimp only at p
      intro as1 H1 e1 w1 σ1 u dx r1 rx
      split at p
      · rename_i hk
        refine ases_ok T w1 r1 rx hk hs hn ?_
        split
        · rename_i h hfind
          rw [hfind] at p
          dsimp only at p
          split at p
          · rename_i ds hv
            split at p
            · rename_i hl
              exact ⟨ds, hv, hl.1, hl.2, fun as' H' e' w' v rv => p as' H' (e1.trans e') w' v rv⟩
            · exact p.elim
          · exact p.elim
        · rename_i hfind
          rw [hfind] at p
          exact p as1 H1 e1 w1 σ1 u dx r1 rx
      · exact p.elim
end
end DL

/-! DW3: the steps that need no reckoning, found by their form (a class in place of a row of tries). -/
namespace DL
open PySem PySem.Spec PyProof.Rows L2
/-- one step back: p follows from q -/
class St (p : Prop) (q : outParam Prop) : Prop where
  ok : q → p
theorem go {p q : Prop} [i : St p q] (h : q) : p := i.ok h
/-- a name's value -/
class Lk (τ : En) (i : Nat) (d : outParam D) : Prop where
  ok : τ[i]? = some (some d)
instance lk_0 {d : D} {τ : En} : Lk (some d :: τ) 0 d := ⟨rfl⟩
instance lk_s {x : Option D} {d : D} {τ : En} {i : Nat} [h : Lk τ i d] : Lk (x :: τ) (i + 1) d := ⟨by rw [List.getElem?_cons_succ]; exact h.ok⟩
/-- names behind stores -/
class Pt (σ : En) (i : Nat) (x : Option D) (ρ : outParam En) : Prop where
  ok : Put σ i x ρ
instance pt_0 {x y : Option D} {σ : En} : Pt (x :: σ) 0 y (y :: σ) := ⟨put_0⟩
instance pt_s {x y : Option D} {σ ρ : En} {n : Nat} [h : Pt σ n y ρ] : Pt (x :: σ) (n + 1) y (x :: ρ) := ⟨put_s h.ok⟩
class Nm (σ : En) (ρ : outParam En) : Prop where
  ok : SetTo σ ρ
instance (priority := low) nm_r {σ : En} : Nm σ σ := ⟨setTo_refl⟩
instance nm_s {σ τ ρ : En} {i : Nat} {x : Option D} [h : Nm σ τ] [p : Pt τ i x ρ] : Nm (σ.set i x) ρ := ⟨setTo_set h.ok p.ok⟩
/-- a short row -/
class Few (ds : List D) (k : Nat) : Prop where
  ok : ds.length ≤ k
instance few_n {k : Nat} : Few [] k := ⟨Nat.zero_le _⟩
instance few_c {d : D} {ds : List D} {k : Nat} [h : Few ds k] : Few (d :: ds) (k + 1) := ⟨Nat.succ_le_succ h.ok⟩
/-- an item's place in a written row -/
class Ix (ds : List D) (i : Nat) (d : outParam D) : Prop where
  ok : ds[i]? = some d
instance ix_0 {d : D} {ds : List D} : Ix (d :: ds) 0 d := ⟨rfl⟩
instance ix_s {x d : D} {ds : List D} {i : Nat} [h : Ix ds i d] : Ix (x :: ds) (i + 1) d := ⟨by rw [List.getElem?_cons_succ]; exact h.ok⟩
/-- a small number, written -/
class NatI (i : Int) (n : outParam Nat) : Prop where
  ok : i = (n : Int)
instance ni0 : NatI 0 0 := ⟨rfl⟩
instance ni1 : NatI 1 1 := ⟨rfl⟩
instance ni2 : NatI 2 2 := ⟨rfl⟩
instance ni3 : NatI 3 3 := ⟨rfl⟩
instance ni4 : NatI 4 4 := ⟨rfl⟩
instance ni5 : NatI 5 5 := ⟨rfl⟩
instance ni6 : NatI 6 6 := ⟨rfl⟩
instance ni7 : NatI 7 7 := ⟨rfl⟩
theorem ix_at {ds : List D} {d : D} {i : Int} {n : Nat} [hn : NatI i n] [h : Ix ds n d] : atI ds i = some d := by
  rw [hn.ok]; exact atI_nat h.ok
/-- a table's item -/
def tabK (kvs : List (Key × D)) (Q : D → Sto → Prop) (y : D) (st : Sto) : Prop := ∃ x d, y = .str x ∧ valD kvs (.inr x) = some d ∧ Q d st
theorem tabK_mk {kvs : List (Key × D)} {Q : D → Sto → Prop} {x : Str} {d : D} {st : Sto} (h : valD kvs (.inr x) = some d) (q : Q d st) : tabK kvs Q (.str x) st := ⟨x, d, rfl, h, q⟩
section
variable {Q : Fl × En → Sto → Prop} {E : Exn → Sto → Prop} {QD : D → Sto → Prop} {QB : Bool → Sto → Prop} {QA : List D → Sto → Prop} {P : En → Sto → Prop}
  {st : Sto} {τ τ' : En} {t u : DS} {c c' : DT} {te tf tg : DE} {ta : DA} {d : D} {x : Exn} {i : Nat} {r r' : D2} {A B : Prop}
instance s_seq : St (Wp (dSeq t u τ st) Q E) (Wp (t τ st) (seqK u Q E) E) := ⟨wp_seq⟩
instance s_asg : St (Wp (dAsg te (gN i) τ st) Q E) (Wp (te τ st) (fun d st => Q (.nx, τ.set i (some d)) st) (fun x st => Q (.ex x, τ) st)) := ⟨wp_asg⟩
instance (priority := low) s_asg_g {g : DG} : St (Wp (dAsg te g τ st) Q E) (Wp (te τ st) (fun d st => Wp (g d τ st) (fun τ' st => Q (.nx, τ') st) (fun x st => Q (.ex x, τ) st)) (fun x st => Q (.ex x, τ) st)) := ⟨wp_asg_g⟩
instance s_bin : St (Wp (dBin r te tf τ st) QD E) (Wp (te τ st) (fun x st => Wp (tf τ st) (fun y st => Wp (r x y st) QD E) E) E) := ⟨wp_bin⟩
instance s_c : St (Wp (dC d τ st) QD E) (QD d st) := ⟨wp_c⟩
instance s_var [h : Lk τ i d] : St (Wp (dVar i τ st) QD E) (QD d st) := ⟨wp_var h.ok⟩
instance s_aug {y : D} [h : Lk τ i y] : St (Wp (dAug i te r τ st) Q E) (Wp (te τ st) (fun z st => Wp (r y z st) (fun w st => Q (.nx, τ.set i (some w)) st) (fun x st => Q (.ex x, τ) st)) (fun x st => Q (.ex x, τ) st)) := ⟨wp_aug h.ok⟩
instance s_ret : St (Wp (dRet te τ st) Q E) (Wp (te τ st) (fun d st => Q (.rt d, τ) st) (fun x st => Q (.ex x, τ) st)) := ⟨wp_ret⟩
instance s_ifs : St (Wp (dIfS c t u τ st) Q E) (Wp (c τ st) (fun b st => if b = true then Wp (t τ st) Q E else Wp (u τ st) Q E) (fun x st => Q (.ex x, τ) st)) := ⟨wp_ifs⟩
instance s_tst : St (Wp (dTst te τ st) QB E) (Wp (te τ st) (truK QB) E) := ⟨wp_tst⟩
instance s_drop : St (Wp (dDrop te τ st) Q E) (Wp (te τ st) (fun _ st => Q (.nx, τ) st) (fun x st => Q (.ex x, τ) st)) := ⟨wp_drop⟩
instance s_bl {b : Bool} : St (truK QB (.bl b) st) (QB b st) := ⟨truK_bl⟩
instance s_optb {b : Bool} : St (Wp (R.opt (truD (.bl b) st) st) QB E) (QB b st) := ⟨wp_optb⟩
instance s_app {F : DC} : St (Wp (dApp F ta τ st) QD E) (Wp (ta τ st) (fun ds st => Wp (F ds st) QD E) E) := ⟨wp_app⟩
instance s_cons : St (Wp (dCons te ta τ st) QA E) (Wp (te τ st) (fun d st => Wp (ta τ st) (fun ds st => QA (d :: ds) st) E) E) := ⟨wp_cons⟩
instance s_nil : St (Wp (dNil τ st) QA E) (QA [] st) := ⟨wp_nil⟩
instance s_nott : St (Wp (dNotT c τ st) QB E) (Wp (c τ st) (fun b st => QB (!b) st) E) := ⟨wp_nott⟩
instance s_andt : St (Wp (dAndT c c' τ st) QB E) (Wp (c τ st) (fun b st => if b = true then Wp (c' τ st) QB E else QB false st) E) := ⟨wp_andt⟩
instance s_ort : St (Wp (dOrT c c' τ st) QB E) (Wp (c τ st) (fun b st => if b = true then QB true st else Wp (c' τ st) QB E) E) := ⟨wp_ort⟩
instance s_andv : St (Wp (dAndV te tf τ st) QD E) (Wp (te τ st) (truK fun b st => if b = true then Wp (tf τ st) QD E else QD (.bl false) st) E) := ⟨wp_andv⟩
instance s_orv : St (Wp (dOrV te tf τ st) QD E) (Wp (te τ st) (truK fun b st => if b = true then QD (.bl true) st else Wp (tf τ st) QD E) E) := ⟨wp_orv⟩
instance s_notv : St (Wp (dNotV te τ st) QD E) (Wp (te τ st) (truK fun b st => QD (.bl (!b)) st) E) := ⟨wp_notv⟩
instance s_truv : St (Wp (dTru te τ st) QB E) (Wp (te τ st) (fun d st => Wp (R.opt (truD d st) st) QB E) E) := ⟨wp_truv⟩
instance s_if : St (Wp (dIf c te tf τ st) QD E) (Wp (c τ st) (fun b st => if b = true then Wp (te τ st) QD E else Wp (tf τ st) QD E) E) := ⟨wp_if⟩
instance s_chain : St (Wp (dChain r r' te tf tg τ st) QD E) (Wp (te τ st) (fun x st => Wp (tf τ st) (fun y st => Wp (r x y st) (truK fun b st => if b = true then Wp (tg τ st) (fun z st => Wp (r' y z st) QD E) E else QD (.bl false) st) E) E) E) := ⟨wp_chain⟩
instance s_next : St (Wp (dNext τ st) Q E) (Q (.nx, τ) st) := ⟨wp_next⟩
instance s_retN : St (Wp (dRetN τ st) Q E) (Q (.rt .non, τ) st) := ⟨wp_retN⟩
instance s_break : St (Wp (dBreak τ st) Q E) (Q (.bk, τ) st) := ⟨wp_break⟩
instance s_cont : St (Wp (dCont τ st) Q E) (Q (.ct, τ) st) := ⟨wp_cont⟩
instance s_seqK_rt : St (seqK u Q E (.rt d, τ) st) (Q (.rt d, τ) st) := ⟨seqK_rt⟩
instance s_seqK_bk : St (seqK u Q E (.bk, τ) st) (Q (.bk, τ) st) := ⟨seqK_bk⟩
instance s_seqK_ct : St (seqK u Q E (.ct, τ) st) (Q (.ct, τ) st) := ⟨seqK_ct⟩
instance s_seqK_ex : St (seqK u Q E (.ex x, τ) st) (Q (.ex x, τ) st) := ⟨seqK_ex⟩
instance s_seqK_nx [h : Nm τ τ'] : St (seqK u Q E (.nx, τ) st) (Wp (u τ' st) Q E) := ⟨seqK_nx h.ok⟩
instance s_finK_rt : St (finK QD E (.rt d, τ) st) (QD d st) := ⟨finK_rt⟩
instance s_finK_nx : St (finK QD E (.nx, τ) st) (QD .non st) := ⟨finK_nx⟩
instance s_finK_ex : St (finK QD E (.ex x, τ) st) (E x st) := ⟨finK_ex⟩
instance s_rtK : St (rtK QD (.rt d, τ) st) (QD d st) := ⟨rtK_mk⟩
instance s_turnK_rt : St (turnK P Q (.rt d, τ) st) (Q (.rt d, τ) st) := ⟨turnK_rt⟩
instance s_turnK_ex : St (turnK P Q (.ex x, τ) st) (Q (.ex x, τ) st) := ⟨turnK_ex⟩
instance s_turnK_nx [h : Nm τ τ'] : St (turnK P Q (.nx, τ) st) (P τ' st) := ⟨turnK_nx h.ok⟩
instance s_turnK_ct [h : Nm τ τ'] : St (turnK P Q (.ct, τ) st) (P τ' st) := ⟨turnK_ct h.ok⟩
instance s_turnK_bk [h : Nm τ τ'] : St (turnK P Q (.bk, τ) st) (Q (.nx, τ') st) := ⟨turnK_bk h.ok⟩
instance s_ok {α : Type} {a : α} {QX : α → Sto → Prop} : St (Wp (R.ok a st) QX E) (QX a st) := ⟨wp_ok⟩
instance s_exc {α : Type} {QX : α → Sto → Prop} : St (Wp (R.exc x st : R α) QX E) (E x st) := ⟨wp_exc⟩
instance s_if_t {i : Decidable (true = true)} : St (@ite Prop (true = true) i A B) A := ⟨fun h => by rw [if_pos rfl]; exact h⟩
instance s_if_f {i : Decidable (false = true)} : St (@ite Prop (false = true) i A B) B := ⟨fun h => by rw [if_neg (fun z => by cases z)]; exact h⟩
instance s_if_nt {i : Decidable ((!true) = true)} : St (@ite Prop ((!true) = true) i A B) B := ⟨fun h => by rw [if_neg (fun z => by cases z)]; exact h⟩
instance s_if_nf {i : Decidable ((!false) = true)} : St (@ite Prop ((!false) = true) i A B) A := ⟨fun h => by rw [if_pos (show (!false) = true from rfl)]; exact h⟩
instance s_fld {f : Str} {cs : List Str} : St (Wp (dFld f cs te τ st) QD E) (Wp (te τ st) (fun d st => Wp (fldV f cs d st) QD E) E) := ⟨wp_fld⟩
instance s_flds {f : Str} {cs : List Str} {to tv : DE} : St (Wp (dFldS f cs to tv τ st) Q E) (Wp (tv τ st) (fun v st => Wp (to τ st) (fun d st => Wp (setF f cs d v τ st) Q E) (fun x st => Q (.ex x, τ) st)) (fun x st => Q (.ex x, τ) st)) := ⟨wp_flds⟩
instance s_fldaug {f : Str} {cs : List Str} {to tv : DE} : St (Wp (dFldAug f cs to tv r τ st) Q E) (Wp (to τ st) (fun d st => Wp (fldV f cs d st) (fun x st => Wp (tv τ st) (fun y st => Wp (r x y st) (fun z st => Wp (setF f cs d z τ st) Q E) (fun x st => Q (.ex x, τ) st)) (fun x st => Q (.ex x, τ) st)) (fun x st => Q (.ex x, τ) st)) (fun x st => Q (.ex x, τ) st)) := ⟨wp_fldaug⟩
instance s_tab {kvs : List (Key × D)} : St (Wp (dTab kvs te τ st) QD E) (Wp (te τ st) (fun y st => tabK kvs QD y st) E) := ⟨fun h => wp_tab (h.to fun y st ⟨x, d, e, h, q⟩ => by subst e; exact wq_tab h q)⟩
instance s_puta {td ty tv : DE} : St (Wp (dPutA td ty tv τ st) Q E) (Wp (tv τ st) (fun v st => Wp (td τ st) (fun x st => Wp (ty τ st) (fun y st => Wp (sPutA x y v τ st) Q E) (fun x st => Q (.ex x, τ) st)) (fun x st => Q (.ex x, τ) st)) (fun x st => Q (.ex x, τ) st)) := ⟨wp_puta⟩
instance s_int {j : Int} {QI : Int → Prop} : St (intK QI (.int j)) (QI j) := ⟨intK_int⟩
instance s_rng1 {ta : DA} : St (Wp (iRng1D ta τ st) QA E) (Wp (ta τ st) (fun ds st => rng1K (fun k => QA (rng 0 k) st) ds) E) := ⟨wq_rng1⟩
instance s_rng2 {ta : DA} : St (Wp (iRng2D ta τ st) QA E) (Wp (ta τ st) (fun ds st => rng2K (fun l k => QA (rng l k) st) ds) E) := ⟨wq_rng2⟩
instance s_iany : St (Wp (iAny te τ st) QA E) (Wp (te τ st) (fun d st => rowK (fun xs => QA xs st) d) E) := ⟨wq_iany⟩
instance s_rowK_l {QL : List D → Prop} {xs : List D} : St (rowK QL (.lst xs)) (QL xs) := ⟨rowK_l⟩
instance s_rowK_t {QL : List D → Prop} {xs : List D} : St (rowK QL (.tup xs)) (QL xs) := ⟨rowK_t⟩
instance s_rowK_f {QL : List D → Prop} {xs : List D} : St (rowK QL (.fro xs)) (QL xs) := ⟨rowK_f⟩
instance s_rowK_s {QL : List D → Prop} {x : Str} : St (rowK QL (.str x)) (QL (x.cps.toList.map fun c => .str ⟨#[c]⟩)) := ⟨rowK_s⟩
instance s_bmt {T : String} {m : DM} : St (Wp (dBMT T m te ta τ st) QD E) (Wp (te τ st) (fun x st => isK T x st (Wp (ta τ st) (fun ds st => Wp (m x ds st) QD E) E)) E) := ⟨wp_bmt⟩
instance s_meth {c m : Str} {F : DF} {to : DE} {t : DA} : St (Wp (dMeth c m F to t τ st) QD E) (Wp (to τ st) (methK c m F t τ QD E) E) := ⟨wp_meth⟩
instance s_make {c : Str} {F : DF} {t : DA} : St (Wp (dMake c F t τ st) QD E) (Wp (t τ st) (fun ds st => Wp (F (.ref st.length :: ds) (st ++ [.ins c []])) (fun r st' => r = .non ∧ QD (.ref st.length) st') E) E) := ⟨wp_make⟩
instance s_sl {tl th : DO} : St (Wp (dSl te tl th τ st) QD E) (Wp (te τ st) (fun x st => Wp (tl τ st) (fun lo st => Wp (th τ st) (fun hi st => Wp (dCut x lo hi st) QD E) E) E) E) := ⟨wp_sl⟩
instance s_nopart {QO : Option Int → Sto → Prop} : St (Wp (dNoPart τ st) QO E) (QO none st) := ⟨wp_nopart⟩
instance s_part {QO : Option Int → Sto → Prop} : St (Wp (dPart te τ st) QO E) (Wp (te τ st) (fun d st => intK (fun i => QO (some i) st) d) E) := ⟨wp_part⟩
instance s_for {it : DI} {g : DG} : St (Wp (dFor it g t τ st) Q E) (Wp (it τ st) (fun ds st => Wp (forL g t ds τ st) Q E) (fun x st => Q (.ex x, τ) st)) := ⟨wp_for⟩
instance s_dispE : St (Wp (dDispE τ st) QD E) (QD (.ref st.length) (st ++ [.dK []])) := ⟨wp_dispE⟩
instance s_neg : St (Wp (dNeg te τ st) QD E) (Wp (te τ st) (fun d st => intK (fun i => QD (.int (-i)) st) d) E) := ⟨wp_neg⟩
instance s_tup : St (Wp (dTup ta τ st) QD E) (Wp (ta τ st) (fun ds st => lenK ds (QD (.tup ds) st)) E) := ⟨wp_tup⟩
instance s_lst : St (Wp (dLst ta τ st) QD E) (Wp (ta τ st) (fun ds st => lenK ds (QD (.lst ds) st)) E) := ⟨wp_lst⟩
instance s_new : St (Wp (dNew ta τ st) QD E) (Wp (ta τ st) (fun ds st => lenK ds (QD (.ref st.length) (st ++ [.lst ds]))) E) := ⟨wp_new⟩
instance s_disp {tp : DPs} : St (Wp (dDisp tp τ st) QD E) (Wp (tp τ st) (fun kvs st => dispK (fun kvs => QD (.ref st.length) (st ++ [.dK kvs])) kvs) E) := ⟨wp_disp⟩
instance s_pcons {tk tv : DE} {tp : DPs} {QP : List (Key × D) → Sto → Prop} : St (Wp (dPCons tk tv tp τ st) QP E) (Wp (tk τ st) (fun k st => Wp (tv τ st) (fun v st => Wp (tp τ st) (fun r st => keyK (fun k => QP ((k, v) :: r) st) k) E) E) E) := ⟨wp_pcons⟩
instance s_pnil {QP : List (Key × D) → Sto → Prop} : St (Wp (dPNil τ st) QP E) (QP [] st) := ⟨wp_pnil⟩
instance s_keyK_s {QK : Key → Prop} {x : Str} : St (keyK QK (.str x)) (QK (.inr x)) := ⟨keyK_s⟩
instance s_keyK_i {QK : Key → Prop} {j : Int} : St (keyK QK (.int j)) (QK (.inl j)) := ⟨keyK_i⟩
instance s_lenK {ds : List D} [h : Few ds 1000] : St (lenK ds A) A := ⟨lenK_mk (by have := h.ok; omega)⟩
end
section
variable {QD : D → Sto → Prop} {E : Exn → Sto → Prop} {st : Sto} {i j : Int} {a b : Str} {xs ys : List D} {d e x y : D} {n : Nat}
instance l_add : St (Wp (dAdd (.int i) (.int j) st) QD E) (QD (.int (i + j)) st) := ⟨wq_add⟩
instance l_addi : St (Wp (dAddI (.int i) (.int j) st) QD E) (QD (.int (i + j)) st) := ⟨wq_addi⟩
instance l_sub : St (Wp (dSub (.int i) (.int j) st) QD E) (QD (.int (i - j)) st) := ⟨wq_sub⟩
instance l_lt : St (Wp (dLtI (.int i) (.int j) st) QD E) (QD (.bl (decide (i < j))) st) := ⟨wq_lt⟩
instance l_le : St (Wp (dLeI (.int i) (.int j) st) QD E) (QD (.bl (decide (i ≤ j))) st) := ⟨wq_le⟩
instance l_gt : St (Wp (dGtI (.int i) (.int j) st) QD E) (QD (.bl (decide (j < i))) st) := ⟨wq_gt⟩
instance l_ge : St (Wp (dGeI (.int i) (.int j) st) QD E) (QD (.bl (decide (j ≤ i))) st) := ⟨wq_ge⟩
instance l_eqi : St (Wp (dEq false (.int i) (.int j) st) QD E) (QD (.bl (decide (i = j))) st) := ⟨wq_eqi⟩
instance l_nei : St (Wp (dEq true (.int i) (.int j) st) QD E) (QD (.bl (!decide (i = j))) st) := ⟨wq_nei⟩
instance l_int : St (Wp (cInt [.int i] st) QD E) (QD (.int i) st) := ⟨wq_int⟩
instance l_intb {b : Bool} : St (Wp (cInt [.bl b] st) QD E) (QD (.int (if b then 1 else 0)) st) := ⟨wq_intb⟩
instance l_abs : St (Wp (cAbs [.int i] st) QD E) (QD (.int (if i < 0 then -i else i)) st) := ⟨wq_abs⟩
instance l_lent : St (Wp (cLen [.tup xs] st) QD E) (QD (.int xs.length) st) := ⟨wq_lent⟩
instance l_lenl : St (Wp (cLen [.lst xs] st) QD E) (QD (.int xs.length) st) := ⟨wq_lenl⟩
instance l_lenf : St (Wp (cLen [.fro xs] st) QD E) (QD (.int xs.length) st) := ⟨wq_lenf⟩
instance l_tupl : St (Wp (cTuple [.lst xs] st) QD E) (QD (.tup xs) st) := ⟨wq_tupl⟩
instance l_tupt : St (Wp (cTuple [.tup xs] st) QD E) (QD (.tup xs) st) := ⟨wq_tupt⟩
instance l_listt : St (Wp (cList [.tup xs] st) QD E) (QD (.lst xs) st) := ⟨wq_listt⟩
instance l_ixt [NatI i n] [Ix xs n d] : St (Wp (dIxA (.tup xs) (.int i) st) QD E) (QD d st) := ⟨wq_ixt (ix_at (n := n))⟩
instance l_ixl [NatI i n] [Ix xs n d] : St (Wp (dIxA (.lst xs) (.int i) st) QD E) (QD d st) := ⟨wq_ixl (ix_at (n := n))⟩
instance l_gtup2 {Q : En → Sto → Prop} {τ : En} {i j : Nat} : St (Wp (gTupN [i, j] (.tup [x, y]) τ st) Q E) (Q ((τ.set i (some x)).set j (some y)) st) := ⟨wq_gtup2⟩
instance l_gtup3 {Q : En → Sto → Prop} {τ : En} {i j k : Nat} {z : D} : St (Wp (gTupN [i, j, k] (.tup [x, y, z]) τ st) Q E) (Q (((τ.set i (some x)).set j (some y)).set k (some z)) st) := ⟨wq_gtup3⟩
instance l_gtup4 {Q : En → Sto → Prop} {τ : En} {i j k l : Nat} {z w : D} : St (Wp (gTupN [i, j, k, l] (.tup [x, y, z, w]) τ st) Q E) (Q ((((τ.set i (some x)).set j (some y)).set k (some z)).set l (some w)) st) := ⟨wq_gtup4⟩
end
end DL

/-! DW4: raise and try, step by step. -/
namespace DL
open PySem PySem.Spec PyProof.Rows L2
def twoK (Q : D → D → Sto → Prop) (ds : List D) (st : Sto) : Prop := match ds with
  | [a, b] => Q a b st
  | _ => False
theorem twoK_mk {Q : D → D → Sto → Prop} {a b : D} {st : Sto} (q : Q a b st) : twoK Q [a, b] st := q
theorem wp_raise2 {c f1 f2 : Str} {t : DA} {τ : En} {st : Sto} {Q : Fl × En → Sto → Prop} {E : Exn → Sto → Prop} (h : Wp (t τ st) (twoK fun d1 d2 st => Q (.ex ⟨c, [(f2, d2), (f1, d1)]⟩, τ) st) (fun x st => Q (.ex x, τ) st)) : Wp (dRaise2 c f1 f2 t τ st) Q E := by
  refine wp_stm (h.to fun ds st q => ?_)
  match ds, q with
  | [a, b], q => exact q
def tryK (known : List Str) (sub : Str → Str → Bool) (hs : List (Str × Nat × List XP)) (Q : Fl × En → Sto → Prop) (r : Fl × En) (st : Sto) : Prop := match r with
  | (.ex x, τ1) => x.cls ∈ known ∧ (match hs.find? fun h => sub x.cls h.1 with
    | some h => ∃ ds, XPs.val sub x h.2.2 = some ds ∧ ds.length ≤ sizeLine ∧ h.2.1 < τ1.length ∧ Q (.rt (.tup ds), τ1) st
    | none => Q (.ex x, τ1) st)
  | r => Q r st
theorem wp_try {known : List Str} {sub : Str → Str → Bool} {hs : List (Str × Nat × List XP)} {t : DS} {τ : En} {st : Sto} {Q : Fl × En → Sto → Prop} {E : Exn → Sto → Prop} (h : Wp (t τ st) (tryK known sub hs Q) E) : Wp (dTryR known sub hs t τ st) Q E := by
  unfold dTryR
  cases hr : t τ st with
  | bad => rw [hr] at h; exact h.elim
  | exc x st1 => rw [hr] at h; exact h
  | ok r st1 =>
    rw [hr] at h
    obtain ⟨fl, τ1⟩ := r
    cases fl with
    | nx => exact h
    | rt d => exact h
    | bk => exact h
    | ct => exact h
    | ex x =>
      obtain ⟨hk, h⟩ := h
      dsimp only
      rw [if_pos hk]
      cases hz : (hs.find? fun h => sub x.cls h.1) with
      | some z =>
        simp only [hz] at h
        obtain ⟨ds, h1, h2, h3, q⟩ := h
        simp only [h1, h2, h3, and_self, if_true]
        exact q
      | none =>
        simp only [hz] at h
        exact h
theorem tryK_rt {known : List Str} {sub : Str → Str → Bool} {hs : List (Str × Nat × List XP)} {Q : Fl × En → Sto → Prop} {d : D} {τ : En} {st : Sto} (q : Q (.rt d, τ) st) : tryK known sub hs Q (.rt d, τ) st := q
end DL

/-! DL22: list.index of ints, str.index. -/
namespace DL
open PySem PySem.Spec PyProof.Rows L2
def ixInts : List D → Option (List Int)
  | [] => some []
  | .int i :: ds => (ixInts ds).map (i :: ·)
  | _ => none
def mIndexL : DM := fun x ds st => match ds with
  | [.int i] => (match lstOf x st with
    | some row => (match ixInts row with
      | some is => (match is.findIdx? (fun j => decide (j = i)) with
        | some j => .ok (.int (j : Nat)) st
        | none => .bad)
      | none => .bad)
    | none => .bad)
  | _ => .bad
def mIndexS : DM := fun x ds st => match x, ds with
  | .str a, [.str b] => (match Builtin.Str.occurrences a b 0 a.length 1 with
    | i :: _ => .ok (.int (i : Nat)) st
    | [] => .bad)
  | _, _ => .bad
theorem ixInts_eq : ∀ {ds : List D} {is : List Int}, ixInts ds = some is → ds = is.map D.int
  | [], is, h => by cases h; rfl
  | .int i :: ds, is, h => by
    unfold ixInts at h
    obtain ⟨r, hr, rfl⟩ := Option.map_eq_some_iff.mp h
    rw [ixInts_eq hr]
    rfl
  | .non :: _, _, h => by cases h
  | .bl _ :: _, _, h => by cases h
  | .str _ :: _, _, h => by cases h
  | .tup _ :: _, _, h => by cases h
  | .lst _ :: _, _, h => by cases h
  | .fro _ :: _, _, h => by cases h
  | .dic _ :: _, _, h => by cases h
  | .ref _ :: _, _, h => by cases h
  | .raw _ :: _, _, h => by cases h
theorem ixInts_rep {K : PySem.W.Frag} {as : Mp} {H : Hp} : ∀ {is : List Int} {xs : List V}, Reps K as H (is.map D.int) xs → xs = is.map V.int
  | [], _, .nil => rfl
  | i :: is, _, .cons r rs => by
    cases r
    rw [ixInts_rep rs]
    rfl
section
variable {X : Cx} {cl : Cl}
theorem mj_indexL : MtJ X cl "list.index" mIndexL := MtJ.of mt_index fun E as st H x xs d ds Q w rx rs p => by
  unfold mIndexL at p
  split at p
  · rename_i i
    obtain ⟨v, rfl, rv⟩ := rs.one
    cases rv
    cases h1 : lstOf d st with
    | none => rw [h1] at p; exact p.elim
    | some row =>
      rw [h1] at p
      dsimp only at p
      cases h2 : ixInts row with
      | none => rw [h2] at p; exact p.elim
      | some is =>
        rw [h2] at p
        dsimp only at p
        cases h3 : is.findIdx? (fun j => decide (j = i)) with
        | none => rw [h3] at p; exact p.elim
        | some j =>
          rw [h3] at p
          obtain ⟨a, ys, rfl, ha, hr⟩ := lstOf_ok w rx h1
          have e1 := ixInts_eq h2
          subst e1
          have e2 := ixInts_rep hr
          subst e2
          obtain ⟨hj, h4, h5⟩ := List.findIdx?_eq_some_iff_getElem.mp h3
          refine ⟨a, _, .int i, j, .int is[j], rfl, rfl, .of ha, rfl, List.all_eq_true.mpr fun z hz => ?_, by rw [List.getElem?_map, List.getElem?_eq_getElem hj]; rfl, ?_, fun m z' hm hz => ?_, p.val w (.int _)⟩
          · obtain ⟨q, _, rfl⟩ := List.mem_map.mp hz
            rfl
          · have := of_decide_eq_true h4
            rw [this]
            show decide _ = true
            simp
          · rw [List.getElem?_map, List.getElem?_eq_getElem (by omega)] at hz
            cases hz
            have := h5 m hm
            have hne : ¬ is[m] = i := by simpa using this
            show decide _ = false
            simpa using hne
  · exact p.elim
theorem mj_indexS : MtJ X cl "str.index" mIndexS := MtJ.of mt_sindex fun E as st H x xs d ds Q w rx rs p => by
  unfold mIndexS at p
  split at p
  · rename_i a b
    obtain ⟨v, rfl, rv⟩ := rs.one
    cases rx; cases rv
    cases h : Builtin.Str.occurrences a b 0 a.length 1 with
    | nil => rw [h] at p; exact p.elim
    | cons i r =>
      rw [h] at p
      exact ⟨_, _, i, r, rfl, rfl, h, p.val w (.int _)⟩
  · exact p.elim
end
theorem wq_indexL {x : D} {is : List Int} {i : Int} {j : Nat} {st : Sto} {Q : D → Sto → Prop} {E : Exn → Sto → Prop} (h : lstOf x st = some (is.map D.int)) (hj : is.findIdx? (fun k => decide (k = i)) = some j) (q : Q (.int (j : Nat)) st) : Wp (mIndexL x [.int i] st) Q E := by
  have h2 : ixInts (is.map D.int) = some is := by
    clear h hj
    induction is with
    | nil => rfl
    | cons i is ih => show (ixInts (is.map D.int)).map (i :: ·) = _; rw [ih]; rfl
  unfold mIndexL
  dsimp only
  rw [h]
  dsimp only
  rw [h2]
  dsimp only
  rw [hj]
  exact q
end DL

/-! DL23: a text in a dict of the module. -/
namespace DL
open PySem PySem.Spec PyProof.Rows L2
/-- what a dict of the module holds, and words that it does not -/
def TabHas (K : PySem.W.Frag) (w : World) (mg : Str → Option Value) (x : Str) (ys ns : List Str) : Prop :=
  ∃ a es n, mg x = some (.ref a) ∧ (a == sysModules) = false ∧ K.lookup a = some ⟨.type "dict", none, .dict es n, #[]⟩ ∧ PySem.W.KeysLit w.params es.toList ∧
    (∀ z ∈ ys, ∃ u, PySem.W.nsIn K a z = some (some u)) ∧ ∀ z ∈ ns, PySem.W.nsIn K a z = some none
def dInTab (ys ns : List Str) (te : DE) : DE := fun τ st => (te τ st).bind fun y st => match y with
  | .str x => if x ∈ ys then .ok (.bl true) st else if x ∈ ns then .ok (.bl false) st else .bad
  | _ => .bad
def rInK (K : PySem.W.Frag) (w : World) (p : Addr) : R2 := fun x y H Q => ∃ z r es n, x = .str z ∧ y = .ref p ∧ (p == sysModules) = false ∧ K.lookup p = some ⟨.type "dict", none, .dict es n, #[]⟩ ∧ PySem.W.KeysLit w.params es.toList ∧ PySem.W.nsIn K p z = some r ∧ Q (.bl r.isSome) H
section
variable {X : Cx} {cl : Cl} {W : WX} {x : Str} {p pos : Pos} {e : Expr} {te : DE} {ys ns : List Str}
theorem in_kdict {p : Addr} : OpR X (compareOp .In) (rInK X.K X.w p) := by
  intro pins s σ H x y v u Q I rx ry h
  obtain ⟨z, r, es, n, rfl, rfl, lo, hl, hk, e, q⟩ := h
  obtain rfl : u = Value.ref p := ry
  obtain ⟨t, rfl⟩ := rx
  refine wpAny_in_of (strKind_is X.prog X.w z t) lo (PySem.W.mapOf_K (prog := X.prog) (w := X.w) I.kIn hl hk) ?_
  rw [PySem.W.find_K hl e]
  exact ⟨.bl r.isSome, H, I.tok _, rfl, q⟩
theorem j_intab (hg : Gl X x) (T : TabHas X.K X.w X.mg x ys ns) (he : JE X cl W e te) (hd : (x == ("__debug__" : Str)) = false := by decide) (hm : behindInMarks .In (.Name x p) = false := by rfl) : JE X cl W (.Compare e [.In] [.Name x p] pos) (dInTab ys ns te) := by
  obtain ⟨a, es, n, hx, lo, hl, hk, hy, hn⟩ := T
  refine PE.mono (pe_cmpS (fun _ => in_kdict (p := a)) he (C8.pe_gc (v := .ref a) hg ⟨_, hx, rfl⟩ hd) hm) fun σ H Q ⟨as, st, τ, w, e, q⟩ => ?_
  refine ⟨as, st, τ, w, e, q.bind.mono fun d st1 as1 H1 e1 w1 p1 v rv => ?_⟩
  split at p1
  · rename_i z
    cases rv
    split at p1
    · rename_i hz
      obtain ⟨u, hu⟩ := hy z hz
      exact ⟨z, some u, es, n, rfl, rfl, lo, hl, hk, hu, p1.val w1 (.bl _)⟩
    · split at p1
      · rename_i hz
        exact ⟨z, none, es, n, rfl, rfl, lo, hl, hk, hn z hz, p1.val w1 (.bl _)⟩
      · exact p1.elim
  · exact p1.elim
theorem j_tintab (hg : Gl X x) (T : TabHas X.K X.w X.mg x ys ns) (he : JE X cl W e te) (hd : (x == ("__debug__" : Str)) = false := by decide) (hm : behindInMarks .In (.Name x p) = false := by rfl) : JT X cl W (.Compare e [.In] [.Name x p] pos) (dTst (dInTab ys ns te)) := by
  obtain ⟨a, es, n, hx, lo, hl, hk, hy, hn⟩ := T
  refine PT.mono (pt_cmpS (fun _ => in_kdict (p := a)) he (C8.pe_gc (v := .ref a) hg ⟨_, hx, rfl⟩ hd) hm) fun σ H Q ⟨as, st, τ, w, e, q⟩ => ?_
  show tOp _ _ _ σ H _
  refine ⟨as, st, τ, w, e, q.bind.bind.mono fun d st1 as1 H1 e1 w1 p1 v rv => ?_⟩
  cases d with
  | str z =>
    cases rv
    by_cases hz : z ∈ ys
    · obtain ⟨u, hu⟩ := hy z hz
      rw [show (match (D.str z) with | .str x => if x ∈ ys then DL.R.ok (.bl true) st1 else if x ∈ ns then .ok (.bl false) st1 else .bad | _ => .bad : DL.R D) = .ok (.bl true) st1 from if_pos hz] at p1
      exact ⟨z, some u, es, n, rfl, rfl, lo, hl, hk, hu, true, rfl, (show Post X.K cl (WE W σ) as1 H1 (R.ok true st1) _ from p1.here w1).here w1⟩
    · by_cases hz2 : z ∈ ns
      · rw [show (match (D.str z) with | .str x => if x ∈ ys then DL.R.ok (.bl true) st1 else if x ∈ ns then .ok (.bl false) st1 else .bad | _ => .bad : DL.R D) = .ok (.bl false) st1 from by show ite _ _ _ = _; rw [if_neg hz, if_pos hz2]] at p1
        exact ⟨z, none, es, n, rfl, rfl, lo, hl, hk, hn z hz2, false, rfl, (show Post X.K cl (WE W σ) as1 H1 (R.ok false st1) _ from p1.here w1).here w1⟩
      · rw [show (match (D.str z) with | .str x => if x ∈ ys then DL.R.ok (.bl true) st1 else if x ∈ ns then .ok (.bl false) st1 else .bad | _ => .bad : DL.R D) = .bad from by show ite _ _ _ = _; rw [if_neg hz, if_neg hz2]] at p1
        exact p1.elim
  | _ => exact p1.elim
end
end DL

/-! DL24: dicts of the store whose keys are tuples of ints and texts (the key's tuple may be a constant); walked while the store is hidden; sorted; a tuple times a number. -/
namespace DL
open PySem PySem.Spec PyProof.Rows L2
theorem dtO_at {P : Program} {w : World} {H : Hp} {h : Heap} {a b : Addr} {o : Obj} (x : ObjOk P w H h b (dtO a o)) : a = b ∧ h.get? a = some o := by
  obtain ⟨e, ⟨u, hu⟩, st⟩ := x
  refine ⟨?_, e⟩
  by_cases hab : a = b
  · exact hab
  · have q : (PySem.W.hideAll h [a]).get? a = some o := st h (PySem.W.hideAll h [a]) e fun v hv => PySem.W.hideAll_get [a] hv (by simpa using fun z => hab z.symm)
    rw [PySem.W.hideAll_none [a] (by simp)] at q
    cases q
theorem dtO_ok {P : Program} {w : World} {H : Hp} {h : Heap} {a : Addr} {o : Obj} (e : h.get? a = some o) : ObjOk P w H h a (dtO a o) :=
  ⟨e, ⟨o, e⟩, fun h1 h2 e1 k => k o e1⟩
/-- what stands at a: the dict with these entries -/
structure DTat (K : PySem.W.Frag) (w : World) (H : Hp) (a : Addr) (xs : List (List Key × Addr × Value)) : Prop where
  at' : ∃ a' o, H a = some (dtO a' o) ∧ DTok w a' o xs
  ks : ∀ x ∈ xs, SqT K H x.2.1 (x.1.map kV)
section
variable {X : Cx} {pins : List (Addr × Obj)} {σ : L2.St} {H : Hp} {s : Shared} {a : Addr} {y v : V} {u r : Value} {A : Around} {E : Value → Shared → Prop} {xs : List (List Key × Addr × Value)}
theorem keyT_of {ks : List Key} {b : Addr} (I : Inv X pins σ H s) (e : SqT X.K H b (ks.map kV)) : (tupleKind (mixKind X.prog X.w)).is s.heap ks b := by
  obtain ⟨its, r, ⟨o, h1, h2, n, h3⟩, _⟩ := I.tuple e
  exact ⟨o, its.toArray, n, h1, h2, h3, by simpa using items_are r⟩
theorem DTat.of (I : Inv X pins σ H s) (d : DTat X.K X.w H a xs) : ∃ o, H a = some (dtO a o) ∧ s.heap.get? a = some o ∧ DTok X.w a o xs ∧ s.heap.DictOfH (tupleKind (mixKind X.prog X.w)) a xs := by
  obtain ⟨a', o, h1, k⟩ := d.at'
  obtain ⟨rfl, h2⟩ := dtO_at (I.hok a _ h1)
  obtain ⟨es, ep, h3, h4⟩ := k.da
  exact ⟨o, h1, h2, k, o, es, ep, h2, k.ex, h3, h4, fun x hx => keyT_of I (d.ks x hx), k.nd⟩
theorem DTat.typeIs (I : Inv X pins σ H s) (d : DTat X.K X.w H a xs) : s.TypeIs (.ref a) "dict" := by
  obtain ⟨o, _, _, _, dd⟩ := d.of I
  exact dd.typeIs
theorem dx_getItem {k : List Key} {b : Addr} {Q : Value → Shared → Prop} (hu : A.units + 1 < cLine) (I : Inv X pins σ H s) (d : DTat X.K X.w H a xs) (eb : SqT X.K H b (k.map kV)) {p : Addr × Value} (hp : atKey xs k = some p)
    (h : ∀ s', Inv X pins σ H s' → Q p.2 s') : wpAny (model X.prog X.w) A (getItem (.ref a) (.ref b)) Q E s := by
  obtain ⟨o, _, _, _, dd⟩ := d.of I
  exact wpAny_getItem_heap (tupleKind_room_in1 hu) (keyT_of I eb) dd hp (h _ (I.tok _))
theorem dx_in {k : List Key} {b : Addr} {Q : Value → Shared → Prop} (hu : A.units + 1 < cLine) (I : Inv X pins σ H s) (d : DTat X.K X.w H a xs) (eb : SqT X.K H b (k.map kV))
    (h : ∀ s', Inv X pins σ H s' → Q (.bool (atKey xs k).isSome) s') : wpAny (model X.prog X.w) A (compareOp .In (.ref b) (.ref a)) Q E s := by
  obtain ⟨o, _, _, k, dd⟩ := d.of I
  exact wpAny_in_heap (tupleKind_room_in1 hu) (keyT_of I eb) k.lo dd (h _ (I.tok _))
theorem dx_notIn {k : List Key} {b : Addr} {Q : Value → Shared → Prop} (hu : A.units + 1 < cLine) (I : Inv X pins σ H s) (d : DTat X.K X.w H a xs) (eb : SqT X.K H b (k.map kV))
    (h : ∀ s', Inv X pins σ H s' → Q (.bool (!(atKey xs k).isSome)) s') : wpAny (model X.prog X.w) A (compareOp .NotIn (.ref b) (.ref a)) Q E s := by
  obtain ⟨o, _, _, k, dd⟩ := d.of I
  exact wpAny_notIn_heap (tupleKind_room_in1 hu) (keyT_of I eb) k.lo dd (h _ (I.tok _))
theorem dx_setItem {k : List Key} {b : Addr} {Q : Unit → Shared → Prop} (hu : A.units + 1 < cLine) (I : Inv X pins σ H s) (d : DTat X.K X.w H a xs) (eb : SqT X.K H b (k.map kV)) (hl : xs.length < sizeLine)
    (h : ∀ o' s', DTok X.w a o' (storedH xs k b r) → Inv X pins σ (upd H a (dtO a o')) s' → Q () s') : wpAny (model X.prog X.w) A (setItem (.ref a) (.ref b) r) Q E s := by
  obtain ⟨o, hH, hg, ok, dd⟩ := d.of I
  refine wpAny_setItem_heap (hsz := by omega) (tupleKind_room_in1 hu) (keyT_of I eb) dd fun h' dd' hs => ?_
  obtain ⟨q, es, ep, hq, h2, h3, h4, _, h5⟩ := dd'
  have hz : (storedH xs k b r).length ≤ sizeLine := by
    unfold storedH
    split
    · rw [List.length_map]; omega
    · rw [List.length_append]; simp; omega
  exact h q _ ⟨ok.lo, h2, ⟨es, ep, h3, h4⟩, h5, hz⟩ (d_write I (by rw [hH]; exact True.intro) hs ⟨q, hq⟩ (dtO_ok hq))
end
section
variable {X : Cx} {o i e value : Expr} {pos pos' tpos : Pos} {td ty tv : TE}
theorem pe_dgetX (hu : X.A.units + 1 < cLine) (ho : PE X o td) (hi : PE X i ty) (hs : NoSl i) : PE X (.Subscript o i pos) (fun σ H Q => td σ H fun x H1 => ty σ H1 fun y H2 => ∃ a b xs k p v, x = .ref a ∧ y = .ref b ∧ DTat X.K X.w H2 a xs ∧ SqT X.K H2 b (k.map kV) ∧ atKey xs k = some p ∧ RelV v p.2 ∧ Q v H2) := by
  refine ⟨fun pins s σ H Q I h => ?_⟩
  refine subD_of PySem.F.slot_dict_getitem.lookup hs (thn (ho.run pins s σ H _ I h) fun u s1 ⟨x, H1, I1, rx, q1⟩ => thn (hi.run pins s1 σ H1 _ I1 q1) fun iv s2 ⟨y, H2, I2, ry, a, b, xs, k, p, v, ex, ey, d, eb, hp, rv, q2⟩ => ?_)
  subst ex ey
  obtain rfl : u = Value.ref a := rx
  obtain rfl : iv = Value.ref b := ry
  exact ⟨d.typeIs I2, dx_getItem hu I2 d eb hp fun s3 I3 => ⟨v, H2, I3, rv, q2⟩⟩
theorem pc_dinX (hu : X.A.units + 1 < cLine) (hi : PE X i ty) (ho : PE X o td) : PC X .In i o (fun σ H Q => ty σ H fun y H1 => td σ H1 fun x H2 => ∃ a b xs k, x = .ref a ∧ y = .ref b ∧ DTat X.K X.w H2 a xs ∧ SqT X.K H2 b (k.map kV) ∧ Q (.bl (atKey xs k).isSome) H2) := by
  refine ⟨fun pins s σ H Q I h => ?_⟩
  refine thn (hi.run pins s σ H _ I h) fun iv s1 ⟨y, H1, I1, ry, q1⟩ => thn (ho.run pins s1 σ H1 _ I1 q1) fun u s2 ⟨x, H2, I2, rx, a, b, xs, k, ex, ey, d, eb, q2⟩ => ?_
  subst ex ey
  obtain rfl : u = Value.ref a := rx
  obtain rfl : iv = Value.ref b := ry
  exact dx_in hu I2 d eb fun s3 I3 => ⟨.bl _, H2, I3, rfl, q2⟩
theorem pc_dnotinX (hu : X.A.units + 1 < cLine) (hi : PE X i ty) (ho : PE X o td) : PC X .NotIn i o (fun σ H Q => ty σ H fun y H1 => td σ H1 fun x H2 => ∃ a b xs k, x = .ref a ∧ y = .ref b ∧ DTat X.K X.w H2 a xs ∧ SqT X.K H2 b (k.map kV) ∧ Q (.bl (!(atKey xs k).isSome)) H2) := by
  refine ⟨fun pins s σ H Q I h => ?_⟩
  refine thn (hi.run pins s σ H _ I h) fun iv s1 ⟨y, H1, I1, ry, q1⟩ => thn (ho.run pins s1 σ H1 _ I1 q1) fun u s2 ⟨x, H2, I2, rx, a, b, xs, k, ex, ey, d, eb, q2⟩ => ?_
  subst ex ey
  obtain rfl : u = Value.ref a := rx
  obtain rfl : iv = Value.ref b := ry
  exact dx_notIn hu I2 d eb fun s3 I3 => ⟨.bl _, H2, I3, rfl, q2⟩
theorem ps_dputX (hu : X.A.units + 1 < cLine) (ho : PE X o td) (hi : PE X i ty) (hv : PE X value tv) (hs : swapsWith value (some (.Subscript o i pos')) pos.line X.env = pure false) :
    PS X (.Assign [.Subscript o i pos'] value pos) (fun D σ H => tv σ H fun v H1 => td σ H1 fun x H2 => ty σ H2 fun y H3 => ∃ a b xs k, x = .ref a ∧ y = .ref b ∧ DTat X.K X.w H3 a xs ∧ SqT X.K H3 b (k.map kV) ∧ xs.length < sizeLine ∧
      ∀ o' u, RelV v u → DTok X.w a o' (storedH xs k b u) → D.nx σ (upd H3 a (dtO a o'))) := by
  refine ⟨fun pins s σ H D I h => ?_⟩
  refine wpAny_Assign_Subscript (thn (hv.run pins s σ H _ I h) fun r s1 ⟨v, H1, I1, rv, q1⟩ => thn (ho.run pins s1 σ H1 _ I1 q1) fun u s2 ⟨x, H2, I2, rx, q2⟩ => thn (hi.run pins s2 σ H2 _ I2 q2) fun iv s3 ⟨y, H3, I3, ry, a, b, xs, k, ex, ey, d, eb, hl, q3⟩ => ?_) hs
  subst ex ey
  obtain rfl : u = Value.ref a := rx
  obtain rfl : iv = Value.ref b := ry
  exact dx_setItem hu I3 d eb hl fun o' s4 ok I4 => ⟨σ, _, I4, q3 o' r rv ok⟩
theorem pe_dnewX : PE X (.Dict [] [] pos) (fun _ H Q => ∀ p o, H p = none → DTok X.w p o [] → Q (.ref p) (upd H p (dtO p o))) := ⟨fun pins s σ H Q I h => by
  have hb : sysModules < s.heap.objs.size := I.big
  exact wpAny_Dict_empty ⟨.ref s.heap.objs.size, _, I.laid (a := s.heap.objs.size) (o := dtO s.heap.objs.size { cls := .type "dict", data := .dict #[] }) (t' := s.toks) (fun _ _ q => Heap.get?_push_of_some _ q) (Nat.le_refl _) (dtO_ok (Heap.get?_push_size _ rfl)), rfl,
    h _ _ (I.hok.fresh (Nat.le_refl _)) ⟨beq_eq_false_iff_ne.mpr (Ne.symm (Nat.ne_of_lt hb)), ⟨rfl, rfl, rfl⟩, ⟨#[], 0, rfl, rfl⟩, List.nodup_nil, Nat.zero_le _⟩⟩⟩
end
/-! ### the plain side -/
def keyTD (k : List Key) : D := .tup (k.map keyD)
def keysOf : List D → Option (List Key)
  | [] => some []
  | d :: ds => match keyOf d, keysOf ds with
    | some k, some ks => some (k :: ks)
    | _, _ => none
def keyT : D → Option (List Key)
  | .tup ds => keysOf ds
  | _ => none
def tabOf (x : D) (st : Sto) : Option (List (List Key × D)) := match x with
  | .ref n => match st[n]? with
    | some (.dT kvs) => some kvs
    | _ => none
  | _ => none
def dGetT : D2 := fun x y st => match tabOf x st, keyT y with
  | some kvs, some k => (match valD kvs k with
    | some d => .ok d st
    | none => .bad)
  | _, _ => .bad
def dInT (neg : Bool) : D2 := fun y x st => match tabOf x st, keyT y with
  | some kvs, some k => .ok (.bl (neg ^^ (valD kvs k).isSome)) st
  | _, _ => .bad
def sPutT (x y v : D) (τ : En) (st : Sto) : R (Fl × En) := match x, keyT y with
  | .ref n, some k => match st[n]? with
    | some (.dT kvs) => if kvs.length < sizeLine then .ok (.nx, τ) (st.set n (.dT (putD kvs k v))) else .bad
    | _ => .bad
  | _, _ => .bad
def dPutT (td ty tv : DE) : DS := fun τ st => (tv τ st).stm τ fun v st => (td τ st).stm τ fun x st => (ty τ st).stm τ fun y st => sPutT x y v τ st
def dDispT : DE := fun _ st => .ok (.ref st.length) (st ++ [.dT []])
section
variable {K : PySem.W.Frag} {as : Mp} {H : Hp}
theorem keysOf_ok : ∀ {ds : List D} {ks : List Key} {xs : List V}, keysOf ds = some ks → Reps K as H ds xs → xs = ks.map kV
  | [], _, _, h, .nil => by cases h; rfl
  | d :: ds, _, _, h, .cons r t => by
    unfold keysOf at h
    split at h
    · rename_i k ks h1 h2
      cases h
      rw [List.map_cons, keyOf_ok r h1, keysOf_ok h2 t]
    · cases h
theorem keyT_ok {d : D} {k : List Key} {v : V} (r : Rep K as H d v) (h : keyT d = some k) : ∃ b, v = .ref b ∧ StT K as H b (k.map kV) := by
  cases r with
  | tup s rs => exact ⟨_, rfl, by rw [← keysOf_ok h rs]; exact s⟩
  | _ => cases h
theorem keyTD_rep {k : List Key} {b : Addr} (s : StT K as H b (k.map kV)) : Rep K as H (keyTD k) (.ref b) := by
  refine .tup s ?_
  clear s
  induction k with
  | nil => exact .nil
  | cons k ks ih => exact .cons (keyD_rep k) ih
theorem RepT.len : ∀ {kvs : List (List Key × D)} {xs : List (List Key × Addr × Value)}, RepT K as H kvs xs → kvs.length = xs.length
  | _, _, .nil => rfl
  | _, _, .cons _ _ _ t => by rw [List.length_cons, List.length_cons, RepT.len t]
theorem RepT.keys : ∀ {kvs : List (List Key × D)} {xs : List (List Key × Addr × Value)}, RepT K as H kvs xs → xs.map (·.1) = kvs.map (·.1)
  | _, _, .nil => rfl
  | _, _, .cons _ _ _ t => by rw [List.map_cons, List.map_cons, RepT.keys t]
theorem RepT.ks : ∀ {kvs : List (List Key × D)} {xs : List (List Key × Addr × Value)}, RepT K as H kvs xs → ∀ x ∈ xs, StT K as H x.2.1 (x.1.map kV)
  | _, _, .nil, _, h => (List.not_mem_nil h).elim
  | _, _, .cons s _ _ t, x, h => by
    rcases List.mem_cons.mp h with rfl | h
    · exact s
    · exact RepT.ks t x h
theorem RepT.val {k : List Key} : ∀ {kvs : List (List Key × D)} {xs : List (List Key × Addr × Value)}, RepT K as H kvs xs →
    (valD kvs k = none ∧ atKey xs k = none) ∨ ∃ d p v, valD kvs k = some d ∧ atKey xs k = some p ∧ RelV v p.2 ∧ Rep K as H d v
  | _, _, .nil => .inl ⟨rfl, rfl⟩
  | _, _, .cons (k := k') (b := b) (u := u) (xs := xs) s r q t => by
    unfold valD
    by_cases e : k' = k
    · rw [if_pos e]
      exact .inr ⟨_, (b, u), _, rfl, by simp [atKey, List.find?_cons, e], q, r⟩
    · rw [if_neg e]
      have h : atKey ((k', b, u) :: xs) k = atKey xs k := by simp [atKey, List.find?_cons, e]
      rw [h]
      exact RepT.val t
theorem RepT.append : ∀ {kvs kvs' : List (List Key × D)} {xs xs' : List (List Key × Addr × Value)}, RepT K as H kvs xs → RepT K as H kvs' xs' → RepT K as H (kvs ++ kvs') (xs ++ xs')
  | _, _, _, _, .nil, s => s
  | _, _, _, _, .cons s r q t, z => .cons s r q (RepT.append t z)
theorem RepT.repl {k : List Key} {d : D} {v : V} {u : Value} (rd : Rep K as H d v) (rv : RelV v u) : ∀ {kvs : List (List Key × D)} {xs : List (List Key × Addr × Value)}, RepT K as H kvs xs → RepT K as H (setD kvs k d) (xs.map (putAt k u))
  | _, _, .nil => .nil
  | _, _, .cons (k := k') s r q t => by
    unfold setD
    rw [List.map_cons]
    unfold putAt
    by_cases e : k' = k
    · rw [if_pos e, if_pos e]; exact .cons s rd rv (RepT.repl rd rv t)
    · rw [if_neg e, if_neg e]; exact .cons s r q (RepT.repl rd rv t)
theorem RepT.put {k : List Key} {d : D} {v : V} {u : Value} {b : Addr} {kvs : List (List Key × D)} {xs : List (List Key × Addr × Value)} (t : RepT K as H kvs xs) (sb : StT K as H b (k.map kV)) (rd : Rep K as H d v) (rv : RelV v u) :
    RepT K as H (putD kvs k d) (storedH xs k b u) := by
  unfold putD storedH
  rcases t.val (k := k) with ⟨h1, h2⟩ | ⟨d', p, v', h1, h2, _⟩
  · rw [h1, h2]; exact t.append (.cons sb rd rv .nil)
  · rw [h1, h2]; exact t.repl rd rv
end
theorem Wd.dat {K : PySem.W.Frag} {cl : Cl} {as : Mp} {st : Sto} {H : Hp} {w : World} (hw : cl.w = w) (wd : Wd K cl as st H) {d : D} {v : V} {kvs : List (List Key × D)} (r : Rep K as H d v) (h : tabOf d st = some kvs) :
    ∃ a n xs, v = .ref a ∧ d = .ref n ∧ as.m[n]? = some a ∧ st[n]? = some (.dT kvs) ∧ DTat K w H a xs ∧ RepT K as H kvs xs := by
  cases r with
  | @ref n a ha =>
    have h : (match st[n]? with | some (.dT kvs) => some kvs | _ => none) = some kvs := h
    split at h
    · rename_i kvs' hs
      cases h
      obtain ⟨a', o, xs, h1, k, t⟩ := wd.dT ha hs
      subst hw
      exact ⟨a, n, xs, rfl, rfl, ha, hs, ⟨⟨a', o, h1, k⟩, fun x hx => (t.ks x hx).t⟩, t⟩
    · cases h
  | _ => cases h
theorem keyT_reps {K : PySem.W.Frag} {as : Mp} {H : Hp} : ∀ {kvs : List (List Key × D)} {xs : List (List Key × Addr × Value)}, RepT K as H kvs xs → Reps K as H (kvs.map fun kv => keyTD kv.1) (xs.map fun x => V.ref x.2.1)
  | _, _, .nil => .nil
  | _, _, .cons s _ _ t => .cons (keyTD_rep s) (keyT_reps t)
section
variable {X : Cx} {cl : Cl} {W : WX} {pos pos' tpos : Pos} {o i value : Expr} {td ty tv : DE}
theorem j_dgetT (hw : cl.w = X.w) (hu : X.A.units + 1 < cLine) (ho : JE X cl W o td) (hi : JE X cl W i ty) (hs : NoSl i := by intro _ _; rfl) : JE X cl W (.Subscript o i pos) (dBin dGetT td ty) := by
  refine PE.mono (pe_dgetX hu ho hi hs) fun σ H Q ⟨as, st, τ, w, e, p⟩ => ⟨as, st, τ, w, e, p.bind.mono fun d st1 as1 H1 e1 w1 p1 x rx => ⟨as1, st1, τ, w1, e.evo e1, p1.bind.mono fun y st2 as2 H2 e2 w2 p2 yv ry => ?_⟩⟩
  unfold dGetT at p2
  cases h1 : tabOf d st2 with
  | none => rw [h1] at p2; exact p2.elim
  | some kvs =>
    cases h2 : keyT y with
    | none => rw [h1, h2] at p2; exact p2.elim
    | some k =>
      rw [h1, h2] at p2
      dsimp only at p2
      obtain ⟨a, n, xs, rfl, rfl, ha, hn, dt, rt⟩ := Wd.dat hw w2 (rx.evo e2) h1
      obtain ⟨b, rfl, sb⟩ := keyT_ok ry h2
      rcases rt.val (k := k) with ⟨h3, _⟩ | ⟨d', p', v', h3, h4, rv, r'⟩
      · rw [h3] at p2; exact p2.elim
      · rw [h3] at p2
        exact ⟨a, b, xs, k, p', v', rfl, rfl, dt, sb.t, h4, rv, p2.val w2 r'⟩
theorem dInT_ok (hw : cl.w = X.w) {E : XK} {as : Mp} {st : Sto} {H : Hp} {x y : V} {dx dy : D} {Q : VK} {neg : Bool} (w : Wd X.K cl as st H) (ry : Rep X.K as H dy y) (rx : Rep X.K as H dx x) (p : Post X.K cl E as H (dInT neg dy dx st) (QV X.K Q)) :
    ∃ a b xs k, x = .ref a ∧ y = .ref b ∧ DTat X.K X.w H a xs ∧ SqT X.K H b (k.map kV) ∧ Q (.bl (neg ^^ (atKey xs k).isSome)) H := by
  unfold dInT at p
  cases h1 : tabOf dx st with
  | none => rw [h1] at p; exact p.elim
  | some kvs =>
    cases h2 : keyT dy with
    | none => rw [h1, h2] at p; exact p.elim
    | some k =>
      rw [h1, h2] at p
      dsimp only at p
      obtain ⟨a, n, xs, rfl, rfl, ha, hn, dt, rt⟩ := Wd.dat hw w rx h1
      obtain ⟨b, rfl, sb⟩ := keyT_ok ry h2
      refine ⟨a, b, xs, k, rfl, rfl, dt, sb.t, ?_⟩
      rcases rt.val (k := k) with ⟨h3, h4⟩ | ⟨d', p', v', h3, h4, _⟩
      · rw [h3] at p; rw [h4]; exact p.val w (.bl _)
      · rw [h3] at p; rw [h4]; exact p.val w (.bl _)
theorem lift_dinT (hw : cl.w = X.w) {neg : Bool} {σ : L2.St} {H : Hp} {Q : VK} (h : lift X.K cl W (dBin (dInT neg) ty td) σ H Q) :
    lift X.K cl W ty σ H fun y H1 => lift X.K cl W td σ H1 fun x H2 => ∃ a b xs k, x = .ref a ∧ y = .ref b ∧ DTat X.K X.w H2 a xs ∧ SqT X.K H2 b (k.map kV) ∧ Q (.bl (neg ^^ (atKey xs k).isSome)) H2 := by
  obtain ⟨as, st, τ, w, e, p⟩ := h
  exact ⟨as, st, τ, w, e, p.bind.mono fun d st1 as1 H1 e1 w1 p1 x rx => ⟨as1, st1, τ, w1, e.evo e1, p1.bind.mono fun y st2 as2 H2 e2 w2 p2 yv ry => dInT_ok hw w2 (rx.evo e2) ry p2⟩⟩
theorem j_dinT (hw : cl.w = X.w) (hu : X.A.units + 1 < cLine) (hi : JE X cl W i ty) (ho : JE X cl W o td) (hm : behindInMarks .In o = false := by rfl) : JE X cl W (.Compare i [.In] [o] pos) (dBin (dInT false) ty td) :=
  PE.mono (pe_cmp (pc_dinX hu hi ho) hm) fun _ _ _ h => by
    have h := lift_dinT hw h
    simp only [Bool.false_xor] at h
    exact h
theorem j_dnotinT (hw : cl.w = X.w) (hu : X.A.units + 1 < cLine) (hi : JE X cl W i ty) (ho : JE X cl W o td) (hm : behindInMarks .NotIn o = false := by rfl) : JE X cl W (.Compare i [.NotIn] [o] pos) (dBin (dInT true) ty td) :=
  PE.mono (pe_cmp (pc_dnotinX hu hi ho) hm) fun _ _ _ h => by
    have h := lift_dinT hw h
    simp only [Bool.true_xor] at h
    exact h
theorem j_tdinT (hw : cl.w = X.w) (hu : X.A.units + 1 < cLine) (hi : JE X cl W i ty) (ho : JE X cl W o td) (hm : behindInMarks .In o = false := by rfl) : JT X cl W (.Compare i [.In] [o] pos) (dTst (dBin (dInT false) ty td)) :=
  PT.mono (pt_cmp (pc_dinX hu hi ho) hm) fun _ _ _ h => by
    have h := lift_dinT hw (lift_tst h)
    simp only [Bool.false_xor] at h
    exact h
theorem j_tdnotinT (hw : cl.w = X.w) (hu : X.A.units + 1 < cLine) (hi : JE X cl W i ty) (ho : JE X cl W o td) (hm : behindInMarks .NotIn o = false := by rfl) : JT X cl W (.Compare i [.NotIn] [o] pos) (dTst (dBin (dInT true) ty td)) :=
  PT.mono (pt_cmp (pc_dnotinX hu hi ho) hm) fun _ _ _ h => by
    have h := lift_dinT hw (lift_tst h)
    simp only [Bool.true_xor] at h
    exact h
theorem js_dputT (hw : cl.w = X.w) (hu : X.A.units + 1 < cLine) (ho : JE X cl W o td) (hi : JE X cl W i ty) (hv : JE X cl W value tv) (hs : swapsWith value (some (.Subscript o i pos')) pos.line X.env = pure false := by rfl) :
    JS X cl W (.Assign [.Subscript o i pos'] value pos) (dPutT td ty tv) := by
  refine PS.mono (ps_dputX hu ho hi hv hs) fun M σ H ⟨as, st, τ, w, e, p⟩ => ⟨as, st, τ, w, e, (Post.stm e p).mono fun d st1 as1 H1 e1 w1 p1 v rv => ?_⟩
  refine ⟨as1, st1, τ, w1, e.evo e1, (Post.stm (e.evo e1) p1).mono fun d2 st2 as2 H2 e2 w2 p2 x rx => ?_⟩
  refine ⟨as2, st2, τ, w2, (e.evo e1).evo e2, (Post.stm ((e.evo e1).evo e2) p2).mono fun d3 st3 as3 H3 e3 w3 p3 y ry => ?_⟩
  have rx3 := rx.evo e3
  unfold sPutT at p3
  split at p3
  · rename_i n k hk
    split at p3
    · rename_i kvs hn
      split at p3
      · rename_i hl
        obtain ⟨a, n', xs, rfl, hnn, ha, _, dt, rt⟩ := Wd.dat hw w3 rx3 (show tabOf (.ref n) st3 = some kvs by show (match st3[n]? with | some (.dT kvs) => some kvs | _ => none) = _; rw [hn])
        cases hnn
        obtain ⟨b, rfl, sb⟩ := keyT_ok ry hk
        refine ⟨a, b, xs, k, rfl, rfl, dt, sb.t, by rw [← rt.len]; exact hl, fun o' u ru ok => ?_⟩
        have rp : RepO X.K cl as3 H3 (.dT (putD kvs k d)) (dtO a o') := .dT (by rw [hw]; exact ok) (rt.put sb ((rv.evo e2).evo e3) ru)
        exact p3.ok (Evo.wr w3 ha) (w3.wr ha rp) σ ((((e.evo e1).evo e2).evo e3).evo (Evo.wr w3 ha))
      · exact p3.elim
    · exact p3.elim
  · exact p3.elim
theorem j_dispT (hw : cl.w = X.w) : JE X cl W (.Dict [] [] pos) dDispT := PE.mono pe_dnewX fun σ H Q ⟨as, st, τ, w, e, p⟩ a o ha ok => p _ _ (Evo.push w ha) (w.push ha (.dT (by rw [hw]; exact ok) .nil)) _ (Rep.newRef w)
end
end DL

/-! DL25: a dict with tuple keys walked while all else of the store is hidden; sorted; a tuple times a number. -/
namespace DL
open PySem PySem.Spec PyProof.Rows L2
/-- the keys of the dict at d, in their order: the object stays as it is -/
def Itx (d : Addr) (o : Obj) (xs : List (List Key × Addr × Value)) : It :=
  ⟨fun i H => H d = some (dtO d o) ∧ i < xs.length, fun i H x H' => H' = H ∧ ∃ (k : List Key) (b : Addr) (u : Value), xs[i]? = some (k, b, u) ∧ x = .ref b, fun i H => H d = some (dtO d o) ∧ xs.length ≤ i⟩
theorem ent_get {w : World} {es : Array DictEntry} {xs : List (List Key × Addr × Value)} (h : es.toList = xs.map (entT w)) {i : Nat} {x : List Key × Addr × Value} (hx : xs[i]? = some x) : es[i]? = some (entT w x) := by
  rw [← Array.getElem?_toList, h, List.getElem?_map, hx]; rfl
theorem ent_size {w : World} {es : Array DictEntry} {xs : List (List Key × Addr × Value)} (h : es.toList = xs.map (entT w)) : es.size = xs.length := by
  rw [← Array.length_toList, h, List.length_map]
section
variable {P : Program} {w w' : World} {K : PySem.W.Frag} {tg : Expr} {d : Addr} {o : Obj} {es : Array DictEntry} {ep : Nat} {xs : List (List Key × Addr × Value)}
theorem turn_keysX (it : Addr) (ok : DTok w' d o xs) (hod : o.data = .dict es ep) (hes : es.toList = xs.map (entT w')) : Turn P w K tg (Itx d o xs) [it] it (fun i h => h.IsKeyIter it d i xs.length ep) where
  mem := by simp
  obj := fun i h st b hb => by
    have e : b = it := by simpa using hb
    subst e
    obtain ⟨oi, e, c, dd⟩ := st
    exact ⟨oi, e, fun v z => by rw [dd] at z; cases z⟩
  keep := fun i h h' st k => st.at fun oi e => k it (by simp) oi e
  item := by
    intro X hP hw hK hc i pins s σ H E I hf st hg
    subst hP hw hK
    obtain ⟨hd, hi⟩ := hg
    obtain ⟨f0, f1, f2, f3, f4, f5⟩ := hf it (by simp)
    obtain ⟨_, hgd⟩ := dtO_at (I.hok d _ hd)
    obtain ⟨⟨k, b, u⟩, hkv⟩ : ∃ p, xs[i]? = some p := ⟨xs[i], List.getElem?_eq_getElem hi⟩
    have hsz := ent_size hes
    refine next_key_item st hgd hod hsz (ent_get hes hkv) fun h' st' sb => ?_
    have I1 : Inv X pins σ H { s with heap := h' } := I.turned (t' := s.toks) (fun b ob hb e => (sb.2 b hb).trans e) f0 f1 f3 f4 f5
    obtain ⟨oi, e, c, dd⟩ := id st'
    exact ⟨.ref b, rfl, go_of (s := { s with heap := h' }) e c dd (by decide) ⟨.ref b, H, I1, rfl, ⟨rfl, k, b, u, hkv, rfl⟩, st', fun b hb => (hf b hb).1⟩⟩
  done := by
    intro X hP hw hK hc i pins s σ H E I hf st hg
    subst hP hw hK
    obtain ⟨hd, hi⟩ := hg
    obtain ⟨f0, f1, f2, f3, f4, f5⟩ := hf it (by simp)
    obtain ⟨_, hgd⟩ := dtO_at (I.hok d _ hd)
    exact next_key_end (I.ok.hd hc) st hgd hod (ent_size hes) hi fun h' eb => ⟨rfl, I.turned (t' := s.toks) (fun b ob hb e => eb b ob hb e) f0 f1 f3 f4 f5⟩
  self := fun A i s Q E st h => by
    refine wpAny_pyIter_slot st.typeIs F.slot_dict_keyiterator_iter (wpAny_call_entry F.slot_dict_keyiterator_iter st.typeIs F.entry_dict_keyiterator_iter ?_ (F.args_dict_keyiterator_iter_1 _))
    show wpAny _ _ (ret (.ref it)) _ _ s
    exact wpAny_pure ⟨_, rfl, "dict_keyiterator", _, st.typeIs, F.slot_dict_keyiterator_next.lookup, h⟩
end
section
variable {X : Cx} {tg e : Expr} {td : TE}
theorem pi_keysX (he : PE X e td) : PI X tg e (fun σ H R => td σ H fun x H1 => ∃ d xs, x = .ref d ∧ DTat X.K X.w H1 d xs ∧ ∀ o, H1 d = some (dtO d o) → R (Itx d o xs) H1) := by
  refine ⟨fun pins s σ H R I h => ?_⟩
  refine thn (he.run pins s σ H _ I h) fun u s1 ⟨x, H1, I1, rx, d, xs, ex, dt, q⟩ => ?_
  subst ex
  obtain rfl : u = Value.ref d := rx
  obtain ⟨o, hH, hgd, ok, dd⟩ := dt.of I1
  obtain ⟨es, ep, hdt, hes⟩ := ok.da
  refine iter_keys ok.lo hgd ok.ex hdt (pi_one (tk := s1.toks) I1 _ (turn_keysX _ ok hdt hes) ⟨_, Heap.get?_push_size _ rfl, rfl, ?_⟩ (q o hH))
  rw [ent_size hes] <;> rfl
end
/-! ### all else hidden -/
/-- no reference to the store -/
def wfE (τ : En) : Bool := τ.all fun o => match o with
  | some d => d.wf 0
  | none => true
section
variable {K : PySem.W.Frag} {as as' : Mp} {H : Hp}
/-- what is outside of as is outside of as', but things of another kind -/
def Outs (as as' : Mp) (H : Hp) : Prop := ∀ a, a ∉ as → (∀ φ, H a ≠ some (.ext φ)) → a ∉ as'
theorem StT.outs (c : Outs as as' H) {a : Addr} {xs : List V} (h : StT K as H a xs) : StT K as' H a xs := h.imp (fun z => ⟨c a z.1 (fun φ e => by rw [z.2] at e; cases e), z.2⟩) id
theorem StF.outs (c : Outs as as' H) {a : Addr} {xs : List V} (h : StF K as H a xs) : StF K as' H a xs := h.imp (fun ⟨n, o, z⟩ => ⟨c a n (fun φ e => by rw [z] at e; cases e), o, z⟩) id
mutual
theorem Rep.outs (c : Outs as as' H) : ∀ {d : D} {v : V}, Rep K as H d v → d.wf 0 = true → Rep K as' H d v
  | _, _, .non, _ => .non
  | _, _, .bl b, _ => .bl b
  | _, _, .int i, _ => .int i
  | _, _, .str x, _ => .str x
  | _, _, .tup s r, h => .tup (s.outs c) (Reps.outs c r h)
  | _, _, .lst m q r, h => .lst (c _ m (fun φ e => by rw [q] at e; cases e)) q (Reps.outs c r h)
  | _, _, .fro s r, h => .fro (s.outs c) (Reps.outs c r h)
  | _, _, .dic m q r, h => .dic (c _ m (fun φ e => by rw [q] at e; cases e)) q (RepK.outs c r h)
  | _, _, .ref (n := n) q, h => absurd (show n < 0 from of_decide_eq_true h) (Nat.not_lt_zero _)
  | _, _, .raw v, _ => .raw v
theorem Reps.outs (c : Outs as as' H) : ∀ {ds : List D} {vs : List V}, Reps K as H ds vs → wfs 0 ds = true → Reps K as' H ds vs
  | _, _, .nil, _ => .nil
  | _, _, .cons r t, h => by
    unfold wfs at h
    rw [Bool.and_eq_true_iff] at h
    exact .cons (Rep.outs c r h.1) (Reps.outs c t h.2)
theorem RepK.outs (c : Outs as as' H) : ∀ {ds : List (Key × D)} {vs : List (Key × V)}, RepK K as H ds vs → wfk 0 ds = true → RepK K as' H ds vs
  | _, _, .nil, _ => .nil
  | _, _, .cons r t, h => by
    unfold wfk at h
    rw [Bool.and_eq_true_iff] at h
    exact .cons (Rep.outs c r h.1) (RepK.outs c t h.2)
end
theorem RepE.outs (c : Outs as as' H) {τ : En} {σ : L2.St} (e : RepE K as H τ σ) (i : Nat) (h : wfE (τ.set i none) = true) : RepE K as' H (τ.set i none) σ := by
  refine ⟨by rw [List.length_set]; exact e.len, fun j d hj => ?_⟩
  have hji : j ≠ i := by
    rintro rfl
    by_cases hl : j < τ.length
    · rw [List.getElem?_set_self hl] at hj; cases hj
    · rw [List.getElem?_eq_none (by simpa using hl)] at hj; cases hj
  have hd : d.wf 0 = true := by
    have := List.all_eq_true.mp h (some d) (List.mem_of_getElem? hj)
    exact this
  rw [List.getElem?_set_ne (Ne.symm hji)] at hj
  obtain ⟨v, h1, h2⟩ := e.get j d hj
  exact ⟨v, h1, h2.outs c hd⟩
end
/-- as, with all of the store hidden but what stands at d, which nobody changes -/
def Mp.but (as : Mp) (d : Addr) : Mp := ⟨[], as.m.filter (fun a => decide (a ≠ d)) ++ as.x⟩
theorem Mp.mem_but {as : Mp} {d a : Addr} : a ∈ as.but d ↔ (a ∈ as.m ∧ a ≠ d) ∨ a ∈ as.x := by
  show a ∈ (as.but d).m ∨ a ∈ (as.but d).x ↔ _
  unfold Mp.but
  simp
section
variable {K : PySem.W.Frag} {cl : Cl} {as : Mp} {st : Sto} {H : Hp} {d : Addr}
theorem Wd.but (w : Wd K cl as st H) (d : Addr) : Wd K cl (as.but d) [] H :=
  ⟨rfl, List.nodup_nil, (fun a z => by cases z), (fun a z => by
    rcases List.mem_append.mp (show a ∈ as.m.filter (fun a => decide (a ≠ d)) ++ as.x from z) with z | z
    · exact w.has (.inl (List.mem_filter.mp z).1)
    · exact w.lv a z), fun n o z => by simp at z⟩
theorem outs_in (w : Wd K cl as st H) (d : Addr) : Outs as (as.but d) H := fun a n _ z => by
  rcases Mp.mem_but.mp z with ⟨z, _⟩ | z
  · exact n (.inl z)
  · exact n (.inr z)
end
/-- the comprehension over the dict in slot i, its store put aside -/
def dCompP (i : Nat) (tg : Tgt) (tt : DT) (te : DE) (vs : List Nat) : DE := fun τ st => match τ[i]? with
  | some (some x) => (match tabOf x st with
    | some kvs => if wfE (τ.set i none) = true then (match compL tg tt te (wipeD (τ.set i none) vs) (kvs.map fun kv => keyTD kv.1) [] [] with
      | .ok out [] => if wfs 0 out = true then .ok (.lst out) st else .bad
      | _ => .bad) else .bad
    | none => .bad)
  | _ => .bad
section
variable {X : Cx} {cl : Cl} {W : WX}
theorem lift_compP (hw : cl.w = X.w) {i : Nat} {tg : Tgt} {tt : DT} {te : DE} {vs : List Nat} (hv : ∀ i ∈ tg.names, i ∈ vs) {σ : L2.St} {H : Hp} {Q : VK} (h : lift X.K cl W (dCompP i tg tt te vs) σ H Q) :
    tLc (fun σ H R => (tVar i) σ H fun x H1 => ∃ d xs, x = .ref d ∧ DTat X.K X.w H1 d xs ∧ ∀ o, H1 d = some (dtO d o) → R (Itx d o xs) H1) (tg.raw X.K) (liftT X.K cl W0 tt) (lift X.K cl W0 te) vs σ H Q := by
  obtain ⟨as, st, τ, w, e, p⟩ := h
  unfold dCompP at p
  split at p
  · rename_i x hx
    split at p
    · rename_i kvs hk
      split at p
      · rename_i hwf
        split at p
        · rename_i out hc
          split at p
          · rename_i hout
            obtain ⟨v, hv1, rv⟩ := e.get i x hx
            obtain ⟨a, n, xs, rfl, rfl, ha, hn, dt, rt⟩ := Wd.dat hw w rv hk
            refine ⟨_, hv1, a, xs, rfl, dt, fun o hH A hA => ?_⟩
            have w1 := w.but a
            have e1 : RepE X.K (as.but a) H (τ.set i none) σ := e.outs (outs_in w a) i hwf
            have hin : a ∉ as.but a := fun z => by
              rcases Mp.mem_but.mp z with ⟨_, z⟩ | z
              · exact z rfl
              · exact w.sep a (List.mem_of_getElem? ha) z
            have Wk : Walk X.K cl (as.but a) H (Itx a o xs) (kvs.map fun kv => keyTD kv.1) := by
              refine ⟨fun i as' H' m hi => ⟨(m.k _ _ hH hin).2, by rw [List.length_map, rt.len] at hi; exact hi⟩, fun i as' st' H' x H'' hi m w' ⟨h1, k, b, u, h2, h3⟩ => ?_, fun i as' H' m hi => ⟨(m.k _ _ hH hin).2, by rw [List.length_map, rt.len] at hi; exact hi⟩⟩
              subst h1 h3
              have sb : StT X.K as H b (k.map kV) := rt.ks _ (List.mem_of_getElem? h2)
              have hkk : (kvs.map fun kv => keyTD kv.1)[i]? = some (keyTD k) := by
                have q := congrArg (fun l => l[i]?) rt.keys
                simp only [List.getElem?_map] at q
                rw [h2] at q
                rw [List.getElem?_map]
                cases hq : kvs[i]? with
                | none => rw [hq] at q; cases q
                | some kv =>
                  rw [hq] at q
                  have q : k = kv.1 := Option.some.inj q
                  rw [q]; rfl
              exact ⟨_, hkk, .inl rfl, keyTD_rep ((sb.outs (outs_in w a)).mv m)⟩
            refine comp_core hv w1 e1 Wk hA hc fun as' H' ys m w' hA' ra => ?_
            have hm : as'.m = [] := List.eq_nil_of_length_eq_zero (by rw [w'.len]; rfl)
            have hAo : A ∉ as := w.nin hA
            have hsub : ∀ {b : Addr}, b ∉ as → b ∉ as.but a := fun {b} nb z => by
              rcases Mp.mem_but.mp z with ⟨z, _⟩ | z
              · exact nb (.inl z)
              · exact nb (.inr z)
            have kd : H' a = H a := by rw [hH]; exact m.evo.keep a _ hH hin
            have kall : ∀ b, b ∈ as → H' b = H b := fun b hb => by
              by_cases hba : b = a
              · rw [hba]; exact kd
              · refine m.evo.kx b ?_
                show b ∈ as.m.filter (fun a' => decide (a' ≠ a)) ++ as.x
                rcases hb with hb | hb
                · exact List.mem_append_left _ (List.mem_filter.mpr ⟨hb, by simpa using hba⟩)
                · exact List.mem_append_right _ hb
            have ev : Evo as H as H' := ⟨⟨[], by simp, by simp⟩, rfl, fun b hb => kall b (.inr hb), fun b u hb nb => m.evo.keep b u hb (hsub nb), m.evo.live⟩
            have wd : Wd X.K cl as st H' := w.mv ev.mv (fun b hb => let ⟨u, hu⟩ := w.lv b hb; ⟨u, by rw [kall b (.inr hb)]; exact hu⟩) fun b hb => kall b (.inl hb)
            refine Post.ok p ev wd _ (.lst hAo hA' ?_)
            refine (ra.mv m.mv).outs (fun b nb ne z => ?_) hout
            -- what is outside of the rest is outside of all
            by_cases hba : b = a
            · rw [hba] at ne
              exact ne _ (kd.trans hH)
            · refine nb (.inr ?_)
              show b ∈ as.m.filter (fun a' => decide (a' ≠ a)) ++ as.x
              rcases z with z | z
              · exact List.mem_append_left _ (List.mem_filter.mpr ⟨z, by simpa using hba⟩)
              · exact List.mem_append_right _ z
          · exact p.elim
        · exact p.elim
      · exact p.elim
    · exact p.elim
  · exact p.elim
variable {elt tge iter : Expr} {ifs : List Expr} {scope : Scope} {own : List (Str × Nat)} {pos : Pos} {i : Nat} {tg : Tgt} {tt : DT} {te : DE}
theorem j_lcP (hw : cl.w = X.w) (hc : X.calm = true) (hN : X.N.Nodup) (hi : PE X iter (tVar i)) (ok : BlkOk X.N X.env.scope scope own) (hv : ∀ i ∈ tg.names, i ∈ own.map (·.2))
    (hg : ∀ (s : Shared) (H : Hp) (C : Addr) (cl : List (Str × Addr)) (fp : List Addr), PG (X.blk s H scope (compEnvC scope cl C X.env) fp) tge (tg.raw X.K))
    (ht : ∀ (s : Shared) (H : Hp) (C : Addr) (cl' : List (Str × Addr)) (fp : List Addr), JTs (X.blk s H scope (compEnvC scope cl' C X.env) fp) cl ifs tt)
    (he : ∀ (s : Shared) (H : Hp) (C : Addr) (cl' : List (Str × Addr)) (fp : List Addr), JE (X.blk s H scope (compEnvC scope cl' C X.env) fp) cl W0 elt te) (hs : ∀ x, foldedSetIterable iter X.env x = pure x := by intro _; rfl) :
    JE X cl W (.ListComp elt [⟨tge, iter, ifs, 0⟩] scope pos) (dCompP i tg tt te (own.map (·.2))) :=
  PE.mono (pe_lc hc hN (pi_keysX hi) ok hg ht he hs) fun _ _ _ h => lift_compP hw hv h
end
theorem Room.u3 {k : Nat} {A : Around} (h : Rm k A) : A.units + 3 < cLine := by have := h.un; omega
/-! ### sorted -/
def keyPD : Key → PyData
  | .inl i => .int i
  | .inr x => .str x
def encT (k : List Key) : PyData := .tuple (k.map keyPD)
/-- a text, a number -/
def keySI : List Key → Bool
  | [.inr _, .inl _] => true
  | _ => false
open Classical in
noncomputable def sortT (ks : List (List Key)) : List (List Key) := ks.mergeSort (PySem.W.dataLe false encT)
theorem sortT_perm (ks : List (List Key)) : (sortT ks).Perm ks := List.mergeSort_perm _ _
theorem reads_key {h : Heap} : ∀ {ks : List Key} {us : List Value}, Vals (ks.map kV) us → ∃ as, ReadsAll h us (ks.map keyPD) as ∧ as = []
  | [], _, r => by rw [List.map_nil] at r; cases r; exact ⟨_, .nil, rfl⟩
  | k :: ks, _, r => by
    rw [List.map_cons] at r
    cases r with
    | cons h1 t =>
      obtain ⟨as, h2, e⟩ := reads_key t
      subst e
      cases k with
      | inl i =>
        obtain ⟨t, rfl⟩ := h1
        exact ⟨_, .cons (.int _ _) h2, rfl⟩
      | inr x =>
        obtain ⟨t, rfl⟩ := h1
        exact ⟨_, .cons (.str _ _) h2, rfl⟩
theorem each_refs : ∀ {out : List Value} {zs : List (List Key × Addr × Value)}, PySem.W.EachIs (fun v (x : List Key × Addr × Value) => v = Value.ref x.2.1) out zs → out = zs.map fun x => Value.ref x.2.1
  | _, _, .nil => rfl
  | _, _, .cons h t => by rw [List.map_cons, h, each_refs t]
theorem refs_each : ∀ (zs : List (List Key × Addr × Value)), PySem.W.EachIs (fun v (x : List Key × Addr × Value) => v = Value.ref x.2.1) (zs.map fun x => Value.ref x.2.1) zs
  | [] => .nil
  | _ :: zs => .cons rfl (refs_each zs)
open Classical in
noncomputable def sortX (xs : List (List Key × Addr × Value)) : List (List Key × Addr × Value) := xs.mergeSort (PySem.W.dataLe false fun x => encT x.1)
theorem sortX_keys (xs : List (List Key × Addr × Value)) : (sortX xs).map (·.1) = sortT (xs.map (·.1)) := by
  unfold sortX sortT
  rw [List.map_mergeSort]
  intro a _ b _
  rfl
theorem sortX_perm (xs : List (List Key × Addr × Value)) : (sortX xs).Perm xs := List.mergeSort_perm _ _
theorem keySI_shape : ∀ {k : List Key}, keySI k = true → ∃ x i, k = [.inr x, .inl i]
  | [.inr x, .inl i], _ => ⟨x, i, rfl⟩
theorem cr_sortDX {X : Cx} (hcalm : X.calm = true) (hu : X.A.units + 3 < cLine) : CallR X (.builtin "sorted") (fun vs H Q => ∃ a xs, vs = [.ref a] ∧ DTat X.K X.w H a xs ∧ (∀ x ∈ xs, keySI x.1 = true) ∧
    ∀ p, H p = none → Q (.ref p) (upd H p (.lst ((sortX xs).map fun x => .ref x.2.1)))) := by
  intro pins s σ H vs us Q I r q
  obtain ⟨a, xs, rfl, dt, hks, q⟩ := q
  rw [Vals.ref1 r]
  obtain ⟨o, hH, hgd, ok, dd⟩ := dt.of I
  obtain ⟨es, ep, hdt, hes⟩ := ok.da
  have hsz := ent_size hes
  refine Calls.call_function_entry PyProof.Rows.kind_sorted PyProof.Rows.plain_sorted PyProof.Rows.entry_sorted (PyProof.Rows.args_sorted1 _) ?_
  unfold Builtin.«sorted»
  refine wpAny_bind (m := checkCount "sorted" 1 1 _) (wpAny_pure ?_)
  refine wpAny_bind (PySem.W.kdu_collect (A := X.A.in1) (kdl_raw ok.lo ok.ex hdt) (I.ok.hd hcalm) hgd (by rw [hsz]; exact ok.sz) fun h' tk acc hk hacc => ?_)
  have ea : acc.toList = xs.map fun x => Value.ref x.2.1 := by
    have hl : acc.toList.length = xs.length := by rw [Array.length_toList, hacc.1]; exact hsz
    apply List.ext_getElem?
    intro j
    rw [List.getElem?_map]
    cases hj : acc.toList[j]? with
    | none =>
      have h1 := List.getElem?_eq_none_iff.mp hj
      rw [List.getElem?_eq_none (by omega)]
      all_goals rfl
    | some v =>
      obtain ⟨en, hen, hv⟩ := hacc.2 j v (by rw [← Array.getElem?_toList]; exact hj)
      have hlt := (List.getElem?_eq_some_iff.mp hj).1
      have hx : xs[j]? = some (xs[j]'(by omega)) := List.getElem?_eq_getElem (by omega)
      rw [ent_get hes hx] at hen
      cases hen
      rw [hx, hv]
      rfl
  have I1 : Inv X pins σ H { s with heap := h', toks := tk } := I.kept hk
  have hz : xs.length ≤ sizeLine := ok.sz
  have hal2 : acc.toList.length ≤ sizeLine := by rw [ea, List.length_map]; exact hz
  refine wpAny_bind (wpAny_newList ?_ hal2)
  have hoL : (h'.push (seqObj "list" acc.toList.toArray 0)).get? h'.objs.size = some (seqObj "list" acc.toList.toArray 0) := Heap.get?_push_size _ rfl
  show wpAny _ _ _ _ _ { s with heap := h'.push (seqObj "list" acc.toList.toArray 0), toks := tk }
  have e1 : PySem.W.EachIs (fun v (x : List Key × Addr × Value) => v = Value.ref x.2.1) acc.toList xs := by rw [ea]; exact refs_each xs
  have er : PySem.W.EachIs (fun v (x : List Key × Addr × Value) => ∃ as, Reads (h'.push (seqObj "list" acc.toList.toArray 0)) v (encT x.1) as ∧ h'.objs.size ∉ as) acc.toList xs := by
    have go : ∀ (g : Heap), (∀ b o, s.heap.get? b = some o → g.get? b = some o) → ∀ zs : List (List Key × Addr × Value), (∀ x ∈ zs, SqT X.K H x.2.1 (x.1.map kV)) → PySem.W.EachIs (fun v (x : List Key × Addr × Value) => ∃ as, Reads g v (encT x.1) as ∧ h'.objs.size ∉ as) (zs.map fun x => Value.ref x.2.1) zs := by
      intro g hg zs
      induction zs with
      | nil => exact fun _ => .nil
      | cons z zs ih =>
        intro hz
        refine .cons ?_ (ih fun x hx => hz x (List.mem_cons_of_mem _ hx))
        obtain ⟨its, r, ⟨o', h1, h2, n, h3⟩, _⟩ := I.tuple (hz z List.mem_cons_self)
        obtain ⟨as, h4, e⟩ := reads_key (h := g) r
        subst e
        exact ⟨[], .tuple (hg _ _ h1) h2 h3 (by simpa using h4), by simp⟩
    have := go (h'.push (seqObj "list" acc.toList.toArray 0)) (fun b o e => Heap.get?_push_of_some _ (hk b o e)) xs dt.ks
    rw [← ea] at this
    exact this
  have hal : PySem.W.AllAlike (xs.map fun x => encT x.1) := by
    intro d hd d' hd'
    obtain ⟨x, hx, rfl⟩ := List.mem_map.mp hd
    obtain ⟨x', hx', rfl⟩ := List.mem_map.mp hd'
    obtain ⟨y, i, e⟩ := keySI_shape (hks x hx)
    obtain ⟨y', i', e'⟩ := keySI_shape (hks x' hx')
    rw [e, e']
    simp [encT, keyPD, PySem.W.alike, PySem.W.alikeAll]
  have hk2 : PySem.W.Sortable (xs.map fun x => encT x.1) := .inl fun d hd => by
    obtain ⟨x, hx, rfl⟩ := List.mem_map.mp hd
    obtain ⟨y, i, e⟩ := keySI_shape (hks x hx)
    rw [e]
    exact ⟨_, _, rfl⟩
  refine wpAny_bind (wpAny_holding (PySem.W.list_sort_data (enc := fun x => encT x.1) hoL e1 er hal hk2 hz (fun b hb => ?_) fun out hol hout => ?_))
  · obtain ⟨y, i, e⟩ := keySI_shape (hks b hb)
    rw [e]
    show X.A.units + 1 + 1 + 1 < cLine
    omega
  obtain ⟨e', he'⟩ := PyProof.Rows.sortedHeap_at (vs := acc.toList) (out := out.toArray) hoL
  have eo : out = (sortX xs).map fun x => Value.ref x.2.1 := each_refs hout
  have hlen : ((sortX xs).map fun x => V.ref x.2.1).length ≤ sizeLine := by
    rw [List.length_map, (sortX_perm xs).length_eq]
    exact hz
  refine wpAny_pure ⟨_, rfl, .ref h'.objs.size, upd H h'.objs.size (.lst ((sortX xs).map fun x => V.ref x.2.1)), I1.laid (t' := tk) (fun b u e => ?_) (Nat.le_refl _)
    (show ObjOk X.prog X.w _ _ _ (.lst ((sortX xs).map fun x => V.ref x.2.1)) from ⟨hlen, out, e', ?_, he'⟩), rfl, q _ (I1.hok.fresh (Nat.le_refl _))⟩
  · have hb : b < h'.objs.size := Heap.lt_size e
    rw [PyProof.Rows.sortedHeap_old (Nat.ne_of_lt hb) (by rw [size_push']; exact Nat.lt_succ_of_lt hb)]
    exact Heap.get?_push_of_some _ e
  · rw [eo]
    have := vals_refs ((sortX xs).map fun x => x.2.1)
    rw [List.map_map, List.map_map] at this
    exact this
noncomputable def cSortedT : DC := fun ds st => match ds with
  | [d] => match tabOf d st with
    | some kvs => if kvs.all (fun kv => keySI kv.1) = true then .ok (.lst ((sortT (kvs.map (·.1))).map keyTD)) st else .bad
    | none => .bad
  | _ => .bad
theorem cj_sortedT {X : Cx} {cl : Cl} (hw : cl.w = X.w) (hc : X.calm = true) (hu : X.A.units + 3 < cLine) : CallJ X cl (.builtin "sorted") cSortedT := CallJ.of (cr_sortDX hc hu) fun E as st H xs ds Q w rs p => by
  unfold cSortedT at p
  split at p
  · rename_i d
    obtain ⟨v, rfl, r⟩ := rs.one
    split at p
    · rename_i kvs hk
      split at p
      · rename_i hall
        obtain ⟨a, n, xs, rfl, rfl, ha, hn, dt, rt⟩ := Wd.dat hw w r hk
        have hkeys := rt.keys
        refine ⟨a, xs, rfl, dt, fun x hx => ?_, ?_⟩
        · have : x.1 ∈ kvs.map (·.1) := by rw [← hkeys]; exact List.mem_map.mpr ⟨x, hx, rfl⟩
          obtain ⟨kv, h1, h2⟩ := List.mem_map.mp this
          rw [← h2]
          exact List.all_eq_true.mp hall kv h1
        · rw [← hkeys, ← sortX_keys, List.map_map] at p
          refine p.newL w ?_
          have go : ∀ zs : List (List Key × Addr × Value), (∀ x ∈ zs, StT X.K as H x.2.1 (x.1.map kV)) → Reps X.K as H (zs.map (keyTD ∘ fun x => x.1)) (zs.map fun x => V.ref x.2.1) := by
            intro zs
            induction zs with
            | nil => exact fun _ => .nil
            | cons z zs ih => exact fun hz => .cons (keyTD_rep (hz z List.mem_cons_self)) (ih fun x hx => hz x (List.mem_cons_of_mem _ hx))
          exact go _ fun x hx => rt.ks x ((sortX_perm xs).mem_iff.mp hx)
      · exact p.elim
    · exact p.elim
  · exact p.elim
end DL

/-! DL26: a tuple times a number. -/
namespace DL
open PySem PySem.Spec PyProof.Rows L2
theorem tuple_mul1 (l : Addr) (items : Array Value) (n : Nat) (dd : Option Addr) (sl : Array (Option Value)) (u : Tok) :
    Meets (Builtin.«tuple.__mul__» ⟨[.ref l, .int 1 u], []⟩) (fun _ R s => s.heap.get? l = some { cls := .type "tuple", dict := dd, data := .seq items n, slots := sl } ∧
      R (.ok (.ret (Value.ref l))) s) :=
  .of_wp fun prog w A R s h => by
    obtain ⟨hp, g, d, tk, os⟩ := s
    obtain ⟨hl, h⟩ := h
    have f1 := AutoSeq1.idx_int
    wp_walk using wpAny_loadPart' hl
    exact ⟨_, rfl, h⟩
def rRepX (K : PySem.W.Frag) : R2 := fun x y H Q => ∃ l k xs, x = .ref l ∧ y = .int k ∧ SqT K H l xs ∧ xs ≠ [] ∧ ((k = 1 ∧ Q (.ref l) H) ∨ (2 ≤ k ∧ k ≤ 16777216 ∧ k.toNat * xs.length ≤ 16777216 ∧ ∀ p, H p = none → Q (.ref p) (upd H p (.tup (List.replicate k.toNat xs).flatten))))
theorem op_repX {X : Cx} : OpR X (binaryOp .Mult) (rRepX X.K) := by
  intro pins s σ H x y v u Q I rx ry h
  obtain ⟨l, k, xs, rfl, rfl, hT, hne, h⟩ := h
  cases rx
  obtain ⟨t, rfl⟩ := ry
  obtain ⟨its, r, ⟨⟨cls, dd, data, sl⟩, ho, hc, n, hd⟩, hs⟩ := I.tuple hT
  simp only at hc hd
  subst hc hd
  have hle : its.length = xs.length := r.length.symm
  have hn : its ≠ [] := fun e => hne (by
    rw [e] at hle
    exact List.eq_nil_of_length_eq_zero hle.symm)
  have hi : its.toArray.isEmpty = false := by
    cases its with
    | nil => exact absurd rfl hn
    | cons a b => rfl
  have hsz0 : its.toArray.size = xs.length := by rw [List.size_toArray, hle]
  rcases h with ⟨rfl, q⟩ | ⟨h1, h2, hz, q⟩
  · refine wpAny_binaryOp_repeat_ref (T := "tuple") (U := "int") (by decide) ⟨_, ho, rfl⟩ (fun s' => typeIs_int s' 1 t) noFill_tuple_mul F.fills_int_mul F.slot_int_rmul repeat_tuple F.slot_int_index.lookup
      (call_meets F.slot_int_rmul (typeIs_int s 1 t) F.entry_int_rmul (F.args_int_rmul_2 _ _) (int_rmul_tuple 1 t l its.toArray n dd sl)
        ⟨ho, rfl, ⟨_, ho, rfl⟩, call_meets F.slot_tuple_mul ⟨_, ho, rfl⟩ F.entry_tuple_mul (F.args_tuple_mul_2 _ _) (tuple_mul1 l its.toArray n dd sl t) ⟨ho, ?_⟩⟩)
    exact ⟨.ref l, H, I, rfl, q⟩
  have hm : ((its.toArray.size : Nat) : Int) * k ≤ 16777216 := by
    rw [hsz0]
    have e : ((xs.length : Nat) : Int) * k = ((k.toNat * xs.length : Nat) : Int) := by
      rw [Int.natCast_mul, Int.toNat_of_nonneg (by omega), Int.mul_comm]
    rw [e]
    omega
  have flen : (List.replicate k.toNat its).flatten.length ≤ sizeLine := by
    rw [PyProof.Rows.lm_len_rep_flat, hle, sizeLine_eq]
    exact hz
  have c0 : (decide (k < -(2 ^ 63)) || decide (k ≥ 2 ^ 63)) = false := by
    rw [decide_eq_false (by omega), decide_eq_false (by omega)] <;> rfl
  have c1 : (its.toArray.isEmpty || k == 1) = false := by
    rw [hi, Bool.false_or]
    exact beq_eq_false_iff_ne.mpr (by omega)
  have c2 : (decide (k ≤ 0) || its.toArray.isEmpty) = false := by
    rw [hi, Bool.or_false]
    exact decide_eq_false (by omega)
  have c4 : Builtin.Tuple.tupleTooMany (((its.toArray.size : Nat) : Int) * k) = false := by
    unfold Builtin.Tuple.tupleTooMany
    rw [sizeLine_eq]
    exact decide_eq_false (by omega)
  refine wpAny_binaryOp_repeat_ref (T := "tuple") (U := "int") (by decide) ⟨_, ho, rfl⟩ (fun s' => typeIs_int s' k t) noFill_tuple_mul F.fills_int_mul F.slot_int_rmul repeat_tuple F.slot_int_index.lookup
    (call_meets F.slot_int_rmul (typeIs_int s k t) F.entry_int_rmul (F.args_int_rmul_2 _ _) (int_rmul_tuple k t l its.toArray n dd sl)
      ⟨ho, rfl, ⟨_, ho, rfl⟩, call_meets F.slot_tuple_mul ⟨_, ho, rfl⟩ F.entry_tuple_mul (F.args_tuple_mul_2 _ _) (tuple_mulW l its.toArray n dd sl k t c0 c1 c2 (by omega) c4 (by rw [size_rep, List.size_toArray]; exact flen)) ⟨ho, ?_⟩⟩)
  rw [size_rep]
  refine ⟨.ref s.heap.objs.size, _, I.laid (t' := s.toks) (o := .tup (List.replicate k.toNat xs).flatten) (fun b ob q => Heap.get?_push_of_some _ q) (Nat.le_refl _) ?_, rfl, q _ (I.hok.fresh (Nat.le_refl _))⟩
  exact ⟨by rw [PyProof.Rows.lm_len_rep_flat, sizeLine_eq]; exact hz, _, r.rep k.toNat, IsTup.new _ _⟩
/-- a tuple that is not empty, so many times -/
def dRepT : D2 := fun x y st => match x, y with
  | .tup ds, .int k => if ds ≠ [] ∧ 1 ≤ k ∧ k ≤ 16777216 ∧ k.toNat * ds.length ≤ 16777216 then .ok (.tup (List.replicate k.toNat ds).flatten) st else .bad
  | _, _ => .bad
theorem Reps.rep {K : PySem.W.Frag} {as : Mp} {H : Hp} {ds : List D} {xs : List V} (r : Reps K as H ds xs) : ∀ n : Nat, Reps K as H (List.replicate n ds).flatten (List.replicate n xs).flatten
  | 0 => .nil
  | n + 1 => by rw [List.replicate_succ, List.replicate_succ, List.flatten_cons, List.flatten_cons]; exact r.append (Reps.rep r n)
theorem oj_repT {X : Cx} {cl : Cl} : OpJ X cl (binaryOp .Mult) dRepT := OpJ.of op_repX fun E as st H x y dx dy Q w rx ry p => by
  unfold dRepT at p
  split at p
  · rename_i ds k
    split at p
    · rename_i hc
      obtain ⟨h1, h2, h3, h4⟩ := hc
      cases rx with
      | @tup a _ xs s rs =>
        cases ry
        have hl := rs.len
        refine ⟨_, _, _, rfl, rfl, s.t, fun e => h1 (by rw [e] at hl; exact List.eq_nil_of_length_eq_zero hl), ?_⟩
        by_cases hk : k = 1
        · subst hk
          refine .inl ⟨rfl, p.val w ?_⟩
          have e : (List.replicate (1 : Int).toNat ds).flatten = ds := by simp
          rw [e]
          exact .tup s rs
        · exact .inr ⟨by omega, h3, by rw [← hl]; exact h4, p.newT w (rs.rep _)⟩
    · exact p.elim
  · exact p.elim
end DL

/-! DL27: a tuple times a number, 0 too. -/
namespace DL
open PySem PySem.Spec PyProof.Rows L2
theorem tuple_mul0 (l : Addr) (items : Array Value) (n : Nat) (dd : Option Addr) (sl : Array (Option Value)) (u : Tok) (c1 : items.isEmpty = false) :
    Meets (Builtin.«tuple.__mul__» ⟨[.ref l, .int 0 u], []⟩) (fun _ R s => s.heap.get? l = some { cls := .type "tuple", dict := dd, data := .seq items n, slots := sl } ∧
      R (.ok (.ret (Value.ref s.heap.objs.size))) { s with heap := s.heap.push { cls := Value.type "tuple", data := Data.seq #[] }, toks := s.toks }) :=
  .of_wp fun prog w A R s h => by
    obtain ⟨hp, g, d, tk, os⟩ := s
    obtain ⟨hl, h⟩ := h
    have f1 := AutoSeq1.idx_int
    wp_walk using wpAny_loadPart' hl
    repeat (first
      | (refine wpAny_ite_false (decide_eq_false (by rw [c1]; exact Bool.false_ne_true)) ?_; wp_walk using wpAny_loadPart' hl))
    exact ⟨_, rfl, h⟩
theorem op_rep0 {X : Cx} : OpR X (binaryOp .Mult) (fun x y H Q => ∃ l xs, x = .ref l ∧ y = .int 0 ∧ SqT X.K H l xs ∧ xs ≠ [] ∧ ∀ p, H p = none → Q (.ref p) (upd H p (.tup []))) := by
  intro pins s σ H x y v u Q I rx ry h
  obtain ⟨l, xs, rfl, rfl, hT, hne, q⟩ := h
  cases rx
  obtain ⟨t, rfl⟩ := ry
  obtain ⟨its, r, ⟨⟨cls, dd, data, sl⟩, ho, hc, n, hd⟩, hs⟩ := I.tuple hT
  simp only at hc hd
  subst hc hd
  have hle : its.length = xs.length := r.length.symm
  have hi : its.toArray.isEmpty = false := by
    cases its with
    | nil => exact absurd (List.eq_nil_of_length_eq_zero hle.symm) hne
    | cons a b => rfl
  refine wpAny_binaryOp_repeat_ref (T := "tuple") (U := "int") (by decide) ⟨_, ho, rfl⟩ (fun s' => typeIs_int s' 0 t) noFill_tuple_mul F.fills_int_mul F.slot_int_rmul repeat_tuple F.slot_int_index.lookup
    (call_meets F.slot_int_rmul (typeIs_int s 0 t) F.entry_int_rmul (F.args_int_rmul_2 _ _) (int_rmul_tuple 0 t l its.toArray n dd sl)
      ⟨ho, rfl, ⟨_, ho, rfl⟩, call_meets F.slot_tuple_mul ⟨_, ho, rfl⟩ F.entry_tuple_mul (F.args_tuple_mul_2 _ _) (tuple_mul0 l its.toArray n dd sl t hi) ⟨ho, ?_⟩⟩)
  exact ⟨.ref s.heap.objs.size, _, I.laid (t' := s.toks) (o := .tup []) (fun b ob q => Heap.get?_push_of_some _ q) (Nat.le_refl _) ⟨Nat.zero_le _, [], .nil, IsTup.new _ _⟩, rfl, q _ (I.hok.fresh (Nat.le_refl _))⟩
/-- a tuple that is not empty, so many times -/
def dRepT0 : D2 := fun x y st => match x, y with
  | .tup ds, .int k => if ds ≠ [] ∧ 0 ≤ k ∧ k ≤ 16777216 ∧ k.toNat * ds.length ≤ 16777216 then .ok (.tup (List.replicate k.toNat ds).flatten) st else .bad
  | _, _ => .bad
theorem oj_repT0 {X : Cx} {cl : Cl} : OpJ X cl (binaryOp .Mult) dRepT0 := OpJ.of (OpR.or (X := X) op_rep0 op_repX) fun E as st H x y dx dy Q w rx ry p => by
  unfold dRepT0 at p
  split at p
  · rename_i ds k
    split at p
    · rename_i hc
      obtain ⟨h1, h2, h3, h4⟩ := hc
      cases rx with
      | @tup a _ xs s rs =>
        cases ry
        have hl := rs.len
        have hne : xs ≠ [] := fun e => h1 (by rw [e] at hl; exact List.eq_nil_of_length_eq_zero hl)
        by_cases hk0 : k = 0
        · subst hk0
          exact .inl ⟨_, _, rfl, rfl, s.t, hne, p.newT w (by exact .nil)⟩
        · refine .inr ⟨_, _, _, rfl, rfl, s.t, hne, ?_⟩
          by_cases hk : k = 1
          · subst hk
            refine .inl ⟨rfl, p.val w ?_⟩
            have e : (List.replicate (1 : Int).toNat ds).flatten = ds := by simp
            rw [e]
            exact .tup s rs
          · exact .inr ⟨by omega, h3, by rw [← hl]; exact h4, p.newT w (rs.rep _)⟩
    · exact p.elim
  · exact p.elim
end DL

namespace K41
open PySem PySem.Spec PyProof.Rows L2 DL
noncomputable section
def k_WORD : D := .int 4294967296
def yk_SIZES : List Str := ["int", "bool", "box", "ref", "mut", "vec"]
def nk_SIZES : List Str := ["record", "variant"]
def k_SIZES : List (Key × D) := [(.inr "int", .int 1), (.inr "bool", .int 1), (.inr "box", .int 1), (.inr "ref", .int 1), (.inr "mut", .int 1), (.inr "vec", .int 3)]
/-- is_number(thing, many) -/
def d_is_number : DS := dRet (dAndV (dApp (cIsi "int") (dCons (dVar 0) (dCons (dC (.raw (.ty "int"))) (dNil)))) (dAndV (dNotV (dApp (cIsi "bool") (dCons (dVar 0) (dCons (dC (.raw (.ty "bool"))) (dNil))))) (dChain (dLeI) (dLtI) (dC (.int 0)) (dVar 0) (dVar 1))))
def F_is_number : DF := dDef 2 2 (d_is_number)
/-- has_word(thing) -/
def d_has_word : DS := dRet (dAndV (dApp (cIsi "tuple") (dCons (dVar 0) (dCons (dC (.raw (.ty "tuple"))) (dNil)))) (dAndV (dBin (dGtI) (dApp cLen (dCons (dVar 0) (dNil))) (dC (.int 0))) (dApp (cIsi "str") (dCons (dBin dIxA (dVar 0) (dC (.int 0))) (dCons (dC (.raw (.ty "str"))) (dNil))))))
def F_has_word : DF := dDef 1 1 (d_has_word)
/-- named_size(book, kind, known, sums, tag) -/
def d_named_size_C1 (c_sum_of_sizes : DF) : DE := dApp c_sum_of_sizes (dCons (dVar 0) (dCons (dVar 4) (dCons (dVar 2) (dNil))))
def d_named_size_B1 (c_sum_of_sizes : DF) : DS := dPutT (dVar 2) (dVar 1) (dApp c_sum_of_sizes (dCons (dVar 0) (dCons (dBin dIxA (dBin dIxA (dVar 0) (dC (.int 0))) (dBin dIxA (dVar 1) (dC (.int 1)))) (dCons (dVar 2) (dNil)))))
def d_named_size_B2 (c_sum_of_sizes : DF) : DS := dSeq (dAsg (dComp (iAny (dBin dIxA (dBin dIxA (dVar 0) (dC (.int 1))) (dBin dIxA (dVar 1) (dC (.int 1))))) (.one 4) (dYes) (d_named_size_C1 c_sum_of_sizes) [4]) (gN 3)) (dPutT (dVar 2) (dVar 1) (dIf (dTst (dBin (dInA false) (dNeg (dC (.int 1))) (dVar 3))) (dNeg (dC (.int 1))) (dBin dAdd (dC (.int 1)) (dApp cMax1 (dCons (dVar 3) (dNil))))))
def d_named_size_B3 (c_sum_of_sizes : DF) : DS := dSeq (dPutT (dVar 2) (dVar 1) (dNeg (dC (.int 1)))) (dIfS (dTst (dBin (dEq false) (dBin dIxA (dVar 1) (dC (.int 0))) (dC (.str "record")))) (d_named_size_B1 c_sum_of_sizes) (d_named_size_B2 c_sum_of_sizes))
def d_named_size (c_sum_of_sizes : DF) : DS := dSeq (dIfS (dTst (dBin (dInT true) (dVar 1) (dVar 2))) (d_named_size_B3 c_sum_of_sizes) (dNext)) (dRet (dBin dGetT (dVar 2) (dVar 1)))
def F_named_size (c_sum_of_sizes : DF) : DF := dDef 5 3 (d_named_size c_sum_of_sizes)
/-- flat_size(book, kind, known) -/
def d_flat_size (c_named_size : DF) : DS := dSeq (dIfS (dTst (dInTab yk_SIZES nk_SIZES (dBin dIxA (dVar 1) (dC (.int 0))))) (dRet (dTab k_SIZES (dBin dIxA (dVar 1) (dC (.int 0))))) (dNext)) (dRet (dApp c_named_size (dCons (dVar 0) (dCons (dVar 1) (dCons (dVar 2) (dNil))))))
def F_flat_size (c_named_size : DF) : DF := dDef 3 3 (d_flat_size c_named_size)
/-- sum_of_sizes(book, kinds, known, sizes, kind) -/
def d_sum_of_sizes_C1 (c_flat_size : DF) : DE := dApp c_flat_size (dCons (dVar 0) (dCons (dVar 4) (dCons (dVar 2) (dNil))))
def d_sum_of_sizes (c_flat_size : DF) : DS := dSeq (dAsg (dComp (iAny (dVar 1)) (.one 4) (dYes) (d_sum_of_sizes_C1 c_flat_size) [4]) (gN 3)) (dSeq (dIfS (dTst (dBin (dInA false) (dNeg (dC (.int 1))) (dVar 3))) (dRet (dNeg (dC (.int 1)))) (dNext)) (dRet (dApp cSum1 (dCons (dVar 3) (dNil)))))
def F_sum_of_sizes (c_flat_size : DF) : DF := dDef 5 3 (d_sum_of_sizes c_flat_size)
/-- size_of(book, kind) -/
def d_size_of (c_flat_size : DF) : DS := dRet (dApp c_flat_size (dCons (dVar 0) (dCons (dVar 1) (dCons (dDispT) (dNil)))))
def F_size_of (c_flat_size : DF) : DF := dDef 2 2 (d_size_of c_flat_size)
/-- field_place(book, n, i) -/
def d_field_place (c_sum_of_sizes : DF) : DS := dRet (dApp c_sum_of_sizes (dCons (dVar 0) (dCons (dSl (dBin dIxA (dBin dIxA (dVar 0) (dC (.int 0))) (dVar 1)) (dNoPart) (dPart (dVar 2))) (dCons (dDispT) (dNil)))))
def F_field_place (c_sum_of_sizes : DF) : DF := dDef 3 3 (d_field_place c_sum_of_sizes)
/-- part_place(book, n, tag, i) -/
def d_part_place (c_sum_of_sizes : DF) : DS := dRet (dBin dAdd (dC (.int 1)) (dApp c_sum_of_sizes (dCons (dVar 0) (dCons (dSl (dBin dIxA (dBin dIxA (dBin dIxA (dVar 0) (dC (.int 1))) (dVar 1)) (dVar 2)) (dNoPart) (dPart (dVar 3))) (dCons (dDispT) (dNil))))))
def F_part_place (c_sum_of_sizes : DF) : DF := dDef 4 4 (d_part_place c_sum_of_sizes)
/-- are_values(book, kinds, thing, kind, one) -/
def d_are_values_C1 (c_is_value : DF) : DE := dApp c_is_value (dCons (dVar 0) (dCons (dVar 3) (dCons (dVar 4) (dNil))))
def d_are_values (c_is_value : DF) : DS := dSeq (dIfS (dOrT (dNotT (dTru (dApp (cIsi "tuple") (dCons (dVar 2) (dCons (dC (.raw (.ty "tuple"))) (dNil)))))) (dTst (dBin (dEq true) (dApp cLen (dCons (dVar 2) (dNil))) (dApp cLen (dCons (dVar 1) (dNil)))))) (dRet (dC (.bl false))) (dNext)) (dRet (dApp cAll1 (dCons (dComp (iZipD (dCons (dVar 1) (dCons (dVar 2) (dNil)))) (.tup [3, 4]) (dYes) (d_are_values_C1 c_is_value) [3, 4]) (dNil))))
def F_are_values (c_is_value : DF) : DF := dDef 5 3 (d_are_values c_is_value)
/-- is_value(book, kind, thing, one) -/
def d_is_value_B1 (c_is_number : DF) (c_has_word : DF) (c_are_values : DF) (c_is_value : DF) : DS := dSeq (dIfS (dOrT (dTst (dBin (dEq true) (dApp cLen (dCons (dVar 2) (dNil))) (dC (.int 3)))) (dNotT (dTru (dApp c_is_number (dCons (dBin dIxA (dVar 2) (dC (.int 1))) (dCons (dApp cLen (dCons (dBin dIxA (dBin dIxA (dVar 0) (dC (.int 1))) (dBin dIxA (dVar 1) (dC (.int 1)))) (dNil))) (dNil))))))) (dRet (dC (.bl false))) (dNext)) (dRet (dApp c_are_values (dCons (dVar 0) (dCons (dBin dIxA (dBin dIxA (dBin dIxA (dVar 0) (dC (.int 1))) (dBin dIxA (dVar 1) (dC (.int 1)))) (dBin dIxA (dVar 2) (dC (.int 1)))) (dCons (dBin dIxA (dVar 2) (dC (.int 2))) (dNil))))))
def d_is_value_B2 (c_is_number : DF) (c_has_word : DF) (c_are_values : DF) (c_is_value : DF) : DS := dRet (dApp c_are_values (dCons (dVar 0) (dCons (dBin dIxA (dBin dIxA (dVar 0) (dC (.int 0))) (dBin dIxA (dVar 1) (dC (.int 1)))) (dCons (dBin dIxA (dVar 2) (dC (.int 1))) (dNil)))))
def d_is_value_C1 (c_is_number : DF) (c_has_word : DF) (c_are_values : DF) (c_is_value : DF) : DE := dApp c_is_value (dCons (dVar 0) (dCons (dBin dIxA (dVar 1) (dC (.int 1))) (dCons (dVar 3) (dNil))))
def d_is_value_R1 (c_is_number : DF) (c_has_word : DF) (c_are_values : DF) (c_is_value : DF) : DS := dSeq (dIfS (dTst (dBin (dEq false) (dBin dIxA (dVar 1) (dC (.int 0))) (dC (.str "box")))) (dRet (dApp c_is_value (dCons (dVar 0) (dCons (dBin dIxA (dVar 1) (dC (.int 1))) (dCons (dBin dIxA (dVar 2) (dC (.int 1))) (dNil)))))) (dNext)) (dRet (dAndV (dApp (cIsi "tuple") (dCons (dBin dIxA (dVar 2) (dC (.int 1))) (dCons (dC (.raw (.ty "tuple"))) (dNil)))) (dApp cAll1 (dCons (dComp (iAny (dBin dIxA (dVar 2) (dC (.int 1)))) (.one 3) (dYes) (d_is_value_C1 c_is_number c_has_word c_are_values c_is_value) [3]) (dNil)))))
def d_is_value_R2 (c_is_number : DF) (c_has_word : DF) (c_are_values : DF) (c_is_value : DF) : DS := dSeq (dIfS (dTst (dBin (dEq false) (dBin dIxA (dVar 1) (dC (.int 0))) (dC (.str "record")))) (d_is_value_B2 c_is_number c_has_word c_are_values c_is_value) (dNext)) (d_is_value_R1 c_is_number c_has_word c_are_values c_is_value)
def d_is_value_R3 (c_is_number : DF) (c_has_word : DF) (c_are_values : DF) (c_is_value : DF) : DS := dSeq (dIfS (dTst (dBin (dEq true) (dApp cLen (dCons (dVar 2) (dNil))) (dC (.int 2)))) (dRet (dC (.bl false))) (dNext)) (d_is_value_R2 c_is_number c_has_word c_are_values c_is_value)
def d_is_value_R4 (c_is_number : DF) (c_has_word : DF) (c_are_values : DF) (c_is_value : DF) : DS := dSeq (dIfS (dTst (dBin (dEq false) (dBin dIxA (dVar 1) (dC (.int 0))) (dC (.str "variant")))) (d_is_value_B1 c_is_number c_has_word c_are_values c_is_value) (dNext)) (d_is_value_R3 c_is_number c_has_word c_are_values c_is_value)
def d_is_value_R5 (c_is_number : DF) (c_has_word : DF) (c_are_values : DF) (c_is_value : DF) : DS := dSeq (dIfS (dOrT (dNotT (dTru (dApp c_has_word (dCons (dVar 2) (dNil))))) (dTst (dBin (dEq true) (dBin dIxA (dVar 2) (dC (.int 0))) (dBin dIxA (dVar 1) (dC (.int 0)))))) (dRet (dC (.bl false))) (dNext)) (d_is_value_R4 c_is_number c_has_word c_are_values c_is_value)
def d_is_value_R6 (c_is_number : DF) (c_has_word : DF) (c_are_values : DF) (c_is_value : DF) : DS := dSeq (dIfS (dTst (dBin (dEq false) (dBin dIxA (dVar 1) (dC (.int 0))) (dC (.str "bool")))) (dRet (dApp (cIsi "bool") (dCons (dVar 2) (dCons (dC (.raw (.ty "bool"))) (dNil))))) (dNext)) (d_is_value_R5 c_is_number c_has_word c_are_values c_is_value)
def d_is_value (c_is_number : DF) (c_has_word : DF) (c_are_values : DF) (c_is_value : DF) : DS := dSeq (dIfS (dTst (dBin (dEq false) (dBin dIxA (dVar 1) (dC (.int 0))) (dC (.str "int")))) (dRet (dApp c_is_number (dCons (dVar 2) (dCons (dC k_WORD) (dNil))))) (dNext)) (d_is_value_R6 c_is_number c_has_word c_are_values c_is_value)
def F_is_value (c_is_number : DF) (c_has_word : DF) (c_are_values : DF) (c_is_value : DF) : DF := dDef 4 3 (d_is_value c_is_number c_has_word c_are_values c_is_value)
/-- _law_draws(_law_script, _law_many, _law_draws_here, _law_mixed, _law_k, _law_cell, _law_rest, _law_turn) -/
def d__law_draws_B1 : DS := dSeq (dDrop (dBMT "list" mAppend (dVar 2) (dCons (dBin dMod (dApp cInt (dCons (dVar 5) (dNil))) (dC (.int 997))) (dNil)))) (dDrop (dBMT "list" mAppend (dVar 2) (dCons (dBin dMod (dBin dMod (dApp cInt (dCons (dBin dAdd (dBin dMulB (dVar 3) (dC (.int 69621))) (dC (.int 5))) (dNil))) (dC (.int 65521))) (dC (.int 997))) (dNil))))
def d__law_draws_B2 : DS := dSeq (dDrop (dBMT "list" mAppend (dVar 2) (dCons (dBin dMod (dApp cInt (dCons (dVar 6) (dNil))) (dC (.int 997))) (dNil)))) (dAsg (dBin dDiv (dVar 6) (dC (.int 997))) (gN 6))
def d__law_draws_L1 : DS := dIfS (dTst (dBin (dGtI) (dVar 6) (dC (.int 0)))) (d__law_draws_B2) (dNext)
def d__law_draws_L2 : DS := dSeq (dAsg (dApp cAbs (dCons (dApp cInt (dCons (dBin dIxA (dVar 0) (dVar 4)) (dNil))) (dNil))) (gN 5)) (dSeq (dAsg (dBin dMod (dApp cInt (dCons (dBin dAdd (dBin dAdd (dBin dMulB (dVar 3) (dC (.int 48271))) (dBin dMod (dVar 5) (dC (.int 1000003)))) (dVar 4)) (dNil))) (dC (.int 65537))) (gN 3)) (dSeq (dAsg (dC (.int 0)) (gN 6)) (dSeq (dIfS (dTst (dBin (dGeI) (dVar 5) (dBin dPow (dC (.int 10)) (dC (.int 18))))) (dAsg (dVar 5) (gN 6)) (d__law_draws_B1)) (dFor (iRng1D (dCons (dC (.int 60)) (dNil))) (gN 7) (d__law_draws_L1)))))
def d__law_draws_L3 : DS := dSeq (dAsg (dBin dMod (dApp cInt (dCons (dBin dAdd (dBin dAdd (dBin dMulB (dVar 3) (dC (.int 16807))) (dVar 4)) (dC (.int 1))) (dNil))) (dC (.int 65537))) (gN 3)) (dDrop (dBMT "list" mAppend (dVar 2) (dCons (dBin dMod (dApp cInt (dCons (dVar 3) (dNil))) (dC (.int 997))) (dNil))))
def d__law_draws : DS := dSeq (dAsg (dNew (dNil)) (gN 2)) (dSeq (dAsg (dC (.int 7)) (gN 3)) (dSeq (dFor (iRng1D (dCons (dApp cLen (dCons (dVar 0) (dNil))) (dNil))) (gN 4) (d__law_draws_L2)) (dSeq (dFor (iRng1D (dCons (dVar 1) (dNil))) (gN 4) (d__law_draws_L3)) (dRet (dSl (dVar 2) (dNoPart) (dPart (dVar 1)))))))
def F__law_draws : DF := dDef 8 2 (d__law_draws)
/-- _law_take(_law_d, _law_at) -/
def d__law_take : DS := dSeq (dAsg (dApp cInt (dCons (dBin dIxA (dVar 0) (dC (.str "at"))) (dNil))) (gN 1)) (dSeq (dPutA (dVar 0) (dC (.str "at")) (dBin dAdd (dVar 1) (dC (.int 1)))) (dRet (dBin dAdd (dApp cInt (dCons (dBin dIxA (dBin dIxA (dVar 0) (dC (.str "row"))) (dBin dMod (dVar 1) (dC (.int 400)))) (dNil))) (dBin dDiv (dVar 1) (dC (.int 400))))))
def F__law_take : DF := dDef 2 1 (d__law_take)
/-- _law_start(_law_script) -/
def d__law_start (c__law_draws : DF) : DS := dRet (dDisp (dPCons (dC (.str "row")) (dApp c__law_draws (dCons (dVar 0) (dCons (dC (.int 400)) (dNil)))) (dPCons (dC (.str "at")) (dC (.int 0)) (dPNil))))
def F__law_start (c__law_draws : DF) : DF := dDef 1 1 (d__law_start c__law_draws)
/-- _law_data(_law_d, _law_counts, _law_deep, _law_turn, _law_word) -/
def d__law_data_B1 (c__law_take : DF) (c__law_data : DF) : DS := dRet (dBin dIxA (dLst (dCons (dTup (dCons (dC (.str "int")) (dNil))) (dCons (dTup (dCons (dC (.str "bool")) (dNil))) (dNil)))) (dBin dMod (dApp c__law_take (dCons (dVar 0) (dNil))) (dC (.int 2))))
def d__law_data_R1 (c__law_take : DF) (c__law_data : DF) : DS := dSeq (dAsg (dBin dIxA (dLst (dCons (dC (.str "record")) (dCons (dC (.str "variant")) (dNil)))) (dBin dMod (dApp c__law_take (dCons (dVar 0) (dNil))) (dC (.int 2)))) (gN 4)) (dRet (dTup (dCons (dVar 4) (dCons (dBin dMod (dApp c__law_take (dCons (dVar 0) (dNil))) (dBin dIxA (dVar 1) (dVar 4))) (dNil)))))
def d__law_data_R2 (c__law_take : DF) (c__law_data : DF) : DS := dSeq (dIfS (dTst (dBin (dLtI) (dVar 3) (dC (.int 5)))) (dRet (dTup (dCons (dC (.str "vec")) (dCons (dApp c__law_data (dCons (dVar 0) (dCons (dVar 1) (dCons (dBin dSub (dVar 2) (dC (.int 1))) (dNil))))) (dNil))))) (dNext)) (d__law_data_R1 c__law_take c__law_data)
def d__law_data_R3 (c__law_take : DF) (c__law_data : DF) : DS := dSeq (dIfS (dTst (dBin (dLtI) (dVar 3) (dC (.int 4)))) (dRet (dTup (dCons (dC (.str "box")) (dCons (dApp c__law_data (dCons (dVar 0) (dCons (dVar 1) (dCons (dBin dSub (dVar 2) (dC (.int 1))) (dNil))))) (dNil))))) (dNext)) (d__law_data_R2 c__law_take c__law_data)
def d__law_data (c__law_take : DF) (c__law_data : DF) : DS := dSeq (dAsg (dBin dMod (dApp c__law_take (dCons (dVar 0) (dNil))) (dC (.int 8))) (gN 3)) (dSeq (dIfS (dOrT (dTst (dBin (dLtI) (dVar 2) (dC (.int 1)))) (dTst (dBin (dLtI) (dVar 3) (dC (.int 2))))) (d__law_data_B1 c__law_take c__law_data) (dNext)) (d__law_data_R3 c__law_take c__law_data))
def F__law_data (c__law_take : DF) (c__law_data : DF) : DF := dDef 5 3 (d__law_data c__law_take c__law_data)
/-- _law_inside(_law_d, _law_counts, _law_before, _law_turn) -/
def d__law_inside_B1 (c__law_take : DF) (c__law_data : DF) : DS := dRet (dBin dIxA (dLst (dCons (dTup (dCons (dC (.str "int")) (dNil))) (dCons (dTup (dCons (dC (.str "bool")) (dNil))) (dCons (dTup (dCons (dC (.str "box")) (dCons (dApp c__law_data (dCons (dVar 0) (dCons (dVar 1) (dCons (dC (.int 2)) (dNil))))) (dNil)))) (dCons (dTup (dCons (dC (.str "vec")) (dCons (dApp c__law_data (dCons (dVar 0) (dCons (dVar 1) (dCons (dC (.int 2)) (dNil))))) (dNil)))) (dNil)))))) (dBin dMod (dApp c__law_take (dCons (dVar 0) (dNil))) (dC (.int 4))))
def d__law_inside (c__law_take : DF) (c__law_data : DF) : DS := dSeq (dAsg (dBin dMod (dApp c__law_take (dCons (dVar 0) (dNil))) (dC (.int 3))) (gN 3)) (dSeq (dIfS (dOrT (dTst (dBin (dEq false) (dVar 3) (dC (.int 0)))) (dTst (dBin (dEq false) (dVar 2) (dLst (dNil))))) (d__law_inside_B1 c__law_take c__law_data) (dNext)) (dRet (dBin dIxA (dVar 2) (dBin dMod (dApp c__law_take (dCons (dVar 0) (dNil))) (dApp cLen (dCons (dVar 2) (dNil)))))))
def F__law_inside (c__law_take : DF) (c__law_data : DF) : DF := dDef 4 3 (d__law_inside c__law_take c__law_data)
/-- _law_book(_law_d, _law_counts, _law_before, _law_book_here, _law_k, _law_turn, _law_tags, _law_part) -/
def d__law_book_C1 (c__law_take : DF) (c__law_inside : DF) : DE := dApp c__law_inside (dCons (dVar 0) (dCons (dVar 1) (dCons (dVar 2) (dNil))))
def d__law_book_B1 (c__law_take : DF) (c__law_inside : DF) : DS := dSeq (dDrop (dBMT "list" mAppend (dBin dIxA (dVar 3) (dC (.int 0))) (dCons (dApp cTuple (dCons (dComp (iRng1D (dCons (dBin dMod (dApp c__law_take (dCons (dVar 0) (dNil))) (dC (.int 4))) (dNil))) (.one 5) (dYes) (d__law_book_C1 c__law_take c__law_inside) [5]) (dNil))) (dNil)))) (dDrop (dBMT "list" mAppend (dVar 2) (dCons (dTup (dCons (dC (.str "record")) (dCons (dVar 4) (dNil)))) (dNil))))
def d__law_book_C2 (c__law_take : DF) (c__law_inside : DF) : DE := dApp c__law_inside (dCons (dVar 0) (dCons (dVar 1) (dCons (dVar 2) (dNil))))
def d__law_book_L1 (c__law_take : DF) (c__law_inside : DF) : DS := dDrop (dBMT "list" mAppend (dVar 6) (dCons (dApp cTuple (dCons (dComp (iRng1D (dCons (dBin dMod (dApp c__law_take (dCons (dVar 0) (dNil))) (dC (.int 3))) (dNil))) (.one 7) (dYes) (d__law_book_C2 c__law_take c__law_inside) [7]) (dNil))) (dNil)))
def d__law_book_B2 (c__law_take : DF) (c__law_inside : DF) : DS := dSeq (dAsg (dNew (dNil)) (gN 6)) (dSeq (dFor (iRng1D (dCons (dBin dAdd (dC (.int 1)) (dBin dMod (dApp c__law_take (dCons (dVar 0) (dNil))) (dC (.int 3)))) (dNil))) (gN 5) (d__law_book_L1 c__law_take c__law_inside)) (dSeq (dDrop (dBMT "list" mAppend (dBin dIxA (dVar 3) (dC (.int 1))) (dCons (dApp cTuple (dCons (dVar 6) (dNil))) (dNil)))) (dDrop (dBMT "list" mAppend (dVar 2) (dCons (dTup (dCons (dC (.str "variant")) (dCons (dVar 4) (dNil)))) (dNil))))))
def d__law_book_L2 (c__law_take : DF) (c__law_inside : DF) : DS := dSeq (dIfS (dTst (dBin (dLtI) (dVar 4) (dBin dIxA (dVar 1) (dC (.str "record"))))) (d__law_book_B1 c__law_take c__law_inside) (dNext)) (dIfS (dTst (dBin (dLtI) (dVar 4) (dBin dIxA (dVar 1) (dC (.str "variant"))))) (d__law_book_B2 c__law_take c__law_inside) (dNext))
def d__law_book (c__law_take : DF) (c__law_inside : DF) : DS := dSeq (dAsg (dDisp (dPCons (dC (.str "record")) (dBin dAdd (dC (.int 1)) (dBin dMod (dApp c__law_take (dCons (dVar 0) (dNil))) (dC (.int 3)))) (dPCons (dC (.str "variant")) (dBin dAdd (dC (.int 1)) (dBin dMod (dApp c__law_take (dCons (dVar 0) (dNil))) (dC (.int 3)))) (dPNil)))) (gN 1)) (dSeq (dAsg (dNew (dNil)) (gN 2)) (dSeq (dAsg (dTup (dCons (dNew (dNil)) (dCons (dNew (dNil)) (dNil)))) (gN 3)) (dSeq (dFor (iRng1D (dCons (dC (.int 3)) (dNil))) (gN 4) (d__law_book_L2 c__law_take c__law_inside)) (dRet (dTup (dCons (dApp cTuple (dCons (dBin dIxA (dVar 3) (dC (.int 0))) (dNil))) (dCons (dApp cTuple (dCons (dBin dIxA (dVar 3) (dC (.int 1))) (dNil))) (dNil))))))))
def F__law_book (c__law_take : DF) (c__law_inside : DF) : DF := dDef 8 1 (d__law_book c__law_take c__law_inside)
/-- _law_flat(_law_book_here, _law_kind, _law_one, _law_tag) -/
def d__law_flat_C1 (c__law_flat : DF) : DE := dApp c__law_flat (dCons (dVar 0) (dCons (dVar 2) (dNil)))
def d__law_flat_B1 (c__law_flat : DF) : DS := dRet (dApp cSum1 (dCons (dComp (iAny (dBin dIxA (dBin dIxA (dVar 0) (dC (.int 0))) (dBin dIxA (dVar 1) (dC (.int 1))))) (.one 2) (dYes) (d__law_flat_C1 c__law_flat) [2]) (dNil)))
def d__law_flat_C2 (c__law_flat : DF) : DE := dApp c__law_flat (dCons (dVar 0) (dCons (dVar 2) (dNil)))
def d__law_flat_C3 (c__law_flat : DF) : DE := dApp cSum1 (dCons (dComp (iAny (dVar 3)) (.one 2) (dYes) (d__law_flat_C2 c__law_flat) [2]) (dNil))
def d__law_flat_B2 (c__law_flat : DF) : DS := dRet (dBin dAdd (dC (.int 1)) (dApp cMax1 (dCons (dComp (iAny (dBin dIxA (dBin dIxA (dVar 0) (dC (.int 1))) (dBin dIxA (dVar 1) (dC (.int 1))))) (.one 3) (dYes) (d__law_flat_C3 c__law_flat) [3]) (dNil))))
def d__law_flat_R1 (c__law_flat : DF) : DS := dSeq (dIfS (dTst (dBin (dEq false) (dBin dIxA (dVar 1) (dC (.int 0))) (dC (.str "variant")))) (d__law_flat_B2 c__law_flat) (dNext)) (dRet (dC (.int 1)))
def d__law_flat_R2 (c__law_flat : DF) : DS := dSeq (dIfS (dTst (dBin (dEq false) (dBin dIxA (dVar 1) (dC (.int 0))) (dC (.str "record")))) (d__law_flat_B1 c__law_flat) (dNext)) (d__law_flat_R1 c__law_flat)
def d__law_flat (c__law_flat : DF) : DS := dSeq (dIfS (dTst (dBin (dEq false) (dBin dIxA (dVar 1) (dC (.int 0))) (dC (.str "vec")))) (dRet (dC (.int 3))) (dNext)) (d__law_flat_R2 c__law_flat)
def F__law_flat (c__law_flat : DF) : DF := dDef 4 2 (d__law_flat c__law_flat)
/-- _law_value(_law_d, _law_book_here, _law_kind, _law_deep, _law_one, _law_tag, _law_many, _law_k) -/
def d__law_value_B1 (c__law_take : DF) (c__law_value : DF) (c__law_finite : DF) : DS := dRet (dBin dIxA (dLst (dCons (dC (.int 0)) (dCons (dC (.int 1)) (dCons (dC (.int 7)) (dCons (dC (.int 4294967295)) (dCons (dC (.int 255)) (dNil))))))) (dBin dMod (dApp c__law_take (dCons (dVar 0) (dNil))) (dC (.int 5))))
def d__law_value_C1 (c__law_take : DF) (c__law_value : DF) (c__law_finite : DF) : DE := dApp c__law_value (dCons (dVar 0) (dCons (dVar 1) (dCons (dVar 4) (dCons (dBin dSub (dVar 3) (dC (.int 1))) (dNil)))))
def d__law_value_B2 (c__law_take : DF) (c__law_value : DF) (c__law_finite : DF) : DS := dRet (dTup (dCons (dC (.str "record")) (dCons (dApp cTuple (dCons (dComp (iAny (dBin dIxA (dBin dIxA (dVar 1) (dC (.int 0))) (dBin dIxA (dVar 2) (dC (.int 1))))) (.one 4) (dYes) (d__law_value_C1 c__law_take c__law_value c__law_finite) [4]) (dNil))) (dNil))))
def d__law_value_C2 (c__law_take : DF) (c__law_value : DF) (c__law_finite : DF) : DE := dVar 4
def d__law_value_Q1 (c__law_take : DF) (c__law_value : DF) (c__law_finite : DF) : DT := dNotT (dTru (dApp c__law_finite (dCons (dVar 1) (dCons (dVar 4) (dCons (dLst (dNil)) (dNil))))))
def d__law_value_B3 (c__law_take : DF) (c__law_value : DF) (c__law_finite : DF) : DS := dSeq (dAsg (dBin dMod (dApp c__law_take (dCons (dVar 0) (dNil))) (dApp cLen (dCons (dBin dIxA (dBin dIxA (dVar 1) (dC (.int 1))) (dBin dIxA (dVar 2) (dC (.int 1)))) (dNil)))) (gN 5)) (dIfS (dTst (dBin (dEq true) (dComp (iAny (dBin dIxA (dBin dIxA (dBin dIxA (dVar 1) (dC (.int 1))) (dBin dIxA (dVar 2) (dC (.int 1)))) (dVar 5))) (.one 4) (d__law_value_Q1 c__law_take c__law_value c__law_finite) (d__law_value_C2 c__law_take c__law_value c__law_finite) [4]) (dLst (dNil)))) (dAsg (dC (.int 0)) (gN 5)) (dNext))
def d__law_value_C3 (c__law_take : DF) (c__law_value : DF) (c__law_finite : DF) : DE := dApp c__law_value (dCons (dVar 0) (dCons (dVar 1) (dCons (dVar 4) (dCons (dBin dSub (dVar 3) (dC (.int 1))) (dNil)))))
def d__law_value_B4 (c__law_take : DF) (c__law_value : DF) (c__law_finite : DF) : DS := dSeq (dAsg (dC (.int 0)) (gN 5)) (dSeq (dIfS (dTst (dBin (dGtI) (dVar 3) (dC (.int 0)))) (d__law_value_B3 c__law_take c__law_value c__law_finite) (dNext)) (dRet (dTup (dCons (dC (.str "variant")) (dCons (dVar 5) (dCons (dApp cTuple (dCons (dComp (iAny (dBin dIxA (dBin dIxA (dBin dIxA (dVar 1) (dC (.int 1))) (dBin dIxA (dVar 2) (dC (.int 1)))) (dVar 5))) (.one 4) (dYes) (d__law_value_C3 c__law_take c__law_value c__law_finite) [4]) (dNil))) (dNil)))))))
def d__law_value_B5 (c__law_take : DF) (c__law_value : DF) (c__law_finite : DF) : DS := dRet (dTup (dCons (dC (.str "box")) (dCons (dApp c__law_value (dCons (dVar 0) (dCons (dVar 1) (dCons (dBin dIxA (dVar 2) (dC (.int 1))) (dCons (dBin dSub (dVar 3) (dC (.int 1))) (dNil)))))) (dNil))))
def d__law_value_C4 (c__law_take : DF) (c__law_value : DF) (c__law_finite : DF) : DE := dApp c__law_value (dCons (dVar 0) (dCons (dVar 1) (dCons (dBin dIxA (dVar 2) (dC (.int 1))) (dCons (dBin dSub (dVar 3) (dC (.int 1))) (dNil)))))
def d__law_value_R1 (c__law_take : DF) (c__law_value : DF) (c__law_finite : DF) : DS := dSeq (dAsg (dC (.int 0)) (gN 6)) (dSeq (dIfS (dAndT (dTst (dBin (dGtI) (dVar 3) (dC (.int 0)))) (dTru (dApp c__law_finite (dCons (dVar 1) (dCons (dBin dIxA (dVar 2) (dC (.int 1))) (dCons (dLst (dNil)) (dNil))))))) (dAsg (dBin dMod (dApp c__law_take (dCons (dVar 0) (dNil))) (dC (.int 3))) (gN 6)) (dNext)) (dRet (dTup (dCons (dC (.str "vec")) (dCons (dApp cTuple (dCons (dComp (iRng1D (dCons (dVar 6) (dNil))) (.one 7) (dYes) (d__law_value_C4 c__law_take c__law_value c__law_finite) [7]) (dNil))) (dNil))))))
def d__law_value_R2 (c__law_take : DF) (c__law_value : DF) (c__law_finite : DF) : DS := dSeq (dIfS (dTst (dBin (dEq false) (dBin dIxA (dVar 2) (dC (.int 0))) (dC (.str "box")))) (d__law_value_B5 c__law_take c__law_value c__law_finite) (dNext)) (d__law_value_R1 c__law_take c__law_value c__law_finite)
def d__law_value_R3 (c__law_take : DF) (c__law_value : DF) (c__law_finite : DF) : DS := dSeq (dIfS (dTst (dBin (dEq false) (dBin dIxA (dVar 2) (dC (.int 0))) (dC (.str "variant")))) (d__law_value_B4 c__law_take c__law_value c__law_finite) (dNext)) (d__law_value_R2 c__law_take c__law_value c__law_finite)
def d__law_value_R4 (c__law_take : DF) (c__law_value : DF) (c__law_finite : DF) : DS := dSeq (dIfS (dTst (dBin (dEq false) (dBin dIxA (dVar 2) (dC (.int 0))) (dC (.str "record")))) (d__law_value_B2 c__law_take c__law_value c__law_finite) (dNext)) (d__law_value_R3 c__law_take c__law_value c__law_finite)
def d__law_value_R5 (c__law_take : DF) (c__law_value : DF) (c__law_finite : DF) : DS := dSeq (dIfS (dTst (dBin (dEq false) (dBin dIxA (dVar 2) (dC (.int 0))) (dC (.str "bool")))) (dRet (dBin (dEq false) (dBin dMod (dApp c__law_take (dCons (dVar 0) (dNil))) (dC (.int 2))) (dC (.int 0)))) (dNext)) (d__law_value_R4 c__law_take c__law_value c__law_finite)
def d__law_value (c__law_take : DF) (c__law_value : DF) (c__law_finite : DF) : DS := dSeq (dIfS (dTst (dBin (dEq false) (dBin dIxA (dVar 2) (dC (.int 0))) (dC (.str "int")))) (d__law_value_B1 c__law_take c__law_value c__law_finite) (dNext)) (d__law_value_R5 c__law_take c__law_value c__law_finite)
def F__law_value (c__law_take : DF) (c__law_value : DF) (c__law_finite : DF) : DF := dDef 8 4 (d__law_value c__law_take c__law_value c__law_finite)
/-- _law_spoilt(_law_d, _law_thing, _law_steps, _law_things, _law_at) -/
def d__law_spoilt_B1 (c__law_take : DF) (c__law_spoilt : DF) : DS := dRet (dBin dIxA (dLst (dCons (dSl (dVar 1) (dNoPart) (dPart (dNeg (dC (.int 1))))) (dCons (dBin dAdd (dVar 1) (dSl (dVar 1) (dPart (dNeg (dC (.int 1)))) (dNoPart))) (dNil)))) (dBin dMod (dApp c__law_take (dCons (dVar 0) (dNil))) (dC (.int 2))))
def d__law_spoilt_R1 (c__law_take : DF) (c__law_spoilt : DF) : DS := dSeq (dAsg (dBin dMod (dApp c__law_take (dCons (dVar 0) (dNil))) (dBin dAdd (dApp cLen (dCons (dVar 1) (dNil))) (dC (.int 1)))) (gN 4)) (dSeq (dIfS (dTst (dBin (dEq false) (dVar 4) (dApp cLen (dCons (dVar 1) (dNil))))) (d__law_spoilt_B1 c__law_take c__law_spoilt) (dNext)) (dRet (dBin dAdd (dBin dAdd (dSl (dVar 1) (dNoPart) (dPart (dVar 4))) (dTup (dCons (dApp c__law_spoilt (dCons (dVar 0) (dCons (dBin dIxA (dVar 1) (dVar 4)) (dCons (dBin dSub (dVar 2) (dC (.int 1))) (dNil))))) (dNil)))) (dSl (dVar 1) (dPart (dBin dAdd (dVar 4) (dC (.int 1)))) (dNoPart)))))
def d__law_spoilt (c__law_take : DF) (c__law_spoilt : DF) : DS := dSeq (dAsg (dLst (dCons (dC .non) (dCons (dC (.bl true)) (dCons (dC (.bl false)) (dCons (dNeg (dC (.int 1))) (dCons (dC (.int 0)) (dCons (dC (.int 5)) (dCons (dC (.int 4294967296)) (dCons (dC (.str "box")) (dCons (dTup (dNil)) (dCons (dTup (dCons (dC (.str "box")) (dCons (dC (.int 1)) (dNil)))) (dCons (dTup (dCons (dC (.str "vec")) (dCons (dTup (dNil)) (dNil)))) (dCons (dTup (dCons (dC (.str "record")) (dCons (dTup (dNil)) (dNil)))) (dCons (dTup (dCons (dC (.str "variant")) (dCons (dC (.int 0)) (dCons (dTup (dNil)) (dNil))))) (dCons (dTup (dCons (dC (.str "variant")) (dCons (dC (.int 9)) (dCons (dTup (dNil)) (dNil))))) (dNil)))))))))))))))) (gN 3)) (dSeq (dIfS (dOrT (dNotT (dTru (dApp (cIsi "tuple") (dCons (dVar 1) (dCons (dC (.raw (.ty "tuple"))) (dNil)))))) (dOrT (dTst (dBin (dEq false) (dVar 1) (dTup (dNil)))) (dTst (dBin (dLeI) (dVar 2) (dC (.int 0)))))) (dRet (dBin dIxA (dVar 3) (dBin dMod (dApp c__law_take (dCons (dVar 0) (dNil))) (dApp cLen (dCons (dVar 3) (dNil)))))) (dNext)) (d__law_spoilt_R1 c__law_take c__law_spoilt))
def F__law_spoilt (c__law_take : DF) (c__law_spoilt : DF) : DF := dDef 5 3 (d__law_spoilt c__law_take c__law_spoilt)
/-- _law_all_are(_law_book_here, _law_kinds, _law_thing, _law_k) -/
def d__law_all_are_C1 (c__law_is_value : DF) : DE := dVar 3
def d__law_all_are_Q1 (c__law_is_value : DF) : DT := dNotT (dTru (dApp c__law_is_value (dCons (dVar 0) (dCons (dBin dIxA (dVar 1) (dVar 3)) (dCons (dBin dIxA (dVar 2) (dVar 3)) (dNil))))))
def d__law_all_are (c__law_is_value : DF) : DS := dSeq (dIfS (dOrT (dNotT (dTru (dApp (cIsi "tuple") (dCons (dVar 2) (dCons (dC (.raw (.ty "tuple"))) (dNil)))))) (dTst (dBin (dEq true) (dApp cLen (dCons (dVar 2) (dNil))) (dApp cLen (dCons (dVar 1) (dNil)))))) (dRet (dC (.bl false))) (dNext)) (dRet (dBin (dEq false) (dComp (iRng1D (dCons (dApp cLen (dCons (dVar 1) (dNil))) (dNil))) (.one 3) (d__law_all_are_Q1 c__law_is_value) (d__law_all_are_C1 c__law_is_value) [3]) (dLst (dNil))))
def F__law_all_are (c__law_is_value : DF) : DF := dDef 4 3 (d__law_all_are c__law_is_value)
/-- _law_is_value(_law_book_here, _law_kind, _law_thing, _law_tags) -/
def d__law_is_value_B1 (c__law_all_are : DF) (c__law_is_value : DF) : DS := dRet (dAndV (dApp (cIsi "int") (dCons (dVar 2) (dCons (dC (.raw (.ty "int"))) (dNil)))) (dAndV (dNotV (dApp (cIsi "bool") (dCons (dVar 2) (dCons (dC (.raw (.ty "bool"))) (dNil))))) (dAndV (dBin (dLeI) (dC (.int 0)) (dVar 2)) (dBin (dLtI) (dVar 2) (dC (.int 4294967296))))))
def d__law_is_value_B2 (c__law_all_are : DF) (c__law_is_value : DF) : DS := dSeq (dAsg (dBin dIxA (dBin dIxA (dVar 0) (dC (.int 1))) (dBin dIxA (dVar 1) (dC (.int 1)))) (gN 3)) (dSeq (dIfS (dOrT (dTst (dBin (dEq true) (dApp cLen (dCons (dVar 2) (dNil))) (dC (.int 3)))) (dOrT (dNotT (dTru (dApp (cIsi "int") (dCons (dBin dIxA (dVar 2) (dC (.int 1))) (dCons (dC (.raw (.ty "int"))) (dNil)))))) (dOrT (dTru (dApp (cIsi "bool") (dCons (dBin dIxA (dVar 2) (dC (.int 1))) (dCons (dC (.raw (.ty "bool"))) (dNil))))) (dOrT (dNotT (dTst (dBin (dLeI) (dC (.int 0)) (dBin dIxA (dVar 2) (dC (.int 1)))))) (dTst (dBin (dGeI) (dBin dIxA (dVar 2) (dC (.int 1))) (dApp cLen (dCons (dVar 3) (dNil))))))))) (dRet (dC (.bl false))) (dNext)) (dRet (dApp c__law_all_are (dCons (dVar 0) (dCons (dBin dIxA (dVar 3) (dBin dIxA (dVar 2) (dC (.int 1)))) (dCons (dBin dIxA (dVar 2) (dC (.int 2))) (dNil)))))))
def d__law_is_value_B3 (c__law_all_are : DF) (c__law_is_value : DF) : DS := dRet (dApp c__law_all_are (dCons (dVar 0) (dCons (dBin dIxA (dBin dIxA (dVar 0) (dC (.int 0))) (dBin dIxA (dVar 1) (dC (.int 1)))) (dCons (dBin dIxA (dVar 2) (dC (.int 1))) (dNil)))))
def d__law_is_value_R1 (c__law_all_are : DF) (c__law_is_value : DF) : DS := dSeq (dIfS (dTst (dBin (dEq false) (dBin dIxA (dVar 1) (dC (.int 0))) (dC (.str "box")))) (dRet (dApp c__law_is_value (dCons (dVar 0) (dCons (dBin dIxA (dVar 1) (dC (.int 1))) (dCons (dBin dIxA (dVar 2) (dC (.int 1))) (dNil)))))) (dNext)) (dRet (dAndV (dApp (cIsi "tuple") (dCons (dBin dIxA (dVar 2) (dC (.int 1))) (dCons (dC (.raw (.ty "tuple"))) (dNil)))) (dApp c__law_all_are (dCons (dVar 0) (dCons (dBin dRepT0 (dTup (dCons (dBin dIxA (dVar 1) (dC (.int 1))) (dNil))) (dApp cLen (dCons (dBin dIxA (dVar 2) (dC (.int 1))) (dNil)))) (dCons (dBin dIxA (dVar 2) (dC (.int 1))) (dNil)))))))
def d__law_is_value_R2 (c__law_all_are : DF) (c__law_is_value : DF) : DS := dSeq (dIfS (dTst (dBin (dEq false) (dBin dIxA (dVar 1) (dC (.int 0))) (dC (.str "record")))) (d__law_is_value_B3 c__law_all_are c__law_is_value) (dNext)) (d__law_is_value_R1 c__law_all_are c__law_is_value)
def d__law_is_value_R3 (c__law_all_are : DF) (c__law_is_value : DF) : DS := dSeq (dIfS (dTst (dBin (dEq true) (dApp cLen (dCons (dVar 2) (dNil))) (dC (.int 2)))) (dRet (dC (.bl false))) (dNext)) (d__law_is_value_R2 c__law_all_are c__law_is_value)
def d__law_is_value_R4 (c__law_all_are : DF) (c__law_is_value : DF) : DS := dSeq (dIfS (dTst (dBin (dEq false) (dBin dIxA (dVar 1) (dC (.int 0))) (dC (.str "variant")))) (d__law_is_value_B2 c__law_all_are c__law_is_value) (dNext)) (d__law_is_value_R3 c__law_all_are c__law_is_value)
def d__law_is_value_R5 (c__law_all_are : DF) (c__law_is_value : DF) : DS := dSeq (dIfS (dOrT (dNotT (dTru (dApp (cIsi "tuple") (dCons (dVar 2) (dCons (dC (.raw (.ty "tuple"))) (dNil)))))) (dOrT (dTst (dBin (dEq false) (dVar 2) (dTup (dNil)))) (dOrT (dNotT (dTru (dApp (cIsi "str") (dCons (dBin dIxA (dVar 2) (dC (.int 0))) (dCons (dC (.raw (.ty "str"))) (dNil)))))) (dTst (dBin (dEq true) (dBin dIxA (dVar 2) (dC (.int 0))) (dBin dIxA (dVar 1) (dC (.int 0)))))))) (dRet (dC (.bl false))) (dNext)) (d__law_is_value_R4 c__law_all_are c__law_is_value)
def d__law_is_value_R6 (c__law_all_are : DF) (c__law_is_value : DF) : DS := dSeq (dIfS (dTst (dBin (dEq false) (dBin dIxA (dVar 1) (dC (.int 0))) (dC (.str "bool")))) (dRet (dApp (cIsi "bool") (dCons (dVar 2) (dCons (dC (.raw (.ty "bool"))) (dNil))))) (dNext)) (d__law_is_value_R5 c__law_all_are c__law_is_value)
def d__law_is_value (c__law_all_are : DF) (c__law_is_value : DF) : DS := dSeq (dIfS (dTst (dBin (dEq false) (dBin dIxA (dVar 1) (dC (.int 0))) (dC (.str "int")))) (d__law_is_value_B1 c__law_all_are c__law_is_value) (dNext)) (d__law_is_value_R6 c__law_all_are c__law_is_value)
def F__law_is_value (c__law_all_are : DF) (c__law_is_value : DF) : DF := dDef 4 3 (d__law_is_value c__law_all_are c__law_is_value)
/-- _law_finite(_law_book_here, _law_kind, _law_seen, _law_one) -/
def d__law_finite_C1 (c__law_finite : DF) : DE := dVar 3
def d__law_finite_Q1 (c__law_finite : DF) : DT := dNotT (dTru (dApp c__law_finite (dCons (dVar 0) (dCons (dVar 3) (dCons (dBin dAdd (dVar 2) (dLst (dCons (dVar 1) (dNil)))) (dNil))))))
def d__law_finite_B1 (c__law_finite : DF) : DS := dRet (dBin (dEq false) (dComp (iAny (dBin dIxA (dBin dIxA (dVar 0) (dC (.int 0))) (dBin dIxA (dVar 1) (dC (.int 1))))) (.one 3) (d__law_finite_Q1 c__law_finite) (d__law_finite_C1 c__law_finite) [3]) (dLst (dNil)))
def d__law_finite_C2 (c__law_finite : DF) : DE := dVar 3
def d__law_finite_Q2 (c__law_finite : DF) : DT := dNotT (dTru (dApp c__law_finite (dCons (dVar 0) (dCons (dVar 3) (dCons (dBin dAdd (dVar 2) (dLst (dCons (dVar 1) (dNil)))) (dNil))))))
def d__law_finite_B2 (c__law_finite : DF) : DS := dRet (dBin (dEq false) (dComp (iAny (dBin dIxA (dBin dIxA (dBin dIxA (dVar 0) (dC (.int 1))) (dBin dIxA (dVar 1) (dC (.int 1)))) (dC (.int 0)))) (.one 3) (d__law_finite_Q2 c__law_finite) (d__law_finite_C2 c__law_finite) [3]) (dLst (dNil)))
def d__law_finite_R1 (c__law_finite : DF) : DS := dSeq (dIfS (dTst (dBin (dEq false) (dBin dIxA (dVar 1) (dC (.int 0))) (dC (.str "variant")))) (d__law_finite_B2 c__law_finite) (dNext)) (dRet (dC (.bl true)))
def d__law_finite_R2 (c__law_finite : DF) : DS := dSeq (dIfS (dTst (dBin (dEq false) (dBin dIxA (dVar 1) (dC (.int 0))) (dC (.str "record")))) (d__law_finite_B1 c__law_finite) (dNext)) (d__law_finite_R1 c__law_finite)
def d__law_finite_R3 (c__law_finite : DF) : DS := dSeq (dIfS (dTst (dBin (dEq false) (dBin dIxA (dVar 1) (dC (.int 0))) (dC (.str "box")))) (dRet (dApp c__law_finite (dCons (dVar 0) (dCons (dBin dIxA (dVar 1) (dC (.int 1))) (dCons (dVar 2) (dNil)))))) (dNext)) (d__law_finite_R2 c__law_finite)
def d__law_finite (c__law_finite : DF) : DS := dSeq (dIfS (dTst (dBin (dInA false) (dVar 1) (dVar 2))) (dRet (dC (.bl false))) (dNext)) (d__law_finite_R3 c__law_finite)
def F__law_finite (c__law_finite : DF) : DF := dDef 4 3 (d__law_finite c__law_finite)
/-- _law_places_right(_law_book_here, _law_n, _law_i, _law_one, _law_tag, _law_parts) -/
def d__law_places_right_C1 (c_field_place : DF) (c__law_flat : DF) (c_part_place : DF) : DE := dApp c__law_flat (dCons (dVar 0) (dCons (dVar 3) (dNil)))
def d__law_places_right_L1 (c_field_place : DF) (c__law_flat : DF) (c_part_place : DF) : DS := dIfS (dTst (dBin (dEq true) (dApp c_field_place (dCons (dVar 0) (dCons (dVar 1) (dCons (dVar 2) (dNil))))) (dApp cSum1 (dCons (dComp (iAny (dSl (dBin dIxA (dBin dIxA (dVar 0) (dC (.int 0))) (dVar 1)) (dNoPart) (dPart (dVar 2)))) (.one 3) (dYes) (d__law_places_right_C1 c_field_place c__law_flat c_part_place) [3]) (dNil))))) (dRet (dC (.bl false))) (dNext)
def d__law_places_right_L2 (c_field_place : DF) (c__law_flat : DF) (c_part_place : DF) : DS := dFor (iRng1D (dCons (dApp cLen (dCons (dBin dIxA (dBin dIxA (dVar 0) (dC (.int 0))) (dVar 1)) (dNil))) (dNil))) (gN 2) (d__law_places_right_L1 c_field_place c__law_flat c_part_place)
def d__law_places_right_C2 (c_field_place : DF) (c__law_flat : DF) (c_part_place : DF) : DE := dApp c__law_flat (dCons (dVar 0) (dCons (dVar 3) (dNil)))
def d__law_places_right_L3 (c_field_place : DF) (c__law_flat : DF) (c_part_place : DF) : DS := dIfS (dTst (dBin (dEq true) (dApp c_part_place (dCons (dVar 0) (dCons (dVar 1) (dCons (dVar 4) (dCons (dVar 2) (dNil)))))) (dBin dAdd (dC (.int 1)) (dApp cSum1 (dCons (dComp (iAny (dSl (dVar 5) (dNoPart) (dPart (dVar 2)))) (.one 3) (dYes) (d__law_places_right_C2 c_field_place c__law_flat c_part_place) [3]) (dNil)))))) (dRet (dC (.bl false))) (dNext)
def d__law_places_right_L4 (c_field_place : DF) (c__law_flat : DF) (c_part_place : DF) : DS := dSeq (dAsg (dBin dIxA (dBin dIxA (dBin dIxA (dVar 0) (dC (.int 1))) (dVar 1)) (dVar 4)) (gN 5)) (dFor (iRng1D (dCons (dApp cLen (dCons (dVar 5) (dNil))) (dNil))) (gN 2) (d__law_places_right_L3 c_field_place c__law_flat c_part_place))
def d__law_places_right_L5 (c_field_place : DF) (c__law_flat : DF) (c_part_place : DF) : DS := dFor (iRng1D (dCons (dApp cLen (dCons (dBin dIxA (dBin dIxA (dVar 0) (dC (.int 1))) (dVar 1)) (dNil))) (dNil))) (gN 4) (d__law_places_right_L4 c_field_place c__law_flat c_part_place)
def d__law_places_right (c_field_place : DF) (c__law_flat : DF) (c_part_place : DF) : DS := dSeq (dFor (iRng1D (dCons (dApp cLen (dCons (dBin dIxA (dVar 0) (dC (.int 0))) (dNil))) (dNil))) (gN 1) (d__law_places_right_L2 c_field_place c__law_flat c_part_place)) (dSeq (dFor (iRng1D (dCons (dApp cLen (dCons (dBin dIxA (dVar 0) (dC (.int 1))) (dNil))) (dNil))) (gN 1) (d__law_places_right_L5 c_field_place c__law_flat c_part_place)) (dRet (dC (.bl true))))
def F__law_places_right (c_field_place : DF) (c__law_flat : DF) (c_part_place : DF) : DF := dDef 6 1 (d__law_places_right c_field_place c__law_flat c_part_place)
/-- law(_law_script, _law_d, _law_book_here, _law_counts, _law_k, _law_kind, _law_value_here, _law_turn, _law_told) -/
def d_law_L1 (c__law_start : DF) (c__law_book : DF) (c__law_places_right : DF) (c__law_data : DF) (c_size_of : DF) (c__law_flat : DF) (c__law_finite : DF) (c__law_value : DF) (c_is_value : DF) (c__law_spoilt : DF) (c__law_take : DF) (c__law_is_value : DF) : DS := dSeq (dAsg (dApp c__law_spoilt (dCons (dVar 1) (dCons (dVar 6) (dCons (dBin dAdd (dC (.int 1)) (dBin dMod (dApp c__law_take (dCons (dVar 1) (dNil))) (dC (.int 4)))) (dNil))))) (gN 6)) (dSeq (dAsg (dApp c_is_value (dCons (dVar 2) (dCons (dVar 5) (dCons (dVar 6) (dNil))))) (gN 8)) (dIfS (dOrT (dNotT (dTru (dApp (cIsi "bool") (dCons (dVar 8) (dCons (dC (.raw (.ty "bool"))) (dNil)))))) (dTst (dBin (dEq true) (dVar 8) (dApp c__law_is_value (dCons (dVar 2) (dCons (dVar 5) (dCons (dVar 6) (dNil)))))))) (dRet (dC (.bl false))) (dNext)))
def d_law_B1 (c__law_start : DF) (c__law_book : DF) (c__law_places_right : DF) (c__law_data : DF) (c_size_of : DF) (c__law_flat : DF) (c__law_finite : DF) (c__law_value : DF) (c_is_value : DF) (c__law_spoilt : DF) (c__law_take : DF) (c__law_is_value : DF) : DS := dSeq (dAsg (dApp c__law_value (dCons (dVar 1) (dCons (dVar 2) (dCons (dVar 5) (dCons (dC (.int 5)) (dNil)))))) (gN 6)) (dSeq (dIfS (dTst (dBin (dIs true) (dApp c_is_value (dCons (dVar 2) (dCons (dVar 5) (dCons (dVar 6) (dNil))))) (dC (.bl true)))) (dRet (dC (.bl false))) (dNext)) (dFor (iRng1D (dCons (dC (.int 3)) (dNil))) (gN 7) (d_law_L1 c__law_start c__law_book c__law_places_right c__law_data c_size_of c__law_flat c__law_finite c__law_value c_is_value c__law_spoilt c__law_take c__law_is_value)))
def d_law_L2 (c__law_start : DF) (c__law_book : DF) (c__law_places_right : DF) (c__law_data : DF) (c_size_of : DF) (c__law_flat : DF) (c__law_finite : DF) (c__law_value : DF) (c_is_value : DF) (c__law_spoilt : DF) (c__law_take : DF) (c__law_is_value : DF) : DS := dSeq (dAsg (dApp c__law_data (dCons (dVar 1) (dCons (dVar 3) (dCons (dC (.int 3)) (dNil))))) (gN 5)) (dSeq (dIfS (dOrT (dTst (dBin (dEq true) (dApp c_size_of (dCons (dVar 2) (dCons (dVar 5) (dNil)))) (dApp c__law_flat (dCons (dVar 2) (dCons (dVar 5) (dNil)))))) (dOrT (dTst (dBin (dEq true) (dApp c_size_of (dCons (dVar 2) (dCons (dTup (dCons (dC (.str "ref")) (dCons (dVar 5) (dNil)))) (dNil)))) (dC (.int 1)))) (dTst (dBin (dEq true) (dApp c_size_of (dCons (dVar 2) (dCons (dTup (dCons (dC (.str "mut")) (dCons (dVar 5) (dNil)))) (dNil)))) (dC (.int 1)))))) (dRet (dC (.bl false))) (dNext)) (dIfS (dTru (dApp c__law_finite (dCons (dVar 2) (dCons (dVar 5) (dCons (dLst (dNil)) (dNil)))))) (d_law_B1 c__law_start c__law_book c__law_places_right c__law_data c_size_of c__law_flat c__law_finite c__law_value c_is_value c__law_spoilt c__law_take c__law_is_value) (dNext)))
def d_law_R1 (c__law_start : DF) (c__law_book : DF) (c__law_places_right : DF) (c__law_data : DF) (c_size_of : DF) (c__law_flat : DF) (c__law_finite : DF) (c__law_value : DF) (c_is_value : DF) (c__law_spoilt : DF) (c__law_take : DF) (c__law_is_value : DF) : DS := dSeq (dFor (iRng1D (dCons (dC (.int 6)) (dNil))) (gN 4) (d_law_L2 c__law_start c__law_book c__law_places_right c__law_data c_size_of c__law_flat c__law_finite c__law_value c_is_value c__law_spoilt c__law_take c__law_is_value)) (dRet (dC (.bl true)))
def d_law (c__law_start : DF) (c__law_book : DF) (c__law_places_right : DF) (c__law_data : DF) (c_size_of : DF) (c__law_flat : DF) (c__law_finite : DF) (c__law_value : DF) (c_is_value : DF) (c__law_spoilt : DF) (c__law_take : DF) (c__law_is_value : DF) : DS := dSeq (dAsg (dApp c__law_start (dCons (dVar 0) (dNil))) (gN 1)) (dSeq (dAsg (dApp c__law_book (dCons (dVar 1) (dNil))) (gN 2)) (dSeq (dAsg (dDisp (dPCons (dC (.str "record")) (dApp cLen (dCons (dBin dIxA (dVar 2) (dC (.int 0))) (dNil))) (dPCons (dC (.str "variant")) (dApp cLen (dCons (dBin dIxA (dVar 2) (dC (.int 1))) (dNil))) (dPNil)))) (gN 3)) (dSeq (dIfS (dNotT (dTru (dApp c__law_places_right (dCons (dVar 2) (dNil))))) (dRet (dC (.bl false))) (dNext)) (d_law_R1 c__law_start c__law_book c__law_places_right c__law_data c_size_of c__law_flat c__law_finite c__law_value c_is_value c__law_spoilt c__law_take c__law_is_value))))
def F_law (c__law_start : DF) (c__law_book : DF) (c__law_places_right : DF) (c__law_data : DF) (c_size_of : DF) (c__law_flat : DF) (c__law_finite : DF) (c__law_value : DF) (c_is_value : DF) (c__law_spoilt : DF) (c__law_take : DF) (c__law_is_value : DF) : DF := dDef 9 1 (d_law c__law_start c__law_book c__law_places_right c__law_data c_size_of c__law_flat c__law_finite c__law_value c_is_value c__law_spoilt c__law_take c__law_is_value)
noncomputable abbrev X_is_number : DF := (F_is_number)
noncomputable abbrev X_has_word : DF := (F_has_word)
noncomputable def RS_named_size (r : DF × DF × DF) : DF × DF × DF := ((F_named_size (r.2.2)), (F_flat_size (r.1)), (F_sum_of_sizes (r.2.1)))
noncomputable def RR_named_size : Nat → DF × DF × DF
  | 0 => ((fun _ _ => R.bad), (fun _ _ => R.bad), (fun _ _ => R.bad))
  | n + 1 => RS_named_size (RR_named_size n)
noncomputable def R_named_size (n : Nat) : DF := (RR_named_size n).1
noncomputable def R_flat_size (n : Nat) : DF := (RR_named_size n).2.1
noncomputable def R_sum_of_sizes (n : Nat) : DF := (RR_named_size n).2.2
theorem R_named_size_succ (n : Nat) : R_named_size (n + 1) = (F_named_size (R_sum_of_sizes n)) := rfl
noncomputable abbrev X_named_size : DF := R_named_size 260
theorem R_flat_size_succ (n : Nat) : R_flat_size (n + 1) = (F_flat_size (R_named_size n)) := rfl
noncomputable abbrev X_flat_size : DF := R_flat_size 260
theorem R_sum_of_sizes_succ (n : Nat) : R_sum_of_sizes (n + 1) = (F_sum_of_sizes (R_flat_size n)) := rfl
noncomputable abbrev X_sum_of_sizes : DF := R_sum_of_sizes 260
noncomputable abbrev X_size_of : DF := (trimF (F_size_of X_flat_size))
noncomputable abbrev X_field_place : DF := (trimF (F_field_place X_sum_of_sizes))
noncomputable abbrev X_part_place : DF := (trimF (F_part_place X_sum_of_sizes))
noncomputable def RS_are_values (r : DF × DF) : DF × DF := ((F_are_values (r.2)), (F_is_value X_is_number X_has_word (r.1) (r.2)))
noncomputable def RR_are_values : Nat → DF × DF
  | 0 => ((fun _ _ => R.bad), (fun _ _ => R.bad))
  | n + 1 => RS_are_values (RR_are_values n)
noncomputable def R_are_values (n : Nat) : DF := (RR_are_values n).1
noncomputable def R_is_value (n : Nat) : DF := (RR_are_values n).2
theorem R_are_values_succ (n : Nat) : R_are_values (n + 1) = (F_are_values (R_is_value n)) := rfl
noncomputable abbrev X_are_values : DF := R_are_values 140
theorem R_is_value_succ (n : Nat) : R_is_value (n + 1) = (F_is_value X_is_number X_has_word (R_are_values n) (R_is_value n)) := rfl
noncomputable abbrev X_is_value : DF := R_is_value 140
noncomputable abbrev X__law_draws : DF := (trimF (F__law_draws))
noncomputable abbrev X__law_take : DF := (F__law_take)
noncomputable abbrev X__law_start : DF := (F__law_start X__law_draws)
noncomputable def RS__law_data (r : DF) : DF := (F__law_data X__law_take (r))
noncomputable def RR__law_data : Nat → DF
  | 0 => (fun _ _ => R.bad)
  | n + 1 => RS__law_data (RR__law_data n)
noncomputable def R__law_data (n : Nat) : DF := (RR__law_data n)
theorem R__law_data_succ (n : Nat) : R__law_data (n + 1) = (F__law_data X__law_take (R__law_data n)) := rfl
noncomputable abbrev X__law_data : DF := R__law_data 60
noncomputable abbrev X__law_inside : DF := (F__law_inside X__law_take X__law_data)
noncomputable abbrev X__law_book : DF := (trimF (F__law_book X__law_take X__law_inside))
noncomputable def RS__law_flat (r : DF) : DF := (F__law_flat (r))
noncomputable def RR__law_flat : Nat → DF
  | 0 => (fun _ _ => R.bad)
  | n + 1 => RS__law_flat (RR__law_flat n)
noncomputable def R__law_flat (n : Nat) : DF := (RR__law_flat n)
theorem R__law_flat_succ (n : Nat) : R__law_flat (n + 1) = (F__law_flat (R__law_flat n)) := rfl
noncomputable abbrev X__law_flat : DF := R__law_flat 90
noncomputable def RS__law_finite (r : DF) : DF := (F__law_finite (r))
noncomputable def RR__law_finite : Nat → DF
  | 0 => (fun _ _ => R.bad)
  | n + 1 => RS__law_finite (RR__law_finite n)
noncomputable def R__law_finite (n : Nat) : DF := (RR__law_finite n)
theorem R__law_finite_succ (n : Nat) : R__law_finite (n + 1) = (F__law_finite (R__law_finite n)) := rfl
noncomputable abbrev X__law_finite : DF := R__law_finite 60
noncomputable def RS__law_value (r : DF) : DF := (F__law_value X__law_take (r) X__law_finite)
noncomputable def RR__law_value : Nat → DF
  | 0 => (fun _ _ => R.bad)
  | n + 1 => RS__law_value (RR__law_value n)
noncomputable def R__law_value (n : Nat) : DF := (RR__law_value n)
theorem R__law_value_succ (n : Nat) : R__law_value (n + 1) = (F__law_value X__law_take (R__law_value n) X__law_finite) := rfl
noncomputable abbrev X__law_value : DF := R__law_value 60
noncomputable def RS__law_spoilt (r : DF) : DF := (F__law_spoilt X__law_take (r))
noncomputable def RR__law_spoilt : Nat → DF
  | 0 => (fun _ _ => R.bad)
  | n + 1 => RS__law_spoilt (RR__law_spoilt n)
noncomputable def R__law_spoilt (n : Nat) : DF := (RR__law_spoilt n)
theorem R__law_spoilt_succ (n : Nat) : R__law_spoilt (n + 1) = (F__law_spoilt X__law_take (R__law_spoilt n)) := rfl
noncomputable abbrev X__law_spoilt : DF := R__law_spoilt 60
noncomputable def RS__law_all_are (r : DF × DF) : DF × DF := ((F__law_all_are (r.2)), (F__law_is_value (r.1) (r.2)))
noncomputable def RR__law_all_are : Nat → DF × DF
  | 0 => ((fun _ _ => R.bad), (fun _ _ => R.bad))
  | n + 1 => RS__law_all_are (RR__law_all_are n)
noncomputable def R__law_all_are (n : Nat) : DF := (RR__law_all_are n).1
noncomputable def R__law_is_value (n : Nat) : DF := (RR__law_all_are n).2
theorem R__law_all_are_succ (n : Nat) : R__law_all_are (n + 1) = (F__law_all_are (R__law_is_value n)) := rfl
noncomputable abbrev X__law_all_are : DF := R__law_all_are 140
theorem R__law_is_value_succ (n : Nat) : R__law_is_value (n + 1) = (F__law_is_value (R__law_all_are n) (R__law_is_value n)) := rfl
noncomputable abbrev X__law_is_value : DF := R__law_is_value 140
noncomputable abbrev X__law_places_right : DF := (F__law_places_right X_field_place X__law_flat X_part_place)
noncomputable abbrev X_law : DF := (F_law X__law_start X__law_book X__law_places_right X__law_data X_size_of X__law_flat X__law_finite X__law_value X_is_value X__law_spoilt X__law_take X__law_is_value)
end
end K41

namespace K41
open PySem PySem.Spec PyProof.Rows L2 DL
def top (i : Nat) : Stmt := PySem.Challenge.pw_oneowner_k41_sizes_and_values.main.body.getD i (.Pass ⟨0, 0, 0, 0⟩)
structure Tx (K : PySem.W.Frag) (mg : Str → Option Value) (w : World) (cl : Cl) : Prop where
  b_abs : mg "abs" = none
  b_all : mg "all" = none
  b_bool : mg "bool" = none
  b_int : mg "int" = none
  b_isinstance : mg "isinstance" = none
  b_len : mg "len" = none
  b_max : mg "max" = none
  b_range : mg "range" = none
  b_str : mg "str" = none
  b_sum : mg "sum" = none
  b_tuple : mg "tuple" = none
  b_zip : mg "zip" = none
  k_WORD : ConstAt K mg "WORD" k_WORD
  t_SIZES : TabAt K w mg "SIZES" k_SIZES
  h_SIZES : TabHas K w mg "SIZES" yk_SIZES nk_SIZES
  hw : cl.w = w
section
variable {P : Program} {w : World} {K : PySem.W.Frag} {mg : Str → Option Value} {base : Heap} {cl : Cl}
abbrev s_is_number : Stmt := top 3
abbrev N_is_number : List Str := ["thing", "many"]
theorem sc_is_number : FnScope ["thing", "many"] ["thing", "many"] (defScope s_is_number) := ⟨rfl, rfl, rfl, by decide +kernel, rfl, by decide +kernel, by decide +kernel⟩
theorem ok_is_number (T : Tx K mg w cl) {k : Nat} {f : Addr} {fd : FuncData} (F : Fun K "is_number" "is_number" s_is_number f fd) :
    FnD P w K mg base cl (k + 1) f fd ["thing", "many"] (F_is_number) :=
  FnD.of F sc_is_number fun cdv A outer s H E hr => (js_one (js_ret (j_vand (j_callB cj_isi_int (by rfl) T.b_isinstance bb_isinstance (ja_cons (j_var (pv 0)) (ja_cons (j_ty (by rfl) T.b_int bb_int) ja_nil))) (j_vand (j_vnot (j_callB cj_isi_bool (by rfl) T.b_isinstance bb_isinstance (ja_cons (j_var (pv 0)) (ja_cons (j_ty (by rfl) T.b_bool bb_bool) ja_nil)))) (j_vone (j_chain oj_le oj_lt j_int (j_var (pv 0)) (j_var (pv 1))))))))
abbrev s_has_word : Stmt := top 4
abbrev N_has_word : List Str := ["thing"]
theorem sc_has_word : FnScope ["thing"] ["thing"] (defScope s_has_word) := ⟨rfl, rfl, rfl, by decide +kernel, rfl, by decide +kernel, by decide +kernel⟩
theorem ok_has_word (T : Tx K mg w cl) {k : Nat} {f : Addr} {fd : FuncData} (F : Fun K "has_word" "has_word" s_has_word f fd) :
    FnD P w K mg base cl (k + 1) f fd ["thing"] (F_has_word) :=
  FnD.of F sc_has_word fun cdv A outer s H E hr => (js_one (js_ret (j_vand (j_callB cj_isi_tuple (by rfl) T.b_isinstance bb_isinstance (ja_cons (j_var (pv 0)) (ja_cons (j_ty (by rfl) T.b_tuple bb_tuple) ja_nil))) (j_vand (j_cmp oj_gt (j_callB cj_len (by rfl) T.b_len bb_len (ja_cons (j_var (pv 0)) ja_nil)) j_int (nomark _)) (j_vone (j_callB cj_isi_str (by rfl) T.b_isinstance bb_isinstance (ja_cons (j_ixA (Room.u1 hr) (j_var (pv 0)) j_int) (ja_cons (j_ty (by rfl) T.b_str bb_str) ja_nil))))))))
abbrev s_named_size : Stmt := top 5
abbrev N_named_size : List Str := ["book", "kind", "known", "sums", "tag"]
theorem sc_named_size : FnScope ["book", "kind", "known", "sums", "tag"] ["book", "kind", "known"] (defScope s_named_size) := ⟨rfl, rfl, rfl, by decide +kernel, rfl, by decide +kernel, by decide +kernel⟩
theorem ok_named_size (T : Tx K mg w cl) {k : Nat} {f : Addr} {fd : FuncData} (F : Fun K "named_size" "named_size" s_named_size f fd) {c_sum_of_sizes : DF} {f_sum_of_sizes : Addr} {fd_sum_of_sizes : FuncData} (D_sum_of_sizes : DefAt K mg "sum_of_sizes" f_sum_of_sizes fd_sum_of_sizes ["book", "kinds", "known"]) (G_sum_of_sizes : FnD P w K mg base cl k f_sum_of_sizes fd_sum_of_sizes ["book", "kinds", "known"] c_sum_of_sizes) :
    FnD P w K mg base cl (k + 1) f fd ["book", "kind", "known"] (F_named_size c_sum_of_sizes) :=
  FnD.of F sc_named_size fun cdv A outer s H E hr => (js_cons (js_if (j_tdnotinT T.hw (Room.u1 hr) (j_var (pv 1)) (j_var (pv 2))) (js_cons (js_dputT T.hw (Room.u1 hr) (j_var (pv 2)) (j_var (pv 1)) (j_neg j_int))
    (js_one (js_if (j_tcmp (oj_eq (Room.u64 hr)) (j_ixA (Room.u1 hr) (j_var (pv 1)) j_int) j_str (nomark _)) (js_one (js_dputT T.hw (Room.u1 hr) (j_var (pv 2)) (j_var (pv 1)) (j_call pass_def G_sum_of_sizes hr (by rfl) D_sum_of_sizes.mgf D_sum_of_sizes.kp D_sum_of_sizes.bi (ja_cons (j_var (pv 0)) (ja_cons (j_ixA (Room.u1 hr) (j_ixA (Room.u1 hr) (j_var (pv 0)) j_int) (j_ixA (Room.u1 hr) (j_var (pv 1)) j_int)) (ja_cons (j_var (pv 2)) ja_nil)))))) (js_cons (js_setLc (i := 3) (own := [("tag", 4)]) (tg := .one 4) rfl sc_named_size.nd rfl rfl (sw_true rfl rfl rfl (by decide +kernel)) (ji_any (j_ixA (Room.u1 hr) (j_ixA (Room.u1 hr) (j_var (pv 0)) j_int) (j_ixA (Room.u1 hr) (j_var (pv 1)) j_int))) (blkOk_by (N := N_named_size) (sc := defScope s_named_size) (by decide +kernel)) (by decide) (fun _ _ _ _ _ => pg_name (i := 4) sc_named_size.nd rfl (by first | exact Or.inl rfl | exact Or.inr rfl)) (fun _ _ _ _ _ => jts_nil) (fun _ _ _ _ _ => (j_call pass_blk G_sum_of_sizes hr (by rfl) D_sum_of_sizes.mgf D_sum_of_sizes.kp D_sum_of_sizes.bi (ja_cons (j_var (pv 0)) (ja_cons (j_var (pv 4)) (ja_cons (j_var (pv 2)) ja_nil))))))
    (js_one (js_dputT T.hw (Room.u1 hr) (j_var (pv 2)) (j_var (pv 1)) (j_if (j_tinA (Room.u65 hr) (j_neg j_int) (j_var (pv 3))) (j_neg j_int) (j_op oj_add j_int (j_callB (cj_max1 rfl) (by rfl) T.b_max bb_max (ja_cons (j_var (pv 3)) ja_nil)))))))))) js_nil)
    (js_one (js_ret (j_dgetT T.hw (Room.u1 hr) (j_var (pv 2)) (j_var (pv 1))))))
abbrev s_flat_size : Stmt := top 6
abbrev N_flat_size : List Str := ["book", "kind", "known"]
theorem sc_flat_size : FnScope ["book", "kind", "known"] ["book", "kind", "known"] (defScope s_flat_size) := ⟨rfl, rfl, rfl, by decide +kernel, rfl, by decide +kernel, by decide +kernel⟩
theorem ok_flat_size (T : Tx K mg w cl) {k : Nat} {f : Addr} {fd : FuncData} (F : Fun K "flat_size" "flat_size" s_flat_size f fd) {c_named_size : DF} {f_named_size : Addr} {fd_named_size : FuncData} (D_named_size : DefAt K mg "named_size" f_named_size fd_named_size ["book", "kind", "known"]) (G_named_size : FnD P w K mg base cl k f_named_size fd_named_size ["book", "kind", "known"] c_named_size) :
    FnD P w K mg base cl (k + 1) f fd ["book", "kind", "known"] (F_flat_size c_named_size) :=
  FnD.of F sc_flat_size fun cdv A outer s H E hr => (js_cons (js_if (j_tintab (by rfl) T.h_SIZES (j_ixA (Room.u1 hr) (j_var (pv 1)) j_int)) (js_one (js_ret (j_tab (by rfl) T.t_SIZES (j_ixA (Room.u1 hr) (j_var (pv 1)) j_int)))) js_nil)
    (js_one (js_ret (j_call pass_def G_named_size hr (by rfl) D_named_size.mgf D_named_size.kp D_named_size.bi (ja_cons (j_var (pv 0)) (ja_cons (j_var (pv 1)) (ja_cons (j_var (pv 2)) ja_nil)))))))
abbrev s_sum_of_sizes : Stmt := top 7
abbrev N_sum_of_sizes : List Str := ["book", "kinds", "known", "sizes", "kind"]
theorem sc_sum_of_sizes : FnScope ["book", "kinds", "known", "sizes", "kind"] ["book", "kinds", "known"] (defScope s_sum_of_sizes) := ⟨rfl, rfl, rfl, by decide +kernel, rfl, by decide +kernel, by decide +kernel⟩
theorem ok_sum_of_sizes (T : Tx K mg w cl) {k : Nat} {f : Addr} {fd : FuncData} (F : Fun K "sum_of_sizes" "sum_of_sizes" s_sum_of_sizes f fd) {c_flat_size : DF} {f_flat_size : Addr} {fd_flat_size : FuncData} (D_flat_size : DefAt K mg "flat_size" f_flat_size fd_flat_size ["book", "kind", "known"]) (G_flat_size : FnD P w K mg base cl k f_flat_size fd_flat_size ["book", "kind", "known"] c_flat_size) :
    FnD P w K mg base cl (k + 1) f fd ["book", "kinds", "known"] (F_sum_of_sizes c_flat_size) :=
  FnD.of F sc_sum_of_sizes fun cdv A outer s H E hr => (js_cons (js_setLc (i := 3) (own := [("kind", 4)]) (tg := .one 4) rfl sc_sum_of_sizes.nd rfl rfl (sw_true rfl rfl rfl (by decide +kernel)) (ji_any (j_var (pv 1))) (blkOk_by (N := N_sum_of_sizes) (sc := defScope s_sum_of_sizes) (by decide +kernel)) (by decide) (fun _ _ _ _ _ => pg_name (i := 4) sc_sum_of_sizes.nd rfl (by first | exact Or.inl rfl | exact Or.inr rfl)) (fun _ _ _ _ _ => jts_nil) (fun _ _ _ _ _ => (j_call pass_blk G_flat_size hr (by rfl) D_flat_size.mgf D_flat_size.kp D_flat_size.bi (ja_cons (j_var (pv 0)) (ja_cons (j_var (pv 4)) (ja_cons (j_var (pv 2)) ja_nil))))))
    (js_cons (js_if (j_tinA (Room.u65 hr) (j_neg j_int) (j_var (pv 3))) (js_one (js_ret (j_neg j_int))) js_nil)
    (js_one (js_ret (j_callB (cj_sum1 rfl) (by rfl) T.b_sum bb_sum (ja_cons (j_var (pv 3)) ja_nil))))))
abbrev s_size_of : Stmt := top 8
abbrev N_size_of : List Str := ["book", "kind"]
theorem sc_size_of : FnScope ["book", "kind"] ["book", "kind"] (defScope s_size_of) := ⟨rfl, rfl, rfl, by decide +kernel, rfl, by decide +kernel, by decide +kernel⟩
theorem ok_size_of (T : Tx K mg w cl) {k : Nat} {f : Addr} {fd : FuncData} (F : Fun K "size_of" "size_of" s_size_of f fd) {c_flat_size : DF} {f_flat_size : Addr} {fd_flat_size : FuncData} (D_flat_size : DefAt K mg "flat_size" f_flat_size fd_flat_size ["book", "kind", "known"]) (G_flat_size : FnD P w K mg base cl k f_flat_size fd_flat_size ["book", "kind", "known"] c_flat_size) :
    FnD P w K mg base cl (k + 1) f fd ["book", "kind"] (F_size_of c_flat_size) :=
  FnD.of F sc_size_of fun cdv A outer s H E hr => (js_one (js_ret (j_call pass_def G_flat_size hr (by rfl) D_flat_size.mgf D_flat_size.kp D_flat_size.bi (ja_cons (j_var (pv 0)) (ja_cons (j_var (pv 1)) (ja_cons (j_dispT T.hw) ja_nil))))))
abbrev s_field_place : Stmt := top 9
abbrev N_field_place : List Str := ["book", "n", "i"]
theorem sc_field_place : FnScope ["book", "n", "i"] ["book", "n", "i"] (defScope s_field_place) := ⟨rfl, rfl, rfl, by decide +kernel, rfl, by decide +kernel, by decide +kernel⟩
theorem ok_field_place (T : Tx K mg w cl) {k : Nat} {f : Addr} {fd : FuncData} (F : Fun K "field_place" "field_place" s_field_place f fd) {c_sum_of_sizes : DF} {f_sum_of_sizes : Addr} {fd_sum_of_sizes : FuncData} (D_sum_of_sizes : DefAt K mg "sum_of_sizes" f_sum_of_sizes fd_sum_of_sizes ["book", "kinds", "known"]) (G_sum_of_sizes : FnD P w K mg base cl k f_sum_of_sizes fd_sum_of_sizes ["book", "kinds", "known"] c_sum_of_sizes) :
    FnD P w K mg base cl (k + 1) f fd ["book", "n", "i"] (F_field_place c_sum_of_sizes) :=
  FnD.of F sc_field_place fun cdv A outer s H E hr => (js_one (js_ret (j_call pass_def G_sum_of_sizes hr (by rfl) D_sum_of_sizes.mgf D_sum_of_sizes.kp D_sum_of_sizes.bi (ja_cons (j_var (pv 0)) (ja_cons (j_slice (j_ixA (Room.u1 hr) (j_ixA (Room.u1 hr) (j_var (pv 0)) j_int) (j_var (pv 1))) jo_none (jo_some (j_var (pv 2)))) (ja_cons (j_dispT T.hw) ja_nil))))))
abbrev s_part_place : Stmt := top 10
abbrev N_part_place : List Str := ["book", "n", "tag", "i"]
theorem sc_part_place : FnScope ["book", "n", "tag", "i"] ["book", "n", "tag", "i"] (defScope s_part_place) := ⟨rfl, rfl, rfl, by decide +kernel, rfl, by decide +kernel, by decide +kernel⟩
theorem ok_part_place (T : Tx K mg w cl) {k : Nat} {f : Addr} {fd : FuncData} (F : Fun K "part_place" "part_place" s_part_place f fd) {c_sum_of_sizes : DF} {f_sum_of_sizes : Addr} {fd_sum_of_sizes : FuncData} (D_sum_of_sizes : DefAt K mg "sum_of_sizes" f_sum_of_sizes fd_sum_of_sizes ["book", "kinds", "known"]) (G_sum_of_sizes : FnD P w K mg base cl k f_sum_of_sizes fd_sum_of_sizes ["book", "kinds", "known"] c_sum_of_sizes) :
    FnD P w K mg base cl (k + 1) f fd ["book", "n", "tag", "i"] (F_part_place c_sum_of_sizes) :=
  FnD.of F sc_part_place fun cdv A outer s H E hr => (js_one (js_ret (j_op oj_add j_int (j_call pass_def G_sum_of_sizes hr (by rfl) D_sum_of_sizes.mgf D_sum_of_sizes.kp D_sum_of_sizes.bi (ja_cons (j_var (pv 0)) (ja_cons (j_slice (j_ixA (Room.u1 hr) (j_ixA (Room.u1 hr) (j_ixA (Room.u1 hr) (j_var (pv 0)) j_int) (j_var (pv 1))) (j_var (pv 2))) jo_none (jo_some (j_var (pv 3)))) (ja_cons (j_dispT T.hw) ja_nil)))))))
abbrev s_are_values : Stmt := top 11
abbrev N_are_values : List Str := ["book", "kinds", "thing", "kind", "one"]
theorem sc_are_values : FnScope ["book", "kinds", "thing", "kind", "one"] ["book", "kinds", "thing"] (defScope s_are_values) := ⟨rfl, rfl, rfl, by decide +kernel, rfl, by decide +kernel, by decide +kernel⟩
theorem ok_are_values (T : Tx K mg w cl) {k : Nat} {f : Addr} {fd : FuncData} (F : Fun K "are_values" "are_values" s_are_values f fd) {c_is_value : DF} {f_is_value : Addr} {fd_is_value : FuncData} (D_is_value : DefAt K mg "is_value" f_is_value fd_is_value ["book", "kind", "thing"]) (G_is_value : FnD P w K mg base cl k f_is_value fd_is_value ["book", "kind", "thing"] c_is_value) :
    FnD P w K mg base cl (k + 1) f fd ["book", "kinds", "thing"] (F_are_values c_is_value) :=
  FnD.of F sc_are_values fun cdv A outer s H E hr => (js_cons (js_if (j_w (j_or (j_tnot (j_tru (j_callB cj_isi_tuple (by rfl) T.b_isinstance bb_isinstance (ja_cons (j_var (pv 2)) (ja_cons (j_ty (by rfl) T.b_tuple bb_tuple) ja_nil))) (fun _ => rfl))) (j_or1 (j_tcmp (oj_ne (Room.u64 hr)) (j_callB cj_len (by rfl) T.b_len bb_len (ja_cons (j_var (pv 2)) ja_nil)) (j_callB cj_len (by rfl) T.b_len bb_len (ja_cons (j_var (pv 1)) ja_nil)) (nomark _))))) (js_one (js_ret j_bl)) js_nil)
    (js_one (js_ret (j_callB (cj_all1 rfl) (by rfl) T.b_all bb_all (ja_cons (j_lc (own := [("kind", 3), ("one", 4)]) (tg := .tup [3, 4]) rfl sc_are_values.nd (ji_zip (by rfl) T.b_zip (ja_cons (j_var (pv 1)) (ja_cons (j_var (pv 2)) ja_nil))) (blkOk_by (N := N_are_values) (sc := defScope s_are_values) (by decide +kernel)) (by decide) (fun _ _ _ _ _ => pg_tup rfl (pgs_cons (pg_name (i := 3) sc_are_values.nd rfl (by first | exact Or.inl rfl | exact Or.inr rfl)) (pgs_cons (pg_name (i := 4) sc_are_values.nd rfl (by first | exact Or.inl rfl | exact Or.inr rfl)) pgs_nil))) (fun _ _ _ _ _ => jts_nil) (fun _ _ _ _ _ => (j_call pass_blk G_is_value hr (by rfl) D_is_value.mgf D_is_value.kp D_is_value.bi (ja_cons (j_var (pv 0)) (ja_cons (j_var (pv 3)) (ja_cons (j_var (pv 4)) ja_nil)))))) ja_nil)))))
abbrev s_is_value : Stmt := top 12
abbrev N_is_value : List Str := ["book", "kind", "thing", "one"]
theorem sc_is_value : FnScope ["book", "kind", "thing", "one"] ["book", "kind", "thing"] (defScope s_is_value) := ⟨rfl, rfl, rfl, by decide +kernel, rfl, by decide +kernel, by decide +kernel⟩
theorem ok_is_value (T : Tx K mg w cl) {k : Nat} {f : Addr} {fd : FuncData} (F : Fun K "is_value" "is_value" s_is_value f fd) {c_is_number : DF} {f_is_number : Addr} {fd_is_number : FuncData} (D_is_number : DefAt K mg "is_number" f_is_number fd_is_number ["thing", "many"]) (G_is_number : FnD P w K mg base cl k f_is_number fd_is_number ["thing", "many"] c_is_number) {c_has_word : DF} {f_has_word : Addr} {fd_has_word : FuncData} (D_has_word : DefAt K mg "has_word" f_has_word fd_has_word ["thing"]) (G_has_word : FnD P w K mg base cl k f_has_word fd_has_word ["thing"] c_has_word) {c_are_values : DF} {f_are_values : Addr} {fd_are_values : FuncData} (D_are_values : DefAt K mg "are_values" f_are_values fd_are_values ["book", "kinds", "thing"]) (G_are_values : FnD P w K mg base cl k f_are_values fd_are_values ["book", "kinds", "thing"] c_are_values) {c_is_value : DF} {f_is_value : Addr} {fd_is_value : FuncData} (D_is_value : DefAt K mg "is_value" f_is_value fd_is_value ["book", "kind", "thing"]) (G_is_value : FnD P w K mg base cl k f_is_value fd_is_value ["book", "kind", "thing"] c_is_value) :
    FnD P w K mg base cl (k + 1) f fd ["book", "kind", "thing"] (F_is_value c_is_number c_has_word c_are_values c_is_value) :=
  FnD.of F sc_is_value fun cdv A outer s H E hr => (js_cons (js_if (j_tcmp (oj_eq (Room.u64 hr)) (j_ixA (Room.u1 hr) (j_var (pv 1)) j_int) j_str (nomark _)) (js_one (js_ret (j_call pass_def G_is_number hr (by rfl) D_is_number.mgf D_is_number.kp D_is_number.bi (ja_cons (j_var (pv 2)) (ja_cons (j_const (by rfl) T.k_WORD) ja_nil))))) js_nil)
    (js_cons (js_if (j_tcmp (oj_eq (Room.u64 hr)) (j_ixA (Room.u1 hr) (j_var (pv 1)) j_int) j_str (nomark _)) (js_one (js_ret (j_callB cj_isi_bool (by rfl) T.b_isinstance bb_isinstance (ja_cons (j_var (pv 2)) (ja_cons (j_ty (by rfl) T.b_bool bb_bool) ja_nil))))) js_nil)
    (js_cons (js_if (j_w (j_or (j_tnot (j_tru (j_call pass_def G_has_word hr (by rfl) D_has_word.mgf D_has_word.kp D_has_word.bi (ja_cons (j_var (pv 2)) ja_nil)) (fun _ => rfl))) (j_or1 (j_tcmp (oj_ne (Room.u64 hr)) (j_ixA (Room.u1 hr) (j_var (pv 2)) j_int) (j_ixA (Room.u1 hr) (j_var (pv 1)) j_int) (nomark _))))) (js_one (js_ret j_bl)) js_nil)
    (js_cons (js_if (j_tcmp (oj_eq (Room.u64 hr)) (j_ixA (Room.u1 hr) (j_var (pv 1)) j_int) j_str (nomark _)) (js_cons (js_if (j_w (j_or (j_tcmp (oj_ne (Room.u64 hr)) (j_callB cj_len (by rfl) T.b_len bb_len (ja_cons (j_var (pv 2)) ja_nil)) j_int (nomark _)) (j_or1 (j_tnot (j_tru (j_call pass_def G_is_number hr (by rfl) D_is_number.mgf D_is_number.kp D_is_number.bi (ja_cons (j_ixA (Room.u1 hr) (j_var (pv 2)) j_int) (ja_cons (j_callB cj_len (by rfl) T.b_len bb_len (ja_cons (j_ixA (Room.u1 hr) (j_ixA (Room.u1 hr) (j_var (pv 0)) j_int) (j_ixA (Room.u1 hr) (j_var (pv 1)) j_int)) ja_nil)) ja_nil))) (fun _ => rfl)))))) (js_one (js_ret j_bl)) js_nil)
    (js_one (js_ret (j_call pass_def G_are_values hr (by rfl) D_are_values.mgf D_are_values.kp D_are_values.bi (ja_cons (j_var (pv 0)) (ja_cons (j_ixA (Room.u1 hr) (j_ixA (Room.u1 hr) (j_ixA (Room.u1 hr) (j_var (pv 0)) j_int) (j_ixA (Room.u1 hr) (j_var (pv 1)) j_int)) (j_ixA (Room.u1 hr) (j_var (pv 2)) j_int)) (ja_cons (j_ixA (Room.u1 hr) (j_var (pv 2)) j_int) ja_nil))))))) js_nil)
    (js_cons (js_if (j_tcmp (oj_ne (Room.u64 hr)) (j_callB cj_len (by rfl) T.b_len bb_len (ja_cons (j_var (pv 2)) ja_nil)) j_int (nomark _)) (js_one (js_ret j_bl)) js_nil)
    (js_cons (js_if (j_tcmp (oj_eq (Room.u64 hr)) (j_ixA (Room.u1 hr) (j_var (pv 1)) j_int) j_str (nomark _)) (js_one (js_ret (j_call pass_def G_are_values hr (by rfl) D_are_values.mgf D_are_values.kp D_are_values.bi (ja_cons (j_var (pv 0)) (ja_cons (j_ixA (Room.u1 hr) (j_ixA (Room.u1 hr) (j_var (pv 0)) j_int) (j_ixA (Room.u1 hr) (j_var (pv 1)) j_int)) (ja_cons (j_ixA (Room.u1 hr) (j_var (pv 2)) j_int) ja_nil)))))) js_nil)
    (js_cons (js_if (j_tcmp (oj_eq (Room.u64 hr)) (j_ixA (Room.u1 hr) (j_var (pv 1)) j_int) j_str (nomark _)) (js_one (js_ret (j_call pass_def G_is_value hr (by rfl) D_is_value.mgf D_is_value.kp D_is_value.bi (ja_cons (j_var (pv 0)) (ja_cons (j_ixA (Room.u1 hr) (j_var (pv 1)) j_int) (ja_cons (j_ixA (Room.u1 hr) (j_var (pv 2)) j_int) ja_nil)))))) js_nil)
    (js_one (js_ret (j_vand (j_callB cj_isi_tuple (by rfl) T.b_isinstance bb_isinstance (ja_cons (j_ixA (Room.u1 hr) (j_var (pv 2)) j_int) (ja_cons (j_ty (by rfl) T.b_tuple bb_tuple) ja_nil))) (j_vone (j_callB (cj_all1 rfl) (by rfl) T.b_all bb_all (ja_cons (j_lc (own := [("one", 3)]) (tg := .one 3) rfl sc_is_value.nd (ji_any (j_ixA (Room.u1 hr) (j_var (pv 2)) j_int)) (blkOk_by (N := N_is_value) (sc := defScope s_is_value) (by decide +kernel)) (by decide) (fun _ _ _ _ _ => pg_name (i := 3) sc_is_value.nd rfl (by first | exact Or.inl rfl | exact Or.inr rfl)) (fun _ _ _ _ _ => jts_nil) (fun _ _ _ _ _ => (j_call pass_blk G_is_value hr (by rfl) D_is_value.mgf D_is_value.kp D_is_value.bi (ja_cons (j_var (pv 0)) (ja_cons (j_ixA (Room.u1 hr) (j_var (pv 1)) j_int) (ja_cons (j_var (pv 3)) ja_nil)))))) ja_nil)))))))))))))
abbrev s__law_draws : Stmt := top 14
abbrev N__law_draws : List Str := ["_law_script", "_law_many", "_law_draws_here", "_law_mixed", "_law_k", "_law_cell", "_law_rest", "_law_turn"]
theorem sc__law_draws : FnScope ["_law_script", "_law_many", "_law_draws_here", "_law_mixed", "_law_k", "_law_cell", "_law_rest", "_law_turn"] ["_law_script", "_law_many"] (defScope s__law_draws) := ⟨rfl, rfl, rfl, by decide +kernel, rfl, by decide +kernel, by decide +kernel⟩
theorem ok__law_draws (T : Tx K mg w cl) {k : Nat} {f : Addr} {fd : FuncData} (F : Fun K "_law_draws" "_law_draws" s__law_draws f fd) :
    FnD P w K mg base cl (k + 1) f fd ["_law_script", "_law_many"] (F__law_draws) :=
  FnD.of F sc__law_draws fun cdv A outer s H E hr => (js_cons (js_set (i := 2) sc__law_draws.nd rfl (by first | exact Or.inl rfl | exact Or.inr rfl) (j_new ja_nil))
    (js_cons (js_set (i := 3) sc__law_draws.nd rfl (by first | exact Or.inl rfl | exact Or.inr rfl) j_int)
    (js_cons (js_for cx_def (ji_rng1 (by rfl) T.b_range (ja_cons (j_callB cj_len (by rfl) T.b_len bb_len (ja_cons (j_var (pv 0)) ja_nil)) ja_nil)) (jg_name (pg_name (i := 4) sc__law_draws.nd rfl (by first | exact Or.inl rfl | exact Or.inr rfl))) (js_cons (js_set (i := 5) sc__law_draws.nd rfl (by first | exact Or.inl rfl | exact Or.inr rfl) (j_callB cj_abs (by rfl) T.b_abs bb_abs (ja_cons (j_callTy cj_int (by rfl) T.b_int bb_int (ja_cons (j_ixA (Room.u1 hr) (j_var (pv 0)) (j_var (pv 4))) ja_nil)) ja_nil)))
    (js_cons (js_set (i := 3) sc__law_draws.nd rfl (by first | exact Or.inl rfl | exact Or.inr rfl) (j_op oj_mod (j_callTy cj_int (by rfl) T.b_int bb_int (ja_cons (j_op oj_add (j_op oj_add (j_op oj_mulB (j_var (pv 3)) j_int) (j_op oj_mod (j_var (pv 5)) j_int)) (j_var (pv 4))) ja_nil)) j_int))
    (js_cons (js_set (i := 6) sc__law_draws.nd rfl (by first | exact Or.inl rfl | exact Or.inr rfl) j_int)
    (js_cons (js_if (j_tcmp oj_ge (j_var (pv 5)) (j_op oj_pow j_int j_int) (nomark _)) (js_one (js_set (i := 6) sc__law_draws.nd rfl (by first | exact Or.inl rfl | exact Or.inr rfl) (j_var (pv 5)))) (js_cons (js_expr (j_bm PySem.F.plainAttrs_list PySem.F.slot_list_append PySem.F.type_list_append mj_append (j_var (pv 2)) (ja_cons (j_op oj_mod (j_callTy cj_int (by rfl) T.b_int bb_int (ja_cons (j_var (pv 5)) ja_nil)) j_int) ja_nil)))
    (js_one (js_expr (j_bm PySem.F.plainAttrs_list PySem.F.slot_list_append PySem.F.type_list_append mj_append (j_var (pv 2)) (ja_cons (j_op oj_mod (j_op oj_mod (j_callTy cj_int (by rfl) T.b_int bb_int (ja_cons (j_op oj_add (j_op oj_mulB (j_var (pv 3)) j_int) j_int) ja_nil)) j_int) j_int) ja_nil))))))
    (js_one (js_for cx_def (ji_rng1 (by rfl) T.b_range (ja_cons j_int ja_nil)) (jg_name (pg_name (i := 7) sc__law_draws.nd rfl (by first | exact Or.inl rfl | exact Or.inr rfl))) (js_one (js_if (j_tcmp oj_gt (j_var (pv 6)) j_int (nomark _)) (js_cons (js_expr (j_bm PySem.F.plainAttrs_list PySem.F.slot_list_append PySem.F.type_list_append mj_append (j_var (pv 2)) (ja_cons (j_op oj_mod (j_callTy cj_int (by rfl) T.b_int bb_int (ja_cons (j_var (pv 6)) ja_nil)) j_int) ja_nil)))
    (js_one (js_set (i := 6) sc__law_draws.nd rfl (by first | exact Or.inl rfl | exact Or.inr rfl) (j_op oj_div (j_var (pv 6)) j_int)))) js_nil)))))))))
    (js_cons (js_for cx_def (ji_rng1 (by rfl) T.b_range (ja_cons (j_var (pv 1)) ja_nil)) (jg_name (pg_name (i := 4) sc__law_draws.nd rfl (by first | exact Or.inl rfl | exact Or.inr rfl))) (js_cons (js_set (i := 3) sc__law_draws.nd rfl (by first | exact Or.inl rfl | exact Or.inr rfl) (j_op oj_mod (j_callTy cj_int (by rfl) T.b_int bb_int (ja_cons (j_op oj_add (j_op oj_add (j_op oj_mulB (j_var (pv 3)) j_int) (j_var (pv 4))) j_int) ja_nil)) j_int))
    (js_one (js_expr (j_bm PySem.F.plainAttrs_list PySem.F.slot_list_append PySem.F.type_list_append mj_append (j_var (pv 2)) (ja_cons (j_op oj_mod (j_callTy cj_int (by rfl) T.b_int bb_int (ja_cons (j_var (pv 3)) ja_nil)) j_int) ja_nil))))))
    (js_one (js_ret (j_slice (j_var (pv 2)) jo_none (jo_some (j_var (pv 1))))))))))
abbrev s__law_take : Stmt := top 15
abbrev N__law_take : List Str := ["_law_d", "_law_at"]
theorem sc__law_take : FnScope ["_law_d", "_law_at"] ["_law_d"] (defScope s__law_take) := ⟨rfl, rfl, rfl, by decide +kernel, rfl, by decide +kernel, by decide +kernel⟩
theorem ok__law_take (T : Tx K mg w cl) {k : Nat} {f : Addr} {fd : FuncData} (F : Fun K "_law_take" "_law_take" s__law_take f fd) :
    FnD P w K mg base cl (k + 1) f fd ["_law_d"] (F__law_take) :=
  FnD.of F sc__law_take fun cdv A outer s H E hr => (js_cons (js_set (i := 1) sc__law_take.nd rfl (by first | exact Or.inl rfl | exact Or.inr rfl) (j_callTy cj_int (by rfl) T.b_int bb_int (ja_cons (j_ixA (Room.u1 hr) (j_var (pv 0)) j_str) ja_nil)))
    (js_cons (js_putA (Room.u1 hr) (j_var (pv 0)) j_str (j_op oj_add (j_var (pv 1)) j_int))
    (js_one (js_ret (j_op oj_add (j_callTy cj_int (by rfl) T.b_int bb_int (ja_cons (j_ixA (Room.u1 hr) (j_ixA (Room.u1 hr) (j_var (pv 0)) j_str) (j_op oj_mod (j_var (pv 1)) j_int)) ja_nil)) (j_op oj_div (j_var (pv 1)) j_int))))))
abbrev s__law_start : Stmt := top 16
abbrev N__law_start : List Str := ["_law_script"]
theorem sc__law_start : FnScope ["_law_script"] ["_law_script"] (defScope s__law_start) := ⟨rfl, rfl, rfl, by decide +kernel, rfl, by decide +kernel, by decide +kernel⟩
theorem ok__law_start (T : Tx K mg w cl) {k : Nat} {f : Addr} {fd : FuncData} (F : Fun K "_law_start" "_law_start" s__law_start f fd) {c__law_draws : DF} {f__law_draws : Addr} {fd__law_draws : FuncData} (D__law_draws : DefAt K mg "_law_draws" f__law_draws fd__law_draws ["_law_script", "_law_many"]) (G__law_draws : FnD P w K mg base cl k f__law_draws fd__law_draws ["_law_script", "_law_many"] c__law_draws) :
    FnD P w K mg base cl (k + 1) f fd ["_law_script"] (F__law_start c__law_draws) :=
  FnD.of F sc__law_start fun cdv A outer s H E hr => (js_one (js_ret (j_disp (.cons j_str (j_call pass_def G__law_draws hr (by rfl) D__law_draws.mgf D__law_draws.kp D__law_draws.bi (ja_cons (j_var (pv 0)) (ja_cons j_int ja_nil))) (.cons j_str j_int .nil)))))
abbrev s__law_data : Stmt := top 17
abbrev N__law_data : List Str := ["_law_d", "_law_counts", "_law_deep", "_law_turn", "_law_word"]
theorem sc__law_data : FnScope ["_law_d", "_law_counts", "_law_deep", "_law_turn", "_law_word"] ["_law_d", "_law_counts", "_law_deep"] (defScope s__law_data) := ⟨rfl, rfl, rfl, by decide +kernel, rfl, by decide +kernel, by decide +kernel⟩
theorem ok__law_data (T : Tx K mg w cl) {k : Nat} {f : Addr} {fd : FuncData} (F : Fun K "_law_data" "_law_data" s__law_data f fd) {c__law_take : DF} {f__law_take : Addr} {fd__law_take : FuncData} (D__law_take : DefAt K mg "_law_take" f__law_take fd__law_take ["_law_d"]) (G__law_take : FnD P w K mg base cl k f__law_take fd__law_take ["_law_d"] c__law_take) {c__law_data : DF} {f__law_data : Addr} {fd__law_data : FuncData} (D__law_data : DefAt K mg "_law_data" f__law_data fd__law_data ["_law_d", "_law_counts", "_law_deep"]) (G__law_data : FnD P w K mg base cl k f__law_data fd__law_data ["_law_d", "_law_counts", "_law_deep"] c__law_data) :
    FnD P w K mg base cl (k + 1) f fd ["_law_d", "_law_counts", "_law_deep"] (F__law_data c__law_take c__law_data) :=
  FnD.of F sc__law_data fun cdv A outer s H E hr => (js_cons (js_set (i := 3) sc__law_data.nd rfl (by first | exact Or.inl rfl | exact Or.inr rfl) (j_op oj_mod (j_call pass_def G__law_take hr (by rfl) D__law_take.mgf D__law_take.kp D__law_take.bi (ja_cons (j_var (pv 0)) ja_nil)) j_int))
    (js_cons (js_if (j_w (j_or (j_tcmp oj_lt (j_var (pv 2)) j_int (nomark _)) (j_or1 (j_tcmp oj_lt (j_var (pv 3)) j_int (nomark _))))) (js_one (js_ret (j_ixA (Room.u1 hr) (j_lst (ja_cons (j_tup (ja_cons j_str ja_nil)) (ja_cons (j_tup (ja_cons j_str ja_nil)) ja_nil))) (j_op oj_mod (j_call pass_def G__law_take hr (by rfl) D__law_take.mgf D__law_take.kp D__law_take.bi (ja_cons (j_var (pv 0)) ja_nil)) j_int)))) js_nil)
    (js_cons (js_if (j_tcmp oj_lt (j_var (pv 3)) j_int (nomark _)) (js_one (js_ret (j_tup (ja_cons j_str (ja_cons (j_call pass_def G__law_data hr (by rfl) D__law_data.mgf D__law_data.kp D__law_data.bi (ja_cons (j_var (pv 0)) (ja_cons (j_var (pv 1)) (ja_cons (j_op oj_sub (j_var (pv 2)) j_int) ja_nil)))) ja_nil))))) js_nil)
    (js_cons (js_if (j_tcmp oj_lt (j_var (pv 3)) j_int (nomark _)) (js_one (js_ret (j_tup (ja_cons j_str (ja_cons (j_call pass_def G__law_data hr (by rfl) D__law_data.mgf D__law_data.kp D__law_data.bi (ja_cons (j_var (pv 0)) (ja_cons (j_var (pv 1)) (ja_cons (j_op oj_sub (j_var (pv 2)) j_int) ja_nil)))) ja_nil))))) js_nil)
    (js_cons (js_set (i := 4) sc__law_data.nd rfl (by first | exact Or.inl rfl | exact Or.inr rfl) (j_ixA (Room.u1 hr) (j_lst (ja_cons j_str (ja_cons j_str ja_nil))) (j_op oj_mod (j_call pass_def G__law_take hr (by rfl) D__law_take.mgf D__law_take.kp D__law_take.bi (ja_cons (j_var (pv 0)) ja_nil)) j_int)))
    (js_one (js_ret (j_tup (ja_cons (j_var (pv 4)) (ja_cons (j_op oj_mod (j_call pass_def G__law_take hr (by rfl) D__law_take.mgf D__law_take.kp D__law_take.bi (ja_cons (j_var (pv 0)) ja_nil)) (j_ixA (Room.u1 hr) (j_var (pv 1)) (j_var (pv 4)))) ja_nil))))))))))
abbrev s__law_inside : Stmt := top 18
abbrev N__law_inside : List Str := ["_law_d", "_law_counts", "_law_before", "_law_turn"]
theorem sc__law_inside : FnScope ["_law_d", "_law_counts", "_law_before", "_law_turn"] ["_law_d", "_law_counts", "_law_before"] (defScope s__law_inside) := ⟨rfl, rfl, rfl, by decide +kernel, rfl, by decide +kernel, by decide +kernel⟩
theorem ok__law_inside (T : Tx K mg w cl) {k : Nat} {f : Addr} {fd : FuncData} (F : Fun K "_law_inside" "_law_inside" s__law_inside f fd) {c__law_take : DF} {f__law_take : Addr} {fd__law_take : FuncData} (D__law_take : DefAt K mg "_law_take" f__law_take fd__law_take ["_law_d"]) (G__law_take : FnD P w K mg base cl k f__law_take fd__law_take ["_law_d"] c__law_take) {c__law_data : DF} {f__law_data : Addr} {fd__law_data : FuncData} (D__law_data : DefAt K mg "_law_data" f__law_data fd__law_data ["_law_d", "_law_counts", "_law_deep"]) (G__law_data : FnD P w K mg base cl k f__law_data fd__law_data ["_law_d", "_law_counts", "_law_deep"] c__law_data) :
    FnD P w K mg base cl (k + 1) f fd ["_law_d", "_law_counts", "_law_before"] (F__law_inside c__law_take c__law_data) :=
  FnD.of F sc__law_inside fun cdv A outer s H E hr => (js_cons (js_set (i := 3) sc__law_inside.nd rfl (by first | exact Or.inl rfl | exact Or.inr rfl) (j_op oj_mod (j_call pass_def G__law_take hr (by rfl) D__law_take.mgf D__law_take.kp D__law_take.bi (ja_cons (j_var (pv 0)) ja_nil)) j_int))
    (js_cons (js_if (j_w (j_or (j_tcmp (oj_eq (Room.u64 hr)) (j_var (pv 3)) j_int (nomark _)) (j_or1 (j_tcmp (oj_eq (Room.u64 hr)) (j_var (pv 2)) (j_lst ja_nil) (nomark _))))) (js_one (js_ret (j_ixA (Room.u1 hr) (j_lst (ja_cons (j_tup (ja_cons j_str ja_nil)) (ja_cons (j_tup (ja_cons j_str ja_nil)) (ja_cons (j_tup (ja_cons j_str (ja_cons (j_call pass_def G__law_data hr (by rfl) D__law_data.mgf D__law_data.kp D__law_data.bi (ja_cons (j_var (pv 0)) (ja_cons (j_var (pv 1)) (ja_cons j_int ja_nil)))) ja_nil))) (ja_cons (j_tup (ja_cons j_str (ja_cons (j_call pass_def G__law_data hr (by rfl) D__law_data.mgf D__law_data.kp D__law_data.bi (ja_cons (j_var (pv 0)) (ja_cons (j_var (pv 1)) (ja_cons j_int ja_nil)))) ja_nil))) ja_nil))))) (j_op oj_mod (j_call pass_def G__law_take hr (by rfl) D__law_take.mgf D__law_take.kp D__law_take.bi (ja_cons (j_var (pv 0)) ja_nil)) j_int)))) js_nil)
    (js_one (js_ret (j_ixA (Room.u1 hr) (j_var (pv 2)) (j_op oj_mod (j_call pass_def G__law_take hr (by rfl) D__law_take.mgf D__law_take.kp D__law_take.bi (ja_cons (j_var (pv 0)) ja_nil)) (j_callB cj_len (by rfl) T.b_len bb_len (ja_cons (j_var (pv 2)) ja_nil))))))))
abbrev s__law_book : Stmt := top 19
abbrev N__law_book : List Str := ["_law_d", "_law_counts", "_law_before", "_law_book_here", "_law_k", "_law_turn", "_law_tags", "_law_part"]
theorem sc__law_book : FnScope ["_law_d", "_law_counts", "_law_before", "_law_book_here", "_law_k", "_law_turn", "_law_tags", "_law_part"] ["_law_d"] (defScope s__law_book) := ⟨rfl, rfl, rfl, by decide +kernel, rfl, by decide +kernel, by decide +kernel⟩
theorem ok__law_book (T : Tx K mg w cl) {k : Nat} {f : Addr} {fd : FuncData} (F : Fun K "_law_book" "_law_book" s__law_book f fd) {c__law_take : DF} {f__law_take : Addr} {fd__law_take : FuncData} (D__law_take : DefAt K mg "_law_take" f__law_take fd__law_take ["_law_d"]) (G__law_take : FnD P w K mg base cl k f__law_take fd__law_take ["_law_d"] c__law_take) {c__law_inside : DF} {f__law_inside : Addr} {fd__law_inside : FuncData} (D__law_inside : DefAt K mg "_law_inside" f__law_inside fd__law_inside ["_law_d", "_law_counts", "_law_before"]) (G__law_inside : FnD P w K mg base cl k f__law_inside fd__law_inside ["_law_d", "_law_counts", "_law_before"] c__law_inside) :
    FnD P w K mg base cl (k + 1) f fd ["_law_d"] (F__law_book c__law_take c__law_inside) :=
  FnD.of F sc__law_book fun cdv A outer s H E hr => (js_cons (js_set (i := 1) sc__law_book.nd rfl (by first | exact Or.inl rfl | exact Or.inr rfl) (j_disp (.cons j_str (j_op oj_add j_int (j_op oj_mod (j_call pass_def G__law_take hr (by rfl) D__law_take.mgf D__law_take.kp D__law_take.bi (ja_cons (j_var (pv 0)) ja_nil)) j_int)) (.cons j_str (j_op oj_add j_int (j_op oj_mod (j_call pass_def G__law_take hr (by rfl) D__law_take.mgf D__law_take.kp D__law_take.bi (ja_cons (j_var (pv 0)) ja_nil)) j_int)) .nil))))
    (js_cons (js_set (i := 2) sc__law_book.nd rfl (by first | exact Or.inl rfl | exact Or.inr rfl) (j_new ja_nil))
    (js_cons (js_set (i := 3) sc__law_book.nd rfl (by first | exact Or.inl rfl | exact Or.inr rfl) (j_tup (ja_cons (j_new ja_nil) (ja_cons (j_new ja_nil) ja_nil))))
    (js_cons (js_for cx_def (ji_rng1 (by rfl) T.b_range (ja_cons j_int ja_nil)) (jg_name (pg_name (i := 4) sc__law_book.nd rfl (by first | exact Or.inl rfl | exact Or.inr rfl))) (js_cons (js_if (j_tcmp oj_lt (j_var (pv 4)) (j_ixA (Room.u1 hr) (j_var (pv 1)) j_str) (nomark _)) (js_cons (js_expr (j_bm PySem.F.plainAttrs_list PySem.F.slot_list_append PySem.F.type_list_append mj_append (j_ixA (Room.u1 hr) (j_var (pv 3)) j_int) (ja_cons (j_callTy cj_tuple (by rfl) T.b_tuple bb_tuple (ja_cons (j_lc (own := [("_law_turn", 5)]) (tg := .one 5) rfl sc__law_book.nd (ji_rng1 (by rfl) T.b_range (ja_cons (j_op oj_mod (j_call pass_def G__law_take hr (by rfl) D__law_take.mgf D__law_take.kp D__law_take.bi (ja_cons (j_var (pv 0)) ja_nil)) j_int) ja_nil)) (blkOk_by (N := N__law_book) (sc := defScope s__law_book) (by decide +kernel)) (by decide) (fun _ _ _ _ _ => pg_name (i := 5) sc__law_book.nd rfl (by first | exact Or.inl rfl | exact Or.inr rfl)) (fun _ _ _ _ _ => jts_nil) (fun _ _ _ _ _ => (j_call pass_blk G__law_inside hr (by rfl) D__law_inside.mgf D__law_inside.kp D__law_inside.bi (ja_cons (j_var (pv 0)) (ja_cons (j_var (pv 1)) (ja_cons (j_var (pv 2)) ja_nil)))))) ja_nil)) ja_nil)))
    (js_one (js_expr (j_bm PySem.F.plainAttrs_list PySem.F.slot_list_append PySem.F.type_list_append mj_append (j_var (pv 2)) (ja_cons (j_tup (ja_cons j_str (ja_cons (j_var (pv 4)) ja_nil))) ja_nil))))) js_nil)
    (js_one (js_if (j_tcmp oj_lt (j_var (pv 4)) (j_ixA (Room.u1 hr) (j_var (pv 1)) j_str) (nomark _)) (js_cons (js_set (i := 6) sc__law_book.nd rfl (by first | exact Or.inl rfl | exact Or.inr rfl) (j_new ja_nil))
    (js_cons (js_for cx_def (ji_rng1 (by rfl) T.b_range (ja_cons (j_op oj_add j_int (j_op oj_mod (j_call pass_def G__law_take hr (by rfl) D__law_take.mgf D__law_take.kp D__law_take.bi (ja_cons (j_var (pv 0)) ja_nil)) j_int)) ja_nil)) (jg_name (pg_name (i := 5) sc__law_book.nd rfl (by first | exact Or.inl rfl | exact Or.inr rfl))) (js_one (js_expr (j_bm PySem.F.plainAttrs_list PySem.F.slot_list_append PySem.F.type_list_append mj_append (j_var (pv 6)) (ja_cons (j_callTy cj_tuple (by rfl) T.b_tuple bb_tuple (ja_cons (j_lc (own := [("_law_part", 7)]) (tg := .one 7) rfl sc__law_book.nd (ji_rng1 (by rfl) T.b_range (ja_cons (j_op oj_mod (j_call pass_def G__law_take hr (by rfl) D__law_take.mgf D__law_take.kp D__law_take.bi (ja_cons (j_var (pv 0)) ja_nil)) j_int) ja_nil)) (blkOk_by (N := N__law_book) (sc := defScope s__law_book) (by decide +kernel)) (by decide) (fun _ _ _ _ _ => pg_name (i := 7) sc__law_book.nd rfl (by first | exact Or.inl rfl | exact Or.inr rfl)) (fun _ _ _ _ _ => jts_nil) (fun _ _ _ _ _ => (j_call pass_blk G__law_inside hr (by rfl) D__law_inside.mgf D__law_inside.kp D__law_inside.bi (ja_cons (j_var (pv 0)) (ja_cons (j_var (pv 1)) (ja_cons (j_var (pv 2)) ja_nil)))))) ja_nil)) ja_nil)))))
    (js_cons (js_expr (j_bm PySem.F.plainAttrs_list PySem.F.slot_list_append PySem.F.type_list_append mj_append (j_ixA (Room.u1 hr) (j_var (pv 3)) j_int) (ja_cons (j_callTy cj_tuple (by rfl) T.b_tuple bb_tuple (ja_cons (j_var (pv 6)) ja_nil)) ja_nil)))
    (js_one (js_expr (j_bm PySem.F.plainAttrs_list PySem.F.slot_list_append PySem.F.type_list_append mj_append (j_var (pv 2)) (ja_cons (j_tup (ja_cons j_str (ja_cons (j_var (pv 4)) ja_nil))) ja_nil))))))) js_nil))))
    (js_one (js_ret (j_tup (ja_cons (j_callTy cj_tuple (by rfl) T.b_tuple bb_tuple (ja_cons (j_ixA (Room.u1 hr) (j_var (pv 3)) j_int) ja_nil)) (ja_cons (j_callTy cj_tuple (by rfl) T.b_tuple bb_tuple (ja_cons (j_ixA (Room.u1 hr) (j_var (pv 3)) j_int) ja_nil)) ja_nil)))))))))
abbrev s__law_flat : Stmt := top 20
abbrev N__law_flat : List Str := ["_law_book_here", "_law_kind", "_law_one", "_law_tag"]
theorem sc__law_flat : FnScope ["_law_book_here", "_law_kind", "_law_one", "_law_tag"] ["_law_book_here", "_law_kind"] (defScope s__law_flat) := ⟨rfl, rfl, rfl, by decide +kernel, rfl, by decide +kernel, by decide +kernel⟩
theorem ok__law_flat (T : Tx K mg w cl) {k : Nat} {f : Addr} {fd : FuncData} (F : Fun K "_law_flat" "_law_flat" s__law_flat f fd) {c__law_flat : DF} {f__law_flat : Addr} {fd__law_flat : FuncData} (D__law_flat : DefAt K mg "_law_flat" f__law_flat fd__law_flat ["_law_book_here", "_law_kind"]) (G__law_flat : FnD P w K mg base cl k f__law_flat fd__law_flat ["_law_book_here", "_law_kind"] c__law_flat) :
    FnD P w K mg base cl (k + 1) f fd ["_law_book_here", "_law_kind"] (F__law_flat c__law_flat) :=
  FnD.of F sc__law_flat fun cdv A outer s H E hr => (js_cons (js_if (j_tcmp (oj_eq (Room.u64 hr)) (j_ixA (Room.u1 hr) (j_var (pv 1)) j_int) j_str (nomark _)) (js_one (js_ret j_int)) js_nil)
    (js_cons (js_if (j_tcmp (oj_eq (Room.u64 hr)) (j_ixA (Room.u1 hr) (j_var (pv 1)) j_int) j_str (nomark _)) (js_one (js_ret (j_callB (cj_sum1 rfl) (by rfl) T.b_sum bb_sum (ja_cons (j_lc (own := [("_law_one", 2)]) (tg := .one 2) rfl sc__law_flat.nd (ji_any (j_ixA (Room.u1 hr) (j_ixA (Room.u1 hr) (j_var (pv 0)) j_int) (j_ixA (Room.u1 hr) (j_var (pv 1)) j_int))) (blkOk_by (N := N__law_flat) (sc := defScope s__law_flat) (by decide +kernel)) (by decide) (fun _ _ _ _ _ => pg_name (i := 2) sc__law_flat.nd rfl (by first | exact Or.inl rfl | exact Or.inr rfl)) (fun _ _ _ _ _ => jts_nil) (fun _ _ _ _ _ => (j_call pass_blk G__law_flat hr (by rfl) D__law_flat.mgf D__law_flat.kp D__law_flat.bi (ja_cons (j_var (pv 0)) (ja_cons (j_var (pv 2)) ja_nil))))) ja_nil)))) js_nil)
    (js_cons (js_if (j_tcmp (oj_eq (Room.u64 hr)) (j_ixA (Room.u1 hr) (j_var (pv 1)) j_int) j_str (nomark _)) (js_one (js_ret (j_op oj_add j_int (j_callB (cj_max1 rfl) (by rfl) T.b_max bb_max (ja_cons (j_lc (own := [("_law_tag", 3)]) (tg := .one 3) rfl sc__law_flat.nd (ji_any (j_ixA (Room.u1 hr) (j_ixA (Room.u1 hr) (j_var (pv 0)) j_int) (j_ixA (Room.u1 hr) (j_var (pv 1)) j_int))) (blkOk_by (N := N__law_flat) (sc := defScope s__law_flat) (by decide +kernel)) (by decide) (fun _ _ _ _ _ => pg_name (i := 3) sc__law_flat.nd rfl (by first | exact Or.inl rfl | exact Or.inr rfl)) (fun _ _ _ _ _ => jts_nil) (fun _ _ _ _ _ => (j_callB (cj_sum1 rfl) (by rfl) T.b_sum bb_sum (ja_cons (j_lc (own := [("_law_one", 2)]) (tg := .one 2) rfl sc__law_flat.nd (ji_any (j_var (pv 3))) (blkOk_by (N := N__law_flat) (sc := _) (by first | decide +kernel | kernel_rfl)) (by decide) (fun _ _ _ _ _ => pg_name (i := 2) sc__law_flat.nd rfl (by first | exact Or.inl rfl | exact Or.inr rfl)) (fun _ _ _ _ _ => jts_nil) (fun _ _ _ _ _ => (j_call pass_blk G__law_flat hr (by rfl) D__law_flat.mgf D__law_flat.kp D__law_flat.bi (ja_cons (j_var (pv 0)) (ja_cons (j_var (pv 2)) ja_nil))))) ja_nil)))) ja_nil))))) js_nil)
    (js_one (js_ret j_int)))))
abbrev s__law_value : Stmt := top 21
abbrev N__law_value : List Str := ["_law_d", "_law_book_here", "_law_kind", "_law_deep", "_law_one", "_law_tag", "_law_many", "_law_k"]
theorem sc__law_value : FnScope ["_law_d", "_law_book_here", "_law_kind", "_law_deep", "_law_one", "_law_tag", "_law_many", "_law_k"] ["_law_d", "_law_book_here", "_law_kind", "_law_deep"] (defScope s__law_value) := ⟨rfl, rfl, rfl, by decide +kernel, rfl, by decide +kernel, by decide +kernel⟩
theorem ok__law_value (T : Tx K mg w cl) {k : Nat} {f : Addr} {fd : FuncData} (F : Fun K "_law_value" "_law_value" s__law_value f fd) {c__law_take : DF} {f__law_take : Addr} {fd__law_take : FuncData} (D__law_take : DefAt K mg "_law_take" f__law_take fd__law_take ["_law_d"]) (G__law_take : FnD P w K mg base cl k f__law_take fd__law_take ["_law_d"] c__law_take) {c__law_value : DF} {f__law_value : Addr} {fd__law_value : FuncData} (D__law_value : DefAt K mg "_law_value" f__law_value fd__law_value ["_law_d", "_law_book_here", "_law_kind", "_law_deep"]) (G__law_value : FnD P w K mg base cl k f__law_value fd__law_value ["_law_d", "_law_book_here", "_law_kind", "_law_deep"] c__law_value) {c__law_finite : DF} {f__law_finite : Addr} {fd__law_finite : FuncData} (D__law_finite : DefAt K mg "_law_finite" f__law_finite fd__law_finite ["_law_book_here", "_law_kind", "_law_seen"]) (G__law_finite : FnD P w K mg base cl k f__law_finite fd__law_finite ["_law_book_here", "_law_kind", "_law_seen"] c__law_finite) :
    FnD P w K mg base cl (k + 1) f fd ["_law_d", "_law_book_here", "_law_kind", "_law_deep"] (F__law_value c__law_take c__law_value c__law_finite) :=
  FnD.of F sc__law_value fun cdv A outer s H E hr => (js_cons (js_if (j_tcmp (oj_eq (Room.u64 hr)) (j_ixA (Room.u1 hr) (j_var (pv 2)) j_int) j_str (nomark _)) (js_one (js_ret (j_ixA (Room.u1 hr) (j_lst (ja_cons j_int (ja_cons j_int (ja_cons j_int (ja_cons j_int (ja_cons j_int ja_nil)))))) (j_op oj_mod (j_call pass_def G__law_take hr (by rfl) D__law_take.mgf D__law_take.kp D__law_take.bi (ja_cons (j_var (pv 0)) ja_nil)) j_int)))) js_nil)
    (js_cons (js_if (j_tcmp (oj_eq (Room.u64 hr)) (j_ixA (Room.u1 hr) (j_var (pv 2)) j_int) j_str (nomark _)) (js_one (js_ret (j_cmp (oj_eq (Room.u64 hr)) (j_op oj_mod (j_call pass_def G__law_take hr (by rfl) D__law_take.mgf D__law_take.kp D__law_take.bi (ja_cons (j_var (pv 0)) ja_nil)) j_int) j_int (nomark _)))) js_nil)
    (js_cons (js_if (j_tcmp (oj_eq (Room.u64 hr)) (j_ixA (Room.u1 hr) (j_var (pv 2)) j_int) j_str (nomark _)) (js_one (js_ret (j_tup (ja_cons j_str (ja_cons (j_callTy cj_tuple (by rfl) T.b_tuple bb_tuple (ja_cons (j_lc (own := [("_law_one", 4)]) (tg := .one 4) rfl sc__law_value.nd (ji_any (j_ixA (Room.u1 hr) (j_ixA (Room.u1 hr) (j_var (pv 1)) j_int) (j_ixA (Room.u1 hr) (j_var (pv 2)) j_int))) (blkOk_by (N := N__law_value) (sc := defScope s__law_value) (by decide +kernel)) (by decide) (fun _ _ _ _ _ => pg_name (i := 4) sc__law_value.nd rfl (by first | exact Or.inl rfl | exact Or.inr rfl)) (fun _ _ _ _ _ => jts_nil) (fun _ _ _ _ _ => (j_call pass_blk G__law_value hr (by rfl) D__law_value.mgf D__law_value.kp D__law_value.bi (ja_cons (j_var (pv 0)) (ja_cons (j_var (pv 1)) (ja_cons (j_var (pv 4)) (ja_cons (j_op oj_sub (j_var (pv 3)) j_int) ja_nil))))))) ja_nil)) ja_nil))))) js_nil)
    (js_cons (js_if (j_tcmp (oj_eq (Room.u64 hr)) (j_ixA (Room.u1 hr) (j_var (pv 2)) j_int) j_str (nomark _)) (js_cons (js_set (i := 5) sc__law_value.nd rfl (by first | exact Or.inl rfl | exact Or.inr rfl) j_int)
    (js_cons (js_if (j_tcmp oj_gt (j_var (pv 3)) j_int (nomark _)) (js_cons (js_set (i := 5) sc__law_value.nd rfl (by first | exact Or.inl rfl | exact Or.inr rfl) (j_op oj_mod (j_call pass_def G__law_take hr (by rfl) D__law_take.mgf D__law_take.kp D__law_take.bi (ja_cons (j_var (pv 0)) ja_nil)) (j_callB cj_len (by rfl) T.b_len bb_len (ja_cons (j_ixA (Room.u1 hr) (j_ixA (Room.u1 hr) (j_var (pv 1)) j_int) (j_ixA (Room.u1 hr) (j_var (pv 2)) j_int)) ja_nil))))
    (js_one (js_if (j_tcmp (oj_ne (Room.u64 hr)) (j_lc (own := [("_law_one", 4)]) (tg := .one 4) rfl sc__law_value.nd (ji_any (j_ixA (Room.u1 hr) (j_ixA (Room.u1 hr) (j_ixA (Room.u1 hr) (j_var (pv 1)) j_int) (j_ixA (Room.u1 hr) (j_var (pv 2)) j_int)) (j_var (pv 5)))) (blkOk_by (N := N__law_value) (sc := defScope s__law_value) (by decide +kernel)) (by decide) (fun _ _ _ _ _ => pg_name (i := 4) sc__law_value.nd rfl (by first | exact Or.inl rfl | exact Or.inr rfl)) (fun _ _ _ _ _ => jts_one (j_tnot (j_tru (j_call pass_blk G__law_finite hr (by rfl) D__law_finite.mgf D__law_finite.kp D__law_finite.bi (ja_cons (j_var (pv 1)) (ja_cons (j_var (pv 4)) (ja_cons (j_lst ja_nil) ja_nil)))) (fun _ => rfl)))) (fun _ _ _ _ _ => (j_var (pv 4)))) (j_lst ja_nil) (nomark _)) (js_one (js_set (i := 5) sc__law_value.nd rfl (by first | exact Or.inl rfl | exact Or.inr rfl) j_int)) js_nil))) js_nil)
    (js_one (js_ret (j_tup (ja_cons j_str (ja_cons (j_var (pv 5)) (ja_cons (j_callTy cj_tuple (by rfl) T.b_tuple bb_tuple (ja_cons (j_lc (own := [("_law_one", 4)]) (tg := .one 4) rfl sc__law_value.nd (ji_any (j_ixA (Room.u1 hr) (j_ixA (Room.u1 hr) (j_ixA (Room.u1 hr) (j_var (pv 1)) j_int) (j_ixA (Room.u1 hr) (j_var (pv 2)) j_int)) (j_var (pv 5)))) (blkOk_by (N := N__law_value) (sc := defScope s__law_value) (by decide +kernel)) (by decide) (fun _ _ _ _ _ => pg_name (i := 4) sc__law_value.nd rfl (by first | exact Or.inl rfl | exact Or.inr rfl)) (fun _ _ _ _ _ => jts_nil) (fun _ _ _ _ _ => (j_call pass_blk G__law_value hr (by rfl) D__law_value.mgf D__law_value.kp D__law_value.bi (ja_cons (j_var (pv 0)) (ja_cons (j_var (pv 1)) (ja_cons (j_var (pv 4)) (ja_cons (j_op oj_sub (j_var (pv 3)) j_int) ja_nil))))))) ja_nil)) ja_nil)))))))) js_nil)
    (js_cons (js_if (j_tcmp (oj_eq (Room.u64 hr)) (j_ixA (Room.u1 hr) (j_var (pv 2)) j_int) j_str (nomark _)) (js_one (js_ret (j_tup (ja_cons j_str (ja_cons (j_call pass_def G__law_value hr (by rfl) D__law_value.mgf D__law_value.kp D__law_value.bi (ja_cons (j_var (pv 0)) (ja_cons (j_var (pv 1)) (ja_cons (j_ixA (Room.u1 hr) (j_var (pv 2)) j_int) (ja_cons (j_op oj_sub (j_var (pv 3)) j_int) ja_nil))))) ja_nil))))) js_nil)
    (js_cons (js_set (i := 6) sc__law_value.nd rfl (by first | exact Or.inl rfl | exact Or.inr rfl) j_int)
    (js_cons (js_if (j_w (j_and (j_tcmp oj_gt (j_var (pv 3)) j_int (nomark _)) (j_and1 (j_tru (j_call pass_def G__law_finite hr (by rfl) D__law_finite.mgf D__law_finite.kp D__law_finite.bi (ja_cons (j_var (pv 1)) (ja_cons (j_ixA (Room.u1 hr) (j_var (pv 2)) j_int) (ja_cons (j_lst ja_nil) ja_nil)))) (fun _ => rfl))))) (js_one (js_set (i := 6) sc__law_value.nd rfl (by first | exact Or.inl rfl | exact Or.inr rfl) (j_op oj_mod (j_call pass_def G__law_take hr (by rfl) D__law_take.mgf D__law_take.kp D__law_take.bi (ja_cons (j_var (pv 0)) ja_nil)) j_int))) js_nil)
    (js_one (js_ret (j_tup (ja_cons j_str (ja_cons (j_callTy cj_tuple (by rfl) T.b_tuple bb_tuple (ja_cons (j_lc (own := [("_law_k", 7)]) (tg := .one 7) rfl sc__law_value.nd (ji_rng1 (by rfl) T.b_range (ja_cons (j_var (pv 6)) ja_nil)) (blkOk_by (N := N__law_value) (sc := defScope s__law_value) (by decide +kernel)) (by decide) (fun _ _ _ _ _ => pg_name (i := 7) sc__law_value.nd rfl (by first | exact Or.inl rfl | exact Or.inr rfl)) (fun _ _ _ _ _ => jts_nil) (fun _ _ _ _ _ => (j_call pass_blk G__law_value hr (by rfl) D__law_value.mgf D__law_value.kp D__law_value.bi (ja_cons (j_var (pv 0)) (ja_cons (j_var (pv 1)) (ja_cons (j_ixA (Room.u1 hr) (j_var (pv 2)) j_int) (ja_cons (j_op oj_sub (j_var (pv 3)) j_int) ja_nil))))))) ja_nil)) ja_nil))))))))))))
abbrev s__law_spoilt : Stmt := top 22
abbrev N__law_spoilt : List Str := ["_law_d", "_law_thing", "_law_steps", "_law_things", "_law_at"]
theorem sc__law_spoilt : FnScope ["_law_d", "_law_thing", "_law_steps", "_law_things", "_law_at"] ["_law_d", "_law_thing", "_law_steps"] (defScope s__law_spoilt) := ⟨rfl, rfl, rfl, by decide +kernel, rfl, by decide +kernel, by decide +kernel⟩
theorem ok__law_spoilt (T : Tx K mg w cl) {k : Nat} {f : Addr} {fd : FuncData} (F : Fun K "_law_spoilt" "_law_spoilt" s__law_spoilt f fd) {c__law_take : DF} {f__law_take : Addr} {fd__law_take : FuncData} (D__law_take : DefAt K mg "_law_take" f__law_take fd__law_take ["_law_d"]) (G__law_take : FnD P w K mg base cl k f__law_take fd__law_take ["_law_d"] c__law_take) {c__law_spoilt : DF} {f__law_spoilt : Addr} {fd__law_spoilt : FuncData} (D__law_spoilt : DefAt K mg "_law_spoilt" f__law_spoilt fd__law_spoilt ["_law_d", "_law_thing", "_law_steps"]) (G__law_spoilt : FnD P w K mg base cl k f__law_spoilt fd__law_spoilt ["_law_d", "_law_thing", "_law_steps"] c__law_spoilt) :
    FnD P w K mg base cl (k + 1) f fd ["_law_d", "_law_thing", "_law_steps"] (F__law_spoilt c__law_take c__law_spoilt) :=
  FnD.of F sc__law_spoilt fun cdv A outer s H E hr => (js_cons (js_set (i := 3) sc__law_spoilt.nd rfl (by first | exact Or.inl rfl | exact Or.inr rfl) (j_lst (ja_cons j_non (ja_cons j_bl (ja_cons j_bl (ja_cons (j_neg j_int) (ja_cons j_int (ja_cons j_int (ja_cons j_int (ja_cons j_str (ja_cons (j_tup ja_nil) (ja_cons (j_tup (ja_cons j_str (ja_cons j_int ja_nil))) (ja_cons (j_tup (ja_cons j_str (ja_cons (j_tup ja_nil) ja_nil))) (ja_cons (j_tup (ja_cons j_str (ja_cons (j_tup ja_nil) ja_nil))) (ja_cons (j_tup (ja_cons j_str (ja_cons j_int (ja_cons (j_tup ja_nil) ja_nil)))) (ja_cons (j_tup (ja_cons j_str (ja_cons j_int (ja_cons (j_tup ja_nil) ja_nil)))) ja_nil))))))))))))))))
    (js_cons (js_if (j_w (j_or (j_tnot (j_tru (j_callB cj_isi_tuple (by rfl) T.b_isinstance bb_isinstance (ja_cons (j_var (pv 1)) (ja_cons (j_ty (by rfl) T.b_tuple bb_tuple) ja_nil))) (fun _ => rfl))) (j_or (j_tcmp (oj_eq (Room.u64 hr)) (j_var (pv 1)) (j_tup ja_nil) (nomark _)) (j_or1 (j_tcmp oj_le (j_var (pv 2)) j_int (nomark _)))))) (js_one (js_ret (j_ixA (Room.u1 hr) (j_var (pv 3)) (j_op oj_mod (j_call pass_def G__law_take hr (by rfl) D__law_take.mgf D__law_take.kp D__law_take.bi (ja_cons (j_var (pv 0)) ja_nil)) (j_callB cj_len (by rfl) T.b_len bb_len (ja_cons (j_var (pv 3)) ja_nil)))))) js_nil)
    (js_cons (js_set (i := 4) sc__law_spoilt.nd rfl (by first | exact Or.inl rfl | exact Or.inr rfl) (j_op oj_mod (j_call pass_def G__law_take hr (by rfl) D__law_take.mgf D__law_take.kp D__law_take.bi (ja_cons (j_var (pv 0)) ja_nil)) (j_op oj_add (j_callB cj_len (by rfl) T.b_len bb_len (ja_cons (j_var (pv 1)) ja_nil)) j_int)))
    (js_cons (js_if (j_tcmp (oj_eq (Room.u64 hr)) (j_var (pv 4)) (j_callB cj_len (by rfl) T.b_len bb_len (ja_cons (j_var (pv 1)) ja_nil)) (nomark _)) (js_one (js_ret (j_ixA (Room.u1 hr) (j_lst (ja_cons (j_slice (j_var (pv 1)) jo_none (jo_some (j_neg j_int))) (ja_cons (j_op oj_add (j_var (pv 1)) (j_slice (j_var (pv 1)) (jo_some (j_neg j_int)) jo_none)) ja_nil))) (j_op oj_mod (j_call pass_def G__law_take hr (by rfl) D__law_take.mgf D__law_take.kp D__law_take.bi (ja_cons (j_var (pv 0)) ja_nil)) j_int)))) js_nil)
    (js_one (js_ret (j_op oj_add (j_op oj_add (j_slice (j_var (pv 1)) jo_none (jo_some (j_var (pv 4)))) (j_tup (ja_cons (j_call pass_def G__law_spoilt hr (by rfl) D__law_spoilt.mgf D__law_spoilt.kp D__law_spoilt.bi (ja_cons (j_var (pv 0)) (ja_cons (j_ixA (Room.u1 hr) (j_var (pv 1)) (j_var (pv 4))) (ja_cons (j_op oj_sub (j_var (pv 2)) j_int) ja_nil)))) ja_nil))) (j_slice (j_var (pv 1)) (jo_some (j_op oj_add (j_var (pv 4)) j_int)) jo_none))))))))
abbrev s__law_all_are : Stmt := top 23
abbrev N__law_all_are : List Str := ["_law_book_here", "_law_kinds", "_law_thing", "_law_k"]
theorem sc__law_all_are : FnScope ["_law_book_here", "_law_kinds", "_law_thing", "_law_k"] ["_law_book_here", "_law_kinds", "_law_thing"] (defScope s__law_all_are) := ⟨rfl, rfl, rfl, by decide +kernel, rfl, by decide +kernel, by decide +kernel⟩
theorem ok__law_all_are (T : Tx K mg w cl) {k : Nat} {f : Addr} {fd : FuncData} (F : Fun K "_law_all_are" "_law_all_are" s__law_all_are f fd) {c__law_is_value : DF} {f__law_is_value : Addr} {fd__law_is_value : FuncData} (D__law_is_value : DefAt K mg "_law_is_value" f__law_is_value fd__law_is_value ["_law_book_here", "_law_kind", "_law_thing"]) (G__law_is_value : FnD P w K mg base cl k f__law_is_value fd__law_is_value ["_law_book_here", "_law_kind", "_law_thing"] c__law_is_value) :
    FnD P w K mg base cl (k + 1) f fd ["_law_book_here", "_law_kinds", "_law_thing"] (F__law_all_are c__law_is_value) :=
  FnD.of F sc__law_all_are fun cdv A outer s H E hr => (js_cons (js_if (j_w (j_or (j_tnot (j_tru (j_callB cj_isi_tuple (by rfl) T.b_isinstance bb_isinstance (ja_cons (j_var (pv 2)) (ja_cons (j_ty (by rfl) T.b_tuple bb_tuple) ja_nil))) (fun _ => rfl))) (j_or1 (j_tcmp (oj_ne (Room.u64 hr)) (j_callB cj_len (by rfl) T.b_len bb_len (ja_cons (j_var (pv 2)) ja_nil)) (j_callB cj_len (by rfl) T.b_len bb_len (ja_cons (j_var (pv 1)) ja_nil)) (nomark _))))) (js_one (js_ret j_bl)) js_nil)
    (js_one (js_ret (j_cmp (oj_eq (Room.u64 hr)) (j_lc (own := [("_law_k", 3)]) (tg := .one 3) rfl sc__law_all_are.nd (ji_rng1 (by rfl) T.b_range (ja_cons (j_callB cj_len (by rfl) T.b_len bb_len (ja_cons (j_var (pv 1)) ja_nil)) ja_nil)) (blkOk_by (N := N__law_all_are) (sc := defScope s__law_all_are) (by decide +kernel)) (by decide) (fun _ _ _ _ _ => pg_name (i := 3) sc__law_all_are.nd rfl (by first | exact Or.inl rfl | exact Or.inr rfl)) (fun _ _ _ _ _ => jts_one (j_tnot (j_tru (j_call pass_blk G__law_is_value hr (by rfl) D__law_is_value.mgf D__law_is_value.kp D__law_is_value.bi (ja_cons (j_var (pv 0)) (ja_cons (j_ixA (Room.u1 hr) (j_var (pv 1)) (j_var (pv 3))) (ja_cons (j_ixA (Room.u1 hr) (j_var (pv 2)) (j_var (pv 3))) ja_nil)))) (fun _ => rfl)))) (fun _ _ _ _ _ => (j_var (pv 3)))) (j_lst ja_nil) (nomark _)))))
abbrev s__law_is_value : Stmt := top 24
abbrev N__law_is_value : List Str := ["_law_book_here", "_law_kind", "_law_thing", "_law_tags"]
theorem sc__law_is_value : FnScope ["_law_book_here", "_law_kind", "_law_thing", "_law_tags"] ["_law_book_here", "_law_kind", "_law_thing"] (defScope s__law_is_value) := ⟨rfl, rfl, rfl, by decide +kernel, rfl, by decide +kernel, by decide +kernel⟩
theorem ok__law_is_value (T : Tx K mg w cl) {k : Nat} {f : Addr} {fd : FuncData} (F : Fun K "_law_is_value" "_law_is_value" s__law_is_value f fd) {c__law_all_are : DF} {f__law_all_are : Addr} {fd__law_all_are : FuncData} (D__law_all_are : DefAt K mg "_law_all_are" f__law_all_are fd__law_all_are ["_law_book_here", "_law_kinds", "_law_thing"]) (G__law_all_are : FnD P w K mg base cl k f__law_all_are fd__law_all_are ["_law_book_here", "_law_kinds", "_law_thing"] c__law_all_are) {c__law_is_value : DF} {f__law_is_value : Addr} {fd__law_is_value : FuncData} (D__law_is_value : DefAt K mg "_law_is_value" f__law_is_value fd__law_is_value ["_law_book_here", "_law_kind", "_law_thing"]) (G__law_is_value : FnD P w K mg base cl k f__law_is_value fd__law_is_value ["_law_book_here", "_law_kind", "_law_thing"] c__law_is_value) :
    FnD P w K mg base cl (k + 1) f fd ["_law_book_here", "_law_kind", "_law_thing"] (F__law_is_value c__law_all_are c__law_is_value) :=
  FnD.of F sc__law_is_value fun cdv A outer s H E hr => (js_cons (js_if (j_tcmp (oj_eq (Room.u64 hr)) (j_ixA (Room.u1 hr) (j_var (pv 1)) j_int) j_str (nomark _)) (js_one (js_ret (j_vand (j_callB cj_isi_int (by rfl) T.b_isinstance bb_isinstance (ja_cons (j_var (pv 2)) (ja_cons (j_ty (by rfl) T.b_int bb_int) ja_nil))) (j_vand (j_vnot (j_callB cj_isi_bool (by rfl) T.b_isinstance bb_isinstance (ja_cons (j_var (pv 2)) (ja_cons (j_ty (by rfl) T.b_bool bb_bool) ja_nil)))) (j_vand (j_cmp oj_le j_int (j_var (pv 2)) (nomark _)) (j_vone (j_cmp oj_lt (j_var (pv 2)) j_int (nomark _)))))))) js_nil)
    (js_cons (js_if (j_tcmp (oj_eq (Room.u64 hr)) (j_ixA (Room.u1 hr) (j_var (pv 1)) j_int) j_str (nomark _)) (js_one (js_ret (j_callB cj_isi_bool (by rfl) T.b_isinstance bb_isinstance (ja_cons (j_var (pv 2)) (ja_cons (j_ty (by rfl) T.b_bool bb_bool) ja_nil))))) js_nil)
    (js_cons (js_if (j_w (j_or (j_tnot (j_tru (j_callB cj_isi_tuple (by rfl) T.b_isinstance bb_isinstance (ja_cons (j_var (pv 2)) (ja_cons (j_ty (by rfl) T.b_tuple bb_tuple) ja_nil))) (fun _ => rfl))) (j_or (j_tcmp (oj_eq (Room.u64 hr)) (j_var (pv 2)) (j_tup ja_nil) (nomark _)) (j_or (j_tnot (j_tru (j_callB cj_isi_str (by rfl) T.b_isinstance bb_isinstance (ja_cons (j_ixA (Room.u1 hr) (j_var (pv 2)) j_int) (ja_cons (j_ty (by rfl) T.b_str bb_str) ja_nil))) (fun _ => rfl))) (j_or1 (j_tcmp (oj_ne (Room.u64 hr)) (j_ixA (Room.u1 hr) (j_var (pv 2)) j_int) (j_ixA (Room.u1 hr) (j_var (pv 1)) j_int) (nomark _))))))) (js_one (js_ret j_bl)) js_nil)
    (js_cons (js_if (j_tcmp (oj_eq (Room.u64 hr)) (j_ixA (Room.u1 hr) (j_var (pv 1)) j_int) j_str (nomark _)) (js_cons (js_set (i := 3) sc__law_is_value.nd rfl (by first | exact Or.inl rfl | exact Or.inr rfl) (j_ixA (Room.u1 hr) (j_ixA (Room.u1 hr) (j_var (pv 0)) j_int) (j_ixA (Room.u1 hr) (j_var (pv 1)) j_int)))
    (js_cons (js_if (j_w (j_or (j_tcmp (oj_ne (Room.u64 hr)) (j_callB cj_len (by rfl) T.b_len bb_len (ja_cons (j_var (pv 2)) ja_nil)) j_int (nomark _)) (j_or (j_tnot (j_tru (j_callB cj_isi_int (by rfl) T.b_isinstance bb_isinstance (ja_cons (j_ixA (Room.u1 hr) (j_var (pv 2)) j_int) (ja_cons (j_ty (by rfl) T.b_int bb_int) ja_nil))) (fun _ => rfl))) (j_or (j_tru (j_callB cj_isi_bool (by rfl) T.b_isinstance bb_isinstance (ja_cons (j_ixA (Room.u1 hr) (j_var (pv 2)) j_int) (ja_cons (j_ty (by rfl) T.b_bool bb_bool) ja_nil))) (fun _ => rfl)) (j_or (j_tnot (j_tcmp oj_le j_int (j_ixA (Room.u1 hr) (j_var (pv 2)) j_int) (nomark _))) (j_or1 (j_tcmp oj_ge (j_ixA (Room.u1 hr) (j_var (pv 2)) j_int) (j_callB cj_len (by rfl) T.b_len bb_len (ja_cons (j_var (pv 3)) ja_nil)) (nomark _)))))))) (js_one (js_ret j_bl)) js_nil)
    (js_one (js_ret (j_call pass_def G__law_all_are hr (by rfl) D__law_all_are.mgf D__law_all_are.kp D__law_all_are.bi (ja_cons (j_var (pv 0)) (ja_cons (j_ixA (Room.u1 hr) (j_var (pv 3)) (j_ixA (Room.u1 hr) (j_var (pv 2)) j_int)) (ja_cons (j_ixA (Room.u1 hr) (j_var (pv 2)) j_int) ja_nil)))))))) js_nil)
    (js_cons (js_if (j_tcmp (oj_ne (Room.u64 hr)) (j_callB cj_len (by rfl) T.b_len bb_len (ja_cons (j_var (pv 2)) ja_nil)) j_int (nomark _)) (js_one (js_ret j_bl)) js_nil)
    (js_cons (js_if (j_tcmp (oj_eq (Room.u64 hr)) (j_ixA (Room.u1 hr) (j_var (pv 1)) j_int) j_str (nomark _)) (js_one (js_ret (j_call pass_def G__law_all_are hr (by rfl) D__law_all_are.mgf D__law_all_are.kp D__law_all_are.bi (ja_cons (j_var (pv 0)) (ja_cons (j_ixA (Room.u1 hr) (j_ixA (Room.u1 hr) (j_var (pv 0)) j_int) (j_ixA (Room.u1 hr) (j_var (pv 1)) j_int)) (ja_cons (j_ixA (Room.u1 hr) (j_var (pv 2)) j_int) ja_nil)))))) js_nil)
    (js_cons (js_if (j_tcmp (oj_eq (Room.u64 hr)) (j_ixA (Room.u1 hr) (j_var (pv 1)) j_int) j_str (nomark _)) (js_one (js_ret (j_call pass_def G__law_is_value hr (by rfl) D__law_is_value.mgf D__law_is_value.kp D__law_is_value.bi (ja_cons (j_var (pv 0)) (ja_cons (j_ixA (Room.u1 hr) (j_var (pv 1)) j_int) (ja_cons (j_ixA (Room.u1 hr) (j_var (pv 2)) j_int) ja_nil)))))) js_nil)
    (js_one (js_ret (j_vand (j_callB cj_isi_tuple (by rfl) T.b_isinstance bb_isinstance (ja_cons (j_ixA (Room.u1 hr) (j_var (pv 2)) j_int) (ja_cons (j_ty (by rfl) T.b_tuple bb_tuple) ja_nil))) (j_vone (j_call pass_def G__law_all_are hr (by rfl) D__law_all_are.mgf D__law_all_are.kp D__law_all_are.bi (ja_cons (j_var (pv 0)) (ja_cons (j_op oj_repT0 (j_tup (ja_cons (j_ixA (Room.u1 hr) (j_var (pv 1)) j_int) ja_nil)) (j_callB cj_len (by rfl) T.b_len bb_len (ja_cons (j_ixA (Room.u1 hr) (j_var (pv 2)) j_int) ja_nil))) (ja_cons (j_ixA (Room.u1 hr) (j_var (pv 2)) j_int) ja_nil)))))))))))))))
abbrev s__law_finite : Stmt := top 25
abbrev N__law_finite : List Str := ["_law_book_here", "_law_kind", "_law_seen", "_law_one"]
theorem sc__law_finite : FnScope ["_law_book_here", "_law_kind", "_law_seen", "_law_one"] ["_law_book_here", "_law_kind", "_law_seen"] (defScope s__law_finite) := ⟨rfl, rfl, rfl, by decide +kernel, rfl, by decide +kernel, by decide +kernel⟩
theorem ok__law_finite (T : Tx K mg w cl) {k : Nat} {f : Addr} {fd : FuncData} (F : Fun K "_law_finite" "_law_finite" s__law_finite f fd) {c__law_finite : DF} {f__law_finite : Addr} {fd__law_finite : FuncData} (D__law_finite : DefAt K mg "_law_finite" f__law_finite fd__law_finite ["_law_book_here", "_law_kind", "_law_seen"]) (G__law_finite : FnD P w K mg base cl k f__law_finite fd__law_finite ["_law_book_here", "_law_kind", "_law_seen"] c__law_finite) :
    FnD P w K mg base cl (k + 1) f fd ["_law_book_here", "_law_kind", "_law_seen"] (F__law_finite c__law_finite) :=
  FnD.of F sc__law_finite fun cdv A outer s H E hr => (js_cons (js_if (j_tinA (Room.u65 hr) (j_var (pv 1)) (j_var (pv 2))) (js_one (js_ret j_bl)) js_nil)
    (js_cons (js_if (j_tcmp (oj_eq (Room.u64 hr)) (j_ixA (Room.u1 hr) (j_var (pv 1)) j_int) j_str (nomark _)) (js_one (js_ret (j_call pass_def G__law_finite hr (by rfl) D__law_finite.mgf D__law_finite.kp D__law_finite.bi (ja_cons (j_var (pv 0)) (ja_cons (j_ixA (Room.u1 hr) (j_var (pv 1)) j_int) (ja_cons (j_var (pv 2)) ja_nil)))))) js_nil)
    (js_cons (js_if (j_tcmp (oj_eq (Room.u64 hr)) (j_ixA (Room.u1 hr) (j_var (pv 1)) j_int) j_str (nomark _)) (js_one (js_ret (j_cmp (oj_eq (Room.u64 hr)) (j_lc (own := [("_law_one", 3)]) (tg := .one 3) rfl sc__law_finite.nd (ji_any (j_ixA (Room.u1 hr) (j_ixA (Room.u1 hr) (j_var (pv 0)) j_int) (j_ixA (Room.u1 hr) (j_var (pv 1)) j_int))) (blkOk_by (N := N__law_finite) (sc := defScope s__law_finite) (by decide +kernel)) (by decide) (fun _ _ _ _ _ => pg_name (i := 3) sc__law_finite.nd rfl (by first | exact Or.inl rfl | exact Or.inr rfl)) (fun _ _ _ _ _ => jts_one (j_tnot (j_tru (j_call pass_blk G__law_finite hr (by rfl) D__law_finite.mgf D__law_finite.kp D__law_finite.bi (ja_cons (j_var (pv 0)) (ja_cons (j_var (pv 3)) (ja_cons (j_op oj_add (j_var (pv 2)) (j_lst (ja_cons (j_var (pv 1)) ja_nil))) ja_nil)))) (fun _ => rfl)))) (fun _ _ _ _ _ => (j_var (pv 3)))) (j_lst ja_nil) (nomark _)))) js_nil)
    (js_cons (js_if (j_tcmp (oj_eq (Room.u64 hr)) (j_ixA (Room.u1 hr) (j_var (pv 1)) j_int) j_str (nomark _)) (js_one (js_ret (j_cmp (oj_eq (Room.u64 hr)) (j_lc (own := [("_law_one", 3)]) (tg := .one 3) rfl sc__law_finite.nd (ji_any (j_ixA (Room.u1 hr) (j_ixA (Room.u1 hr) (j_ixA (Room.u1 hr) (j_var (pv 0)) j_int) (j_ixA (Room.u1 hr) (j_var (pv 1)) j_int)) j_int)) (blkOk_by (N := N__law_finite) (sc := defScope s__law_finite) (by decide +kernel)) (by decide) (fun _ _ _ _ _ => pg_name (i := 3) sc__law_finite.nd rfl (by first | exact Or.inl rfl | exact Or.inr rfl)) (fun _ _ _ _ _ => jts_one (j_tnot (j_tru (j_call pass_blk G__law_finite hr (by rfl) D__law_finite.mgf D__law_finite.kp D__law_finite.bi (ja_cons (j_var (pv 0)) (ja_cons (j_var (pv 3)) (ja_cons (j_op oj_add (j_var (pv 2)) (j_lst (ja_cons (j_var (pv 1)) ja_nil))) ja_nil)))) (fun _ => rfl)))) (fun _ _ _ _ _ => (j_var (pv 3)))) (j_lst ja_nil) (nomark _)))) js_nil)
    (js_one (js_ret j_bl))))))
abbrev s__law_places_right : Stmt := top 26
abbrev N__law_places_right : List Str := ["_law_book_here", "_law_n", "_law_i", "_law_one", "_law_tag", "_law_parts"]
theorem sc__law_places_right : FnScope ["_law_book_here", "_law_n", "_law_i", "_law_one", "_law_tag", "_law_parts"] ["_law_book_here"] (defScope s__law_places_right) := ⟨rfl, rfl, rfl, by decide +kernel, rfl, by decide +kernel, by decide +kernel⟩
theorem ok__law_places_right (T : Tx K mg w cl) {k : Nat} {f : Addr} {fd : FuncData} (F : Fun K "_law_places_right" "_law_places_right" s__law_places_right f fd) {c_field_place : DF} {f_field_place : Addr} {fd_field_place : FuncData} (D_field_place : DefAt K mg "field_place" f_field_place fd_field_place ["book", "n", "i"]) (G_field_place : FnD P w K mg base cl k f_field_place fd_field_place ["book", "n", "i"] c_field_place) {c__law_flat : DF} {f__law_flat : Addr} {fd__law_flat : FuncData} (D__law_flat : DefAt K mg "_law_flat" f__law_flat fd__law_flat ["_law_book_here", "_law_kind"]) (G__law_flat : FnD P w K mg base cl k f__law_flat fd__law_flat ["_law_book_here", "_law_kind"] c__law_flat) {c_part_place : DF} {f_part_place : Addr} {fd_part_place : FuncData} (D_part_place : DefAt K mg "part_place" f_part_place fd_part_place ["book", "n", "tag", "i"]) (G_part_place : FnD P w K mg base cl k f_part_place fd_part_place ["book", "n", "tag", "i"] c_part_place) :
    FnD P w K mg base cl (k + 1) f fd ["_law_book_here"] (F__law_places_right c_field_place c__law_flat c_part_place) :=
  FnD.of F sc__law_places_right fun cdv A outer s H E hr => (js_cons (js_for cx_def (ji_rng1 (by rfl) T.b_range (ja_cons (j_callB cj_len (by rfl) T.b_len bb_len (ja_cons (j_ixA (Room.u1 hr) (j_var (pv 0)) j_int) ja_nil)) ja_nil)) (jg_name (pg_name (i := 1) sc__law_places_right.nd rfl (by first | exact Or.inl rfl | exact Or.inr rfl))) (js_one (js_for cx_def (ji_rng1 (by rfl) T.b_range (ja_cons (j_callB cj_len (by rfl) T.b_len bb_len (ja_cons (j_ixA (Room.u1 hr) (j_ixA (Room.u1 hr) (j_var (pv 0)) j_int) (j_var (pv 1))) ja_nil)) ja_nil)) (jg_name (pg_name (i := 2) sc__law_places_right.nd rfl (by first | exact Or.inl rfl | exact Or.inr rfl))) (js_one (js_if (j_tcmp (oj_ne (Room.u64 hr)) (j_call pass_def G_field_place hr (by rfl) D_field_place.mgf D_field_place.kp D_field_place.bi (ja_cons (j_var (pv 0)) (ja_cons (j_var (pv 1)) (ja_cons (j_var (pv 2)) ja_nil)))) (j_callB (cj_sum1 rfl) (by rfl) T.b_sum bb_sum (ja_cons (j_lc (own := [("_law_one", 3)]) (tg := .one 3) rfl sc__law_places_right.nd (ji_any (j_slice (j_ixA (Room.u1 hr) (j_ixA (Room.u1 hr) (j_var (pv 0)) j_int) (j_var (pv 1))) jo_none (jo_some (j_var (pv 2))))) (blkOk_by (N := N__law_places_right) (sc := defScope s__law_places_right) (by decide +kernel)) (by decide) (fun _ _ _ _ _ => pg_name (i := 3) sc__law_places_right.nd rfl (by first | exact Or.inl rfl | exact Or.inr rfl)) (fun _ _ _ _ _ => jts_nil) (fun _ _ _ _ _ => (j_call pass_blk G__law_flat hr (by rfl) D__law_flat.mgf D__law_flat.kp D__law_flat.bi (ja_cons (j_var (pv 0)) (ja_cons (j_var (pv 3)) ja_nil))))) ja_nil)) (nomark _)) (js_one (js_ret j_bl)) js_nil)))))
    (js_cons (js_for cx_def (ji_rng1 (by rfl) T.b_range (ja_cons (j_callB cj_len (by rfl) T.b_len bb_len (ja_cons (j_ixA (Room.u1 hr) (j_var (pv 0)) j_int) ja_nil)) ja_nil)) (jg_name (pg_name (i := 1) sc__law_places_right.nd rfl (by first | exact Or.inl rfl | exact Or.inr rfl))) (js_one (js_for cx_def (ji_rng1 (by rfl) T.b_range (ja_cons (j_callB cj_len (by rfl) T.b_len bb_len (ja_cons (j_ixA (Room.u1 hr) (j_ixA (Room.u1 hr) (j_var (pv 0)) j_int) (j_var (pv 1))) ja_nil)) ja_nil)) (jg_name (pg_name (i := 4) sc__law_places_right.nd rfl (by first | exact Or.inl rfl | exact Or.inr rfl))) (js_cons (js_set (i := 5) sc__law_places_right.nd rfl (by first | exact Or.inl rfl | exact Or.inr rfl) (j_ixA (Room.u1 hr) (j_ixA (Room.u1 hr) (j_ixA (Room.u1 hr) (j_var (pv 0)) j_int) (j_var (pv 1))) (j_var (pv 4))))
    (js_one (js_for cx_def (ji_rng1 (by rfl) T.b_range (ja_cons (j_callB cj_len (by rfl) T.b_len bb_len (ja_cons (j_var (pv 5)) ja_nil)) ja_nil)) (jg_name (pg_name (i := 2) sc__law_places_right.nd rfl (by first | exact Or.inl rfl | exact Or.inr rfl))) (js_one (js_if (j_tcmp (oj_ne (Room.u64 hr)) (j_call pass_def G_part_place hr (by rfl) D_part_place.mgf D_part_place.kp D_part_place.bi (ja_cons (j_var (pv 0)) (ja_cons (j_var (pv 1)) (ja_cons (j_var (pv 4)) (ja_cons (j_var (pv 2)) ja_nil))))) (j_op oj_add j_int (j_callB (cj_sum1 rfl) (by rfl) T.b_sum bb_sum (ja_cons (j_lc (own := [("_law_one", 3)]) (tg := .one 3) rfl sc__law_places_right.nd (ji_any (j_slice (j_var (pv 5)) jo_none (jo_some (j_var (pv 2))))) (blkOk_by (N := N__law_places_right) (sc := defScope s__law_places_right) (by decide +kernel)) (by decide) (fun _ _ _ _ _ => pg_name (i := 3) sc__law_places_right.nd rfl (by first | exact Or.inl rfl | exact Or.inr rfl)) (fun _ _ _ _ _ => jts_nil) (fun _ _ _ _ _ => (j_call pass_blk G__law_flat hr (by rfl) D__law_flat.mgf D__law_flat.kp D__law_flat.bi (ja_cons (j_var (pv 0)) (ja_cons (j_var (pv 3)) ja_nil))))) ja_nil))) (nomark _)) (js_one (js_ret j_bl)) js_nil))))))))
    (js_one (js_ret j_bl))))
abbrev s_law : Stmt := top 27
abbrev N_law : List Str := ["_law_script", "_law_d", "_law_book_here", "_law_counts", "_law_k", "_law_kind", "_law_value_here", "_law_turn", "_law_told"]
theorem sc_law : FnScope ["_law_script", "_law_d", "_law_book_here", "_law_counts", "_law_k", "_law_kind", "_law_value_here", "_law_turn", "_law_told"] ["_law_script"] (defScope s_law) := ⟨rfl, rfl, rfl, by decide +kernel, rfl, by decide +kernel, by decide +kernel⟩
theorem ok_law (T : Tx K mg w cl) {k : Nat} {f : Addr} {fd : FuncData} (F : Fun K "law" "law" s_law f fd) {c__law_start : DF} {f__law_start : Addr} {fd__law_start : FuncData} (D__law_start : DefAt K mg "_law_start" f__law_start fd__law_start ["_law_script"]) (G__law_start : FnD P w K mg base cl k f__law_start fd__law_start ["_law_script"] c__law_start) {c__law_book : DF} {f__law_book : Addr} {fd__law_book : FuncData} (D__law_book : DefAt K mg "_law_book" f__law_book fd__law_book ["_law_d"]) (G__law_book : FnD P w K mg base cl k f__law_book fd__law_book ["_law_d"] c__law_book) {c__law_places_right : DF} {f__law_places_right : Addr} {fd__law_places_right : FuncData} (D__law_places_right : DefAt K mg "_law_places_right" f__law_places_right fd__law_places_right ["_law_book_here"]) (G__law_places_right : FnD P w K mg base cl k f__law_places_right fd__law_places_right ["_law_book_here"] c__law_places_right) {c__law_data : DF} {f__law_data : Addr} {fd__law_data : FuncData} (D__law_data : DefAt K mg "_law_data" f__law_data fd__law_data ["_law_d", "_law_counts", "_law_deep"]) (G__law_data : FnD P w K mg base cl k f__law_data fd__law_data ["_law_d", "_law_counts", "_law_deep"] c__law_data) {c_size_of : DF} {f_size_of : Addr} {fd_size_of : FuncData} (D_size_of : DefAt K mg "size_of" f_size_of fd_size_of ["book", "kind"]) (G_size_of : FnD P w K mg base cl k f_size_of fd_size_of ["book", "kind"] c_size_of) {c__law_flat : DF} {f__law_flat : Addr} {fd__law_flat : FuncData} (D__law_flat : DefAt K mg "_law_flat" f__law_flat fd__law_flat ["_law_book_here", "_law_kind"]) (G__law_flat : FnD P w K mg base cl k f__law_flat fd__law_flat ["_law_book_here", "_law_kind"] c__law_flat) {c__law_finite : DF} {f__law_finite : Addr} {fd__law_finite : FuncData} (D__law_finite : DefAt K mg "_law_finite" f__law_finite fd__law_finite ["_law_book_here", "_law_kind", "_law_seen"]) (G__law_finite : FnD P w K mg base cl k f__law_finite fd__law_finite ["_law_book_here", "_law_kind", "_law_seen"] c__law_finite) {c__law_value : DF} {f__law_value : Addr} {fd__law_value : FuncData} (D__law_value : DefAt K mg "_law_value" f__law_value fd__law_value ["_law_d", "_law_book_here", "_law_kind", "_law_deep"]) (G__law_value : FnD P w K mg base cl k f__law_value fd__law_value ["_law_d", "_law_book_here", "_law_kind", "_law_deep"] c__law_value) {c_is_value : DF} {f_is_value : Addr} {fd_is_value : FuncData} (D_is_value : DefAt K mg "is_value" f_is_value fd_is_value ["book", "kind", "thing"]) (G_is_value : FnD P w K mg base cl k f_is_value fd_is_value ["book", "kind", "thing"] c_is_value) {c__law_spoilt : DF} {f__law_spoilt : Addr} {fd__law_spoilt : FuncData} (D__law_spoilt : DefAt K mg "_law_spoilt" f__law_spoilt fd__law_spoilt ["_law_d", "_law_thing", "_law_steps"]) (G__law_spoilt : FnD P w K mg base cl k f__law_spoilt fd__law_spoilt ["_law_d", "_law_thing", "_law_steps"] c__law_spoilt) {c__law_take : DF} {f__law_take : Addr} {fd__law_take : FuncData} (D__law_take : DefAt K mg "_law_take" f__law_take fd__law_take ["_law_d"]) (G__law_take : FnD P w K mg base cl k f__law_take fd__law_take ["_law_d"] c__law_take) {c__law_is_value : DF} {f__law_is_value : Addr} {fd__law_is_value : FuncData} (D__law_is_value : DefAt K mg "_law_is_value" f__law_is_value fd__law_is_value ["_law_book_here", "_law_kind", "_law_thing"]) (G__law_is_value : FnD P w K mg base cl k f__law_is_value fd__law_is_value ["_law_book_here", "_law_kind", "_law_thing"] c__law_is_value) :
    FnD P w K mg base cl (k + 1) f fd ["_law_script"] (F_law c__law_start c__law_book c__law_places_right c__law_data c_size_of c__law_flat c__law_finite c__law_value c_is_value c__law_spoilt c__law_take c__law_is_value) :=
  FnD.of F sc_law fun cdv A outer s H E hr => (js_cons (js_set (i := 1) sc_law.nd rfl (by first | exact Or.inl rfl | exact Or.inr rfl) (j_call pass_def G__law_start hr (by rfl) D__law_start.mgf D__law_start.kp D__law_start.bi (ja_cons (j_var (pv 0)) ja_nil)))
    (js_cons (js_set (i := 2) sc_law.nd rfl (by first | exact Or.inl rfl | exact Or.inr rfl) (j_call pass_def G__law_book hr (by rfl) D__law_book.mgf D__law_book.kp D__law_book.bi (ja_cons (j_var (pv 1)) ja_nil)))
    (js_cons (js_set (i := 3) sc_law.nd rfl (by first | exact Or.inl rfl | exact Or.inr rfl) (j_disp (.cons j_str (j_callB cj_len (by rfl) T.b_len bb_len (ja_cons (j_ixA (Room.u1 hr) (j_var (pv 2)) j_int) ja_nil)) (.cons j_str (j_callB cj_len (by rfl) T.b_len bb_len (ja_cons (j_ixA (Room.u1 hr) (j_var (pv 2)) j_int) ja_nil)) .nil))))
    (js_cons (js_if (j_tnot (j_tru (j_call pass_def G__law_places_right hr (by rfl) D__law_places_right.mgf D__law_places_right.kp D__law_places_right.bi (ja_cons (j_var (pv 2)) ja_nil)) (fun _ => rfl))) (js_one (js_ret j_bl)) js_nil)
    (js_cons (js_for cx_def (ji_rng1 (by rfl) T.b_range (ja_cons j_int ja_nil)) (jg_name (pg_name (i := 4) sc_law.nd rfl (by first | exact Or.inl rfl | exact Or.inr rfl))) (js_cons (js_set (i := 5) sc_law.nd rfl (by first | exact Or.inl rfl | exact Or.inr rfl) (j_call pass_def G__law_data hr (by rfl) D__law_data.mgf D__law_data.kp D__law_data.bi (ja_cons (j_var (pv 1)) (ja_cons (j_var (pv 3)) (ja_cons j_int ja_nil)))))
    (js_cons (js_if (j_w (j_or (j_tcmp (oj_ne (Room.u64 hr)) (j_call pass_def G_size_of hr (by rfl) D_size_of.mgf D_size_of.kp D_size_of.bi (ja_cons (j_var (pv 2)) (ja_cons (j_var (pv 5)) ja_nil))) (j_call pass_def G__law_flat hr (by rfl) D__law_flat.mgf D__law_flat.kp D__law_flat.bi (ja_cons (j_var (pv 2)) (ja_cons (j_var (pv 5)) ja_nil))) (nomark _)) (j_or (j_tcmp (oj_ne (Room.u64 hr)) (j_call pass_def G_size_of hr (by rfl) D_size_of.mgf D_size_of.kp D_size_of.bi (ja_cons (j_var (pv 2)) (ja_cons (j_tup (ja_cons j_str (ja_cons (j_var (pv 5)) ja_nil))) ja_nil))) j_int (nomark _)) (j_or1 (j_tcmp (oj_ne (Room.u64 hr)) (j_call pass_def G_size_of hr (by rfl) D_size_of.mgf D_size_of.kp D_size_of.bi (ja_cons (j_var (pv 2)) (ja_cons (j_tup (ja_cons j_str (ja_cons (j_var (pv 5)) ja_nil))) ja_nil))) j_int (nomark _)))))) (js_one (js_ret j_bl)) js_nil)
    (js_one (js_if (j_tru (j_call pass_def G__law_finite hr (by rfl) D__law_finite.mgf D__law_finite.kp D__law_finite.bi (ja_cons (j_var (pv 2)) (ja_cons (j_var (pv 5)) (ja_cons (j_lst ja_nil) ja_nil)))) (fun _ => rfl)) (js_cons (js_set (i := 6) sc_law.nd rfl (by first | exact Or.inl rfl | exact Or.inr rfl) (j_call pass_def G__law_value hr (by rfl) D__law_value.mgf D__law_value.kp D__law_value.bi (ja_cons (j_var (pv 1)) (ja_cons (j_var (pv 2)) (ja_cons (j_var (pv 5)) (ja_cons j_int ja_nil))))))
    (js_cons (js_if (j_tcmp oj_isNot (j_call pass_def G_is_value hr (by rfl) D_is_value.mgf D_is_value.kp D_is_value.bi (ja_cons (j_var (pv 2)) (ja_cons (j_var (pv 5)) (ja_cons (j_var (pv 6)) ja_nil)))) j_bl (nomark _)) (js_one (js_ret j_bl)) js_nil)
    (js_one (js_for cx_def (ji_rng1 (by rfl) T.b_range (ja_cons j_int ja_nil)) (jg_name (pg_name (i := 7) sc_law.nd rfl (by first | exact Or.inl rfl | exact Or.inr rfl))) (js_cons (js_set (i := 6) sc_law.nd rfl (by first | exact Or.inl rfl | exact Or.inr rfl) (j_call pass_def G__law_spoilt hr (by rfl) D__law_spoilt.mgf D__law_spoilt.kp D__law_spoilt.bi (ja_cons (j_var (pv 1)) (ja_cons (j_var (pv 6)) (ja_cons (j_op oj_add j_int (j_op oj_mod (j_call pass_def G__law_take hr (by rfl) D__law_take.mgf D__law_take.kp D__law_take.bi (ja_cons (j_var (pv 1)) ja_nil)) j_int)) ja_nil)))))
    (js_cons (js_set (i := 8) sc_law.nd rfl (by first | exact Or.inl rfl | exact Or.inr rfl) (j_call pass_def G_is_value hr (by rfl) D_is_value.mgf D_is_value.kp D_is_value.bi (ja_cons (j_var (pv 2)) (ja_cons (j_var (pv 5)) (ja_cons (j_var (pv 6)) ja_nil)))))
    (js_one (js_if (j_w (j_or (j_tnot (j_tru (j_callB cj_isi_bool (by rfl) T.b_isinstance bb_isinstance (ja_cons (j_var (pv 8)) (ja_cons (j_ty (by rfl) T.b_bool bb_bool) ja_nil))) (fun _ => rfl))) (j_or1 (j_tcmp (oj_ne (Room.u64 hr)) (j_var (pv 8)) (j_call pass_def G__law_is_value hr (by rfl) D__law_is_value.mgf D__law_is_value.kp D__law_is_value.bi (ja_cons (j_var (pv 2)) (ja_cons (j_var (pv 5)) (ja_cons (j_var (pv 6)) ja_nil)))) (nomark _))))) (js_one (js_ret j_bl)) js_nil)))))))) js_nil)))))
    (js_one (js_ret j_bl)))))))
end
end K41

/-! DS1: texts by their codes. -/
namespace DL
open PySem PySem.Spec PyProof.Rows L2 SX
theorem at_S {l : List Nat} {c i : Nat} : StrLaws.At (S l) (S [c]) (S l).length i ↔ l[i]? = some c := by
  unfold StrLaws.At Builtin.Str.subAt
  rw [S_len, S_len]
  constructor
  · rintro ⟨h1, h2⟩
    have h1 : i + 1 ≤ l.length := h1
    have e : ((S l).cps.extract i (i + [c].length)) = (S [c]).cps := by simpa using h2
    have e2 := congrArg Array.toList e
    rw [Array.toList_extract] at e2
    have e3 : (l.drop i).take 1 = [c] := by simpa [List.extract_eq_take_drop] using e2
    rw [List.getElem?_eq_getElem (by omega)]
    rw [List.drop_eq_getElem_cons (by omega), List.take_succ_cons, List.take_zero] at e3
    exact congrArg some (List.cons.inj e3).1
  · intro h
    obtain ⟨hl, hc⟩ := List.getElem?_eq_some_iff.mp h
    refine ⟨by show i + 1 ≤ _; omega, ?_⟩
    have : ((S l).cps.extract i (i + [c].length)) = (S [c]).cps := by
      apply Array.toList_inj.mp
      rw [Array.toList_extract]
      show ((l.drop i).take (i + 1 - i)) = [c]
      rw [List.drop_eq_getElem_cons hl, show i + 1 - i = 1 by omega, hc]
      rfl
    rw [this]
    simp
theorem count_S (l : List Nat) (c : Nat) : Txt.count (S l) (S [c]) = (l.count c : Nat) := by
  rw [show S [c] = (⟨#[c]⟩ : Str) from rfl, count_cnt, show (S l).cps.toList = l from rfl]
  induction l with
  | nil => rfl
  | cons n r ih =>
    rw [cnt_cons, ih, List.count_cons]
    by_cases h : n = c
    · subst h; simp; omega
    · have : (n == c) = false := by simpa using h
      rw [if_neg h, this]
      simp
/-- the column behind a text: one more than the signs behind its last newline -/
def colOf (l : List Nat) : Nat := (l.reverse.takeWhile (fun c => c != 10)).length + 1
def rowOf (l : List Nat) : Nat := l.count 10 + 1
theorem colOf_nl (l : List Nat) : colOf (l ++ [10]) = 1 := by unfold colOf; simp
theorem colOf_c {l : List Nat} {c : Nat} (h : c ≠ 10) : colOf (l ++ [c]) = colOf l + 1 := by
  unfold colOf
  rw [List.reverse_append]
  simp [h]
theorem colOf_w {l w : List Nat} (h : ∀ c ∈ w, c ≠ 10) : colOf (l ++ w) = colOf l + w.length := by
  induction w generalizing l with
  | nil => simp
  | cons c w ih =>
    rw [show l ++ c :: w = (l ++ [c]) ++ w by simp, ih (fun d hd => h d (List.mem_cons_of_mem _ hd)), colOf_c (h c List.mem_cons_self), List.length_cons]
    omega
theorem rowOf_nl (l : List Nat) : rowOf (l ++ [10]) = rowOf l + 1 := by unfold rowOf; simp
theorem rowOf_w {l w : List Nat} (h : ∀ c ∈ w, c ≠ 10) : rowOf (l ++ w) = rowOf l := by
  unfold rowOf
  rw [List.count_append, List.count_eq_zero.mpr fun z => h 10 z rfl, Nat.add_zero]
theorem tw_all {α : Type} {p : α → Bool} : ∀ {a b : List α}, (∀ x ∈ a, p x = true) → (a ++ b).takeWhile p = a ++ b.takeWhile p
  | [], _, _ => rfl
  | x :: a, b, h => by
    rw [List.cons_append, List.takeWhile_cons_of_pos (h x List.mem_cons_self), tw_all fun y hy => h y (List.mem_cons_of_mem _ hy)]
    rfl
theorem rfind_S (l : List Nat) : ((S l).length : Int) - Txt.rfind (S l) (S [10]) = (colOf l : Nat) := by
  unfold Txt.rfind
  rcases StrLaws.last_spec (S l) (S [10]) with ⟨h, hn⟩ | ⟨i, h, ha, hn⟩
  · rw [h, S_len]
    have : ∀ c ∈ l, c ≠ 10 := by
      intro c hc e
      subst e
      obtain ⟨i, hi, e⟩ := List.getElem_of_mem hc
      exact hn i (at_S.mpr (by rw [List.getElem?_eq_getElem hi, e]))
    have := colOf_w (l := []) this
    rw [List.nil_append] at this
    rw [this]
    show (l.length : Int) - -1 = ((1 + l.length : Nat) : Int)
    omega
  · rw [h, S_len]
    rw [at_S] at ha
    obtain ⟨hl, hc⟩ := List.getElem?_eq_some_iff.mp ha
    have hs : l = l.take i ++ [10] ++ l.drop (i + 1) := by
      rw [List.append_assoc]
      show l = l.take i ++ (10 :: l.drop (i + 1))
      rw [← hc, ← List.drop_eq_getElem_cons hl, List.take_append_drop]
    have : ∀ c ∈ l.drop (i + 1), c ≠ 10 := by
      intro c hcm e
      subst e
      obtain ⟨k, hk, e⟩ := List.getElem_of_mem hcm
      rw [List.getElem_drop] at e
      rw [List.length_drop] at hk
      exact hn (i + 1 + k) (by omega) (at_S.mpr (by rw [List.getElem?_eq_getElem (by omega), e]))
    have e2 : colOf l = 1 + (l.drop (i + 1)).length := by
      have := colOf_w (l := l.take i ++ [10]) this
      rw [← hs] at this
      rw [this, colOf_nl]
    rw [e2, List.length_drop]
    show (l.length : Int) - (i : Int) = ((1 + (l.length - (i + 1)) : Nat) : Int)
    omega
theorem find3_S {pre w r : List Nat} {c : Nat} (hw : c ∉ w) (hr : r = [] ∨ ∃ r', r = c :: r') :
    Txt.find3 (S (pre ++ (w ++ r))) (S [c]) (pre.length : Nat) = if r = [] then -1 else ((pre.length + w.length : Nat) : Int) := by
  unfold Txt.find3
  have hf : fromIndex (S (pre ++ (w ++ r))).length ((pre.length : Nat) : Int) = pre.length := by
    unfold fromIndex
    rw [if_neg (by omega)]
    omega
  rw [hf, StrLaws.occ_eq]
  have look : ∀ i, pre.length ≤ i → (StrLaws.At (S (pre ++ (w ++ r))) (S [c]) (S (pre ++ (w ++ r))).length i ↔ (w ++ r)[i - pre.length]? = some c) := fun i hi => by
    rw [at_S, List.getElem?_append_right hi]
  have inw : ∀ k : Nat, k < w.length → ¬ (w ++ r)[k]? = some c := fun k hk h => by
    rw [List.getElem?_append_left hk] at h
    exact hw (List.mem_of_getElem? h)
  rcases StrLaws.occ_first (S (pre ++ (w ++ r))) (S [c]) (S (pre ++ (w ++ r))).length 1 (Nat.le_refl 1) (List.range' pre.length ((S (pre ++ (w ++ r))).length + 1 - pre.length)) pre.length (fun i hi => by have := List.mem_range'.mp hi; omega) with ⟨h0, hn⟩ | ⟨p, a, q, e, h0, ha, hn⟩
  · rw [h0]
    rcases hr with rfl | ⟨r', rfl⟩
    · rfl
    · exfalso
      have hm : pre.length + w.length ∈ List.range' pre.length ((S (pre ++ (w ++ c :: r'))).length + 1 - pre.length) := by
        rw [S_len, List.mem_range']
        refine ⟨w.length, ?_, by omega⟩
        simp; omega
      refine hn _ hm ((look _ (by omega)).mpr ?_)
      rw [show pre.length + w.length - pre.length = w.length by omega]
      simp
  · generalize (forIn (List.range' pre.length ((S (pre ++ (w ++ r))).length + 1 - pre.length)) ((#[] : Array Nat), pre.length) (StrLaws.occBody (S (pre ++ (w ++ r))) (S [c]) (S (pre ++ (w ++ r))).length 1)).run.fst = arr at h0
    have h1 : arr.toList[0]? = some a := by simpa using h0
    have ham : a ∈ List.range' pre.length ((S (pre ++ (w ++ r))).length + 1 - pre.length) := by rw [e]; simp
    have hpa : pre.length ≤ a := by
      have := List.mem_range'.mp ham
      omega
    have hat := (look a hpa).mp ha
    have hge : w.length ≤ a - pre.length := Nat.le_of_not_lt fun h => inw _ h hat
    rcases hr with rfl | ⟨r', rfl⟩
    · rw [List.append_nil] at hat
      rw [List.getElem?_eq_none (by omega)] at hat
      cases hat
    · have hEq : a = pre.length + w.length := by
        refine Nat.le_antisymm (Nat.le_of_not_lt fun h => ?_) (by omega)
        have hm : pre.length + w.length ∈ p := by
          have hmem : pre.length + w.length ∈ List.range' pre.length ((S (pre ++ (w ++ c :: r'))).length + 1 - pre.length) := by
            rw [S_len, List.mem_range']
            refine ⟨w.length, ?_, by omega⟩
            simp; omega
          rw [e] at hmem
          have hsorted : (p ++ a :: q).Pairwise (· < ·) := by rw [← e]; exact List.pairwise_lt_range'
          rcases List.mem_append.mp hmem with z | z
          · exact z
          · rcases List.mem_cons.mp z with z | z
            · omega
            · have := (List.pairwise_cons.mp (List.pairwise_append.mp hsorted).2.1).1 _ z
              omega
        refine hn _ hm ((look _ (by omega)).mpr ?_)
        rw [show pre.length + w.length - pre.length = w.length by omega]
        simp
      cases hL : arr.toList with
      | nil => rw [hL] at h1; cases h1
      | cons x xs =>
        rw [hL] at h1
        cases h1
        rw [if_neg (by simp)]
        show (a : Int) = _
        rw [hEq]
theorem cut_S {l : List Nat} {i j : Nat} (h : i ≤ j) (hj : i ≤ l.length) : cutS (S l) (some (i : Int)) (some (j : Int)) = S ((l.drop i).take (j - i)) := by
  unfold cutS
  rw [S_len, HT.sIx_nat, HT.sIx_nat]
  show S ((l.drop (min i l.length)).take (min j l.length - min i l.length)) = _
  rw [Nat.min_eq_left hj]
  congr 1
  by_cases h2 : j ≤ l.length
  · rw [Nat.min_eq_left h2]
  · rw [Nat.min_eq_right (by omega), List.take_of_length_le (by rw [List.length_drop]; omega), List.take_of_length_le (by rw [List.length_drop]; omega)]
section
variable {Q : D → Sto → Prop} {E : Exn → Sto → Prop} {st : Sto} {c : Nat} {l m : List Nat} {a : Str}
theorem wq_inc (q : Q (.bl (decide (c ∈ l))) st) : Wp (dInA false (.str (S [c])) (.str (S l)) st) Q E := by
  refine wp_of (a := .bl (decide (c ∈ l))) (st := st) ?_ q
  show R.ok (D.bl (false ^^ !(Builtin.Str.occurrences (S l) (S [c]) 0 (S l).length 1).isEmpty)) st = _
  rw [Bool.false_xor, in_one]
theorem wq_ninc (q : Q (.bl (!decide (c ∈ l))) st) : Wp (dInA true (.str (S [c])) (.str (S l)) st) Q E := by
  refine wp_of (a := .bl (!decide (c ∈ l))) (st := st) ?_ q
  show R.ok (D.bl (true ^^ !(Builtin.Str.occurrences (S l) (S [c]) 0 (S l).length 1).isEmpty)) st = _
  rw [Bool.true_xor, in_one]
theorem wq_ixS {i : Int} (hl : l.length ≤ 16777216) (h : atI l i = some c) (q : Q (.str (S [c])) st) : Wp (dIxA (.str (S l)) (.int i) st) Q E :=
  wq_ixs (by rw [S_len]; exact hl) h q
theorem wq_addS (h : l.length + m.length ≤ 16777216) (q : Q (.str (S (l ++ m))) st) : Wp (dAdd (.str (S l)) (.str (S m)) st) Q E :=
  wq_adds (by rw [S_len, S_len]; exact h) (by rw [S_cat]; exact q)
theorem wq_lenS (h : l.length ≤ 16777216) (q : Q (.int l.length) st) : Wp (cLen [.str (S l)] st) Q E :=
  wq_lens (by rw [S_len]; exact h) (by rw [S_len]; exact q)
theorem wq_cutS {i j : Nat} (hl : l.length ≤ 16777216) (h : i ≤ j) (hj : i ≤ l.length) (q : Q (.str (S ((l.drop i).take (j - i)))) st) : Wp (dCut (.str (S l)) (some (i : Int)) (some (j : Int)) st) Q E := by
  show Wp (if (S l).length ≤ sizeLine then R.ok (.str (cutS (S l) (some (i : Int)) (some (j : Int)))) st else .bad) Q E
  rw [if_pos (by rw [sizeLine_eq, S_len]; exact hl), cut_S h hj]
  exact q
/-- a text among texts -/
theorem inD_S {l : List Nat} {ms : List (List Nat)} : inD (.str (S l)) (ms.map fun m => D.str (S m)) = decide (l ∈ ms) := by
  unfold inD
  rw [List.any_map, Bool.eq_iff_iff, decide_eq_true_eq, List.any_eq_true]
  constructor
  · rintro ⟨m, hm, h⟩
    have h : (S m == S l) = true := h
    rw [S_beq] at h
    rw [← eq_of_beq h]
    exact hm
  · intro h
    refine ⟨l, h, ?_⟩
    show (S l == S l) = true
    simp
theorem wq_inS {ms : List (List Nat)} (q : Q (.bl (decide (l ∈ ms))) st) : Wp (dInA false (.str (S l)) (.tup (ms.map fun m => D.str (S m))) st) Q E := by
  refine wp_of (a := .bl (decide (l ∈ ms))) (st := st) ?_ q
  show (if (flatD (.str (S l)) && (ms.map fun m => D.str (S m)).all flatD) = true then R.ok (D.bl (false ^^ inD (.str (S l)) (ms.map fun m => D.str (S m)))) st else _) = _
  rw [if_pos (by rw [List.all_map]; show (true && ms.all fun _ => true) = true; simp), Bool.false_xor, inD_S]
theorem wq_ninS {ms : List (List Nat)} (q : Q (.bl (!decide (l ∈ ms))) st) : Wp (dInA true (.str (S l)) (.tup (ms.map fun m => D.str (S m))) st) Q E := by
  refine wp_of (a := .bl (!decide (l ∈ ms))) (st := st) ?_ q
  show (if (flatD (.str (S l)) && (ms.map fun m => D.str (S m)).all flatD) = true then R.ok (D.bl (true ^^ inD (.str (S l)) (ms.map fun m => D.str (S m)))) st else _) = _
  rw [if_pos (by rw [List.all_map]; show (true && ms.all fun _ => true) = true; simp), Bool.true_xor, inD_S]
end
end DL

namespace K41
open PySem PySem.Spec PyProof.Rows L2 DL
local macro_rules | `(tactic| walk_at "look") => `(tactic| first | assumption | (with_reducible exact get_new) | ((with_reducible apply get_set); walk_at "look") | ((with_reducible refine get_ne ?hne ?hq); (case hne => first | assumption | omega | decide); (case hq => walk_at "look")) | ((with_reducible apply get_old); walk_at "look") | exact rfl)
local macro_rules | `(tactic| walk_at "len") => `(tactic| (first | assumption | ((simp only [List.length_cons, List.length_nil, List.length_map, List.length_append]); omega) | omega))
local macro_rules | `(tactic| walk_at "kv") => `(tactic| ((simp only [putFD, mergeD, List.foldl_cons, List.foldl_nil, List.nil_append, List.cons_append, valD, putD, setD, Sum.inr.injEq, Sum.inl.injEq, reduceCtorEq, ofStr_inj, String.reduceEq, if_true, if_false, ↓reduceIte, Option.isSome_some, Option.isSome_none, Bool.false_eq_true]); first | done | exact rfl))
local macro_rules | `(tactic| walk_at "norm") => `(tactic| (with_reducible repeat' first | exact put_0 | refine' put_s ?_ | refine' setTo_set ?_ ?_ | exact setTo_refl))
local macro_rules | `(tactic| walk_at "w1") => `(tactic| first
  | (with_reducible first | refine if_nt ?_)
  | ((with_reducible refine' tabK_mk ?h ?q); (case h => walk_at "kv"))
  | ((with_reducible refine' wp_var ?h ?q); (case h => exact rfl))
  | ((with_reducible refine' wp_aug ?h ?q); (case h => exact rfl))
  | ((with_reducible refine wq_mod ?h ?q); (case h => first | assumption | omega))
  | ((with_reducible refine wq_div ?h ?h2 ?q); (case h => first | assumption | omega); (case h2 => omega))
  | ((with_reducible refine wq_mulB ?h ?q); (case h => omega))
  | ((with_reducible refine wq_mulS ?h ?h2 ?q); (case h => omega); (case h2 => omega))
  | ((with_reducible refine wq_eqs ?h ?h2 ?q); (case h => first | assumption | decide +kernel); (case h2 => first | assumption | decide +kernel))
  | ((with_reducible refine wq_nes ?h ?h2 ?q); (case h => first | assumption | decide +kernel); (case h2 => first | assumption | decide +kernel))
  | ((with_reducible refine' wq_ixt ?h ?q); (case h => first | exact rfl | assumption))
  | ((with_reducible refine' wq_ixl ?h ?q); (case h => first | exact rfl | assumption))
  | ((with_reducible refine' wq_ixf ?h ?q); (case h => first | exact rfl | assumption))
  | ((with_reducible refine' wq_ixk ?hn ?hk ?h ?q); (case hn => walk_at "look"); (case hk => exact rfl); (case h => first | assumption | walk_at "kv"))
  | ((with_reducible refine' wq_ixr ?hn ?h ?q); (case hn => walk_at "look"); (case h => first | assumption | exact rfl))
  | ((with_reducible refine' wq_lenr ?hn ?q); (case hn => walk_at "look"))
  | ((with_reducible refine' wp_fldv ?h ?hc ?hf ?q); (case h => walk_at "look"); (case hc => simp only [List.mem_cons, true_or, or_true]); (case hf => first | assumption | walk_at "kv"))
  | ((with_reducible refine' wq_ink ?hn ?hk ?q); (case hn => walk_at "look"); (case hk => exact rfl))
  | ((with_reducible refine' wq_nink ?hn ?hk ?q); (case hn => walk_at "look"); (case hk => exact rfl))
  | ((with_reducible refine' wp_setf ?h ?hc ?hl ?hp ?q); (case h => walk_at "look"); (case hc => simp only [List.mem_cons, true_or, or_true]); (case hl => walk_at "len"); (case hp => walk_at "kv"))
  | ((with_reducible refine' dispK_mk ?h ?hm ?q); (case h => walk_at "len"); (case hm => walk_at "kv"))
  | ((with_reducible refine' methK_mk ?h ?hf ?q); (case h => walk_at "look"); (case hf => first | assumption | walk_at "kv"))
  | ((with_reducible refine lenK_mk ?h ?q); (case h => walk_at "len"))
  | ((with_reducible refine isK_mk ?h ?q); (case h => first | exact rfl | assumption | ((apply wq_tyr (ty := "")); walk_at "look")))
  | ((with_reducible refine rng1K_mk ?h ?q); (case h => first | assumption | omega | (simp only [List.length_map]; omega)))
  | ((with_reducible refine rng2K_mk ?h1 ?h ?q); (case h1 => first | assumption | omega); (case h => first | assumption | omega | (simp only [List.length_map]; omega)))
  | ((with_reducible refine' wq_putk ?hn ?hk ?hl ?hp ?q); (case hn => walk_at "look"); (case hk => exact rfl); (case hl => walk_at "len"); (case hp => walk_at "kv"))
  | ((with_reducible refine' wq_append ?hn ?hl ?q); (case hn => walk_at "look"); (case hl => walk_at "len"))
  | ((with_reducible refine' wq_tupr ?hn ?q); (case hn => walk_at "look"))
  | fail)
local macro_rules | `(tactic| walk_at "ifd") => `(tactic| first
  | ((with_reducible refine if_dT ?h ?q); (case h => first | omega | ((simp only [List.length_cons, List.length_nil]); omega)))
  | ((with_reducible refine if_dF ?h ?q); (case h => first | omega | ((simp only [List.length_cons, List.length_nil]); omega))))
local macro_rules | `(tactic| walk_at "x1") => `(tactic| fail)
local macro_rules | `(tactic| walk_at "w") => `(tactic| repeat' first | (with_reducible refine go ?_) | walk_at "x1" | walk_at "w1")
local macro_rules | `(tactic| walk_at "def") => `(tactic| ((refine' wp_def ?hl ?ht ?q); (case hl => exact rfl); (case ht => ((simp only [startD, List.map_cons, List.map_nil, List.length_cons, List.length_nil, Nat.reduceAdd, Nat.reduceSub, List.replicate, List.cons_append, List.nil_append, List.append_nil]); first | done | exact rfl))))
local macro_rules | `(tactic| walk_at "un") => `(tactic| first | ((refine' wp_fcons ?hs ?q); (case hs => walk_at "norm")) | (refine wp_fnil ?_))

section

/-! ### draws -/
def Good (row : List Int) : Prop := ∀ x ∈ row, 0 ≤ x
theorem Good.add {row : List Int} {x : Int} (h : Good row) (h1 : 0 ≤ x) : Good (row ++ [x]) := fun y hy => by
  rcases List.mem_append.mp hy with z | z
  · exact h y z
  · rw [List.mem_singleton.mp z]; exact h1
theorem app_set {st : Sto} {o o' : Ob} : (st ++ [o]).set st.length o' = st ++ [o'] := by simp
theorem rng_ix {lo hi : Int} {i : Nat} {d : D} (h : (rng lo hi)[i]? = some d) : d = .int (lo + (i : Int)) ∧ (i : Int) < hi - lo := by
  have hl := (List.getElem?_eq_some_iff.mp h).1
  rw [rng_len] at hl
  rw [rng_get hl] at h
  exact ⟨(Option.some.inj h).symm, by omega⟩
def Rw (st0 : Sto) (b : Nat) (st : Sto) : Prop := ∃ row : List Int, st = st0 ++ [.lst (row.map .int)] ∧ row.length ≤ b ∧ Good row
theorem loop60 {s0 s1 x3 x4 x5 x7 : Option D} {st : Sto} {y : Int} {row : List Int} {n : Nat} {Q : Fl × En → Sto → Prop} {E : Exn → Sto → Prop} (hy : 0 ≤ y) (hl : row.length ≤ n) (hn : n ≤ 10000) (hg : Good row)
    (q : ∀ (row' : List Int) x6 x7, row'.length ≤ n + 60 → Good row' → Q (.nx, [s0, s1, some (.ref st.length), x3, x4, x5, x6, x7]) (st ++ [.lst (row'.map .int)])) :
    Wp (forL (gN 7) d__law_draws_L1 (rng 0 60) [s0, s1, some (.ref st.length), x3, x4, x5, some (.int y), x7] (st ++ [.lst (row.map .int)])) Q E := by
  with_reducible refine wp_forN (P := fun j τ st' => (∃ x6 x7, 0 ≤ x6 ∧ τ = [s0, s1, some (.ref st.length), x3, x4, x5, some (.int x6), x7]) ∧ Rw st (n + j) st') ?h0 ?hs ?hq
  case h0 => exact ⟨⟨y, _, hy, rfl⟩, row, rfl, hl, hg⟩
  case hs =>
    rintro j d τ st' hd ⟨⟨x6, x7, h0, rfl⟩, row, rfl, hl, hg⟩
    obtain ⟨rfl, hj⟩ := rng_ix hd
    simp only [List.set_cons_succ, List.set_cons_zero]
    unfold d__law_draws_L1
    walk_at "w"
    refine if_dec (fun hp => ?_) (fun hp => ?_)
    · unfold d__law_draws_B2
      walk_at "w"
      exact ⟨⟨x6 / 997, _, by omega, rfl⟩, row ++ [x6 % 997], by rw [app_set, List.map_append]; rfl, by simp; omega, hg.add (by omega)⟩
    · walk_at "w"
      exact ⟨⟨x6, _, h0, rfl⟩, row, rfl, by omega, hg⟩
  case hq =>
    rintro τ st' ⟨⟨x6, x7, _, rfl⟩, row, rfl, hl, hg⟩
    rw [rng_len] at hl
    exact q row _ _ (by omega) hg
theorem loop400 {s0 s1 x5 x6 x7 x4 : Option D} {st : Sto} {m : Int} {row : List Int} {Q : Fl × En → Sto → Prop} {E : Exn → Sto → Prop} (hm : 0 ≤ m) (hl : row.length ≤ 6400) (hg : Good row)
    (q : ∀ (row' : List Int) x3 x4, 400 ≤ row'.length → Good row' → Q (.nx, [s0, s1, some (.ref st.length), x3, x4, x5, x6, x7]) (st ++ [.lst (row'.map .int)])) :
    Wp (forL (gN 4) d__law_draws_L3 (rng 0 400) [s0, s1, some (.ref st.length), some (.int m), x4, x5, x6, x7] (st ++ [.lst (row.map .int)])) Q E := by
  with_reducible refine wp_forN (P := fun i τ st' => (∃ x3 x4, 0 ≤ x3 ∧ τ = [s0, s1, some (.ref st.length), some (.int x3), x4, x5, x6, x7]) ∧ ∃ row : List Int, st' = st ++ [.lst (row.map .int)] ∧ row.length ≤ 6400 + i ∧ i ≤ row.length ∧ Good row) ?h0 ?hs ?hq
  case h0 => exact ⟨⟨m, _, hm, rfl⟩, row, rfl, by omega, by omega, hg⟩
  case hs =>
    rintro i d τ st' hd ⟨⟨x3, x4, h3, rfl⟩, row, rfl, hl, h2, hg⟩
    obtain ⟨rfl, hi⟩ := rng_ix hd
    simp only [List.set_cons_succ, List.set_cons_zero]
    unfold d__law_draws_L3
    walk_at "w"
    exact ⟨⟨_, _, by omega, rfl⟩, row ++ [_], by rw [app_set, List.map_append]; rfl, by simp; omega, by simp; omega, hg.add (by omega)⟩
  case hq =>
    rintro τ st' ⟨⟨x3, x4, h3, rfl⟩, row, rfl, hl, h2, hg⟩
    rw [rng_len] at h2
    exact q row _ _ (by omega) hg
theorem cut400 {st : Sto} {row : List Int} (h : 400 ≤ row.length) : dCut (.ref st.length) none (some 400) (st ++ [.lst (row.map .int)]) = .ok (.lst ((row.take 400).map .int)) (st ++ [.lst (row.map .int)]) := by
  unfold dCut seqOf
  simp only [get_new]
  have e : cutL (row.map D.int) none (some 400) = (row.take 400).map .int := by
    unfold cutL
    have a1 : HT.sIx (row.map D.int).length 0 none = 0 := by unfold HT.sIx; simp
    have a2 : HT.sIx (row.map D.int).length (row.map D.int).length (some 400) = 400 := by
      rw [List.length_map]
      unfold HT.sIx
      simp
      omega
    rw [a1, a2, List.drop_zero, Nat.sub_zero, List.map_take]
  rw [e]
theorem draws_raw {ns : List Int} {st : Sto} (hn : ns.length ≤ 63) : Wp (F__law_draws [.fro (ns.map .int), .int 400] st)
    (fun d st' => ∃ row g : List Int, d = .lst (row.map .int) ∧ st' = st ++ [.lst (g.map .int)] ∧ row.length = 400 ∧ Good row) NoX := by
  unfold F__law_draws
  with_reducible refine wp_def (τ := [some (.fro (ns.map .int)), some (.int 400), none, none, none, none, none, none]) ?hl ?ht ?_
  case hl => rfl
  case ht => rfl
  unfold d__law_draws
  walk_at "w"
  with_reducible refine wp_forN (P := fun i τ st' => (∃ x3 x4 x5 x6 x7, 0 ≤ x3 ∧ τ = [some (.fro (ns.map .int)), some (.int 400), some (.ref st.length), some (.int x3), x4, x5, x6, x7]) ∧ Rw st (i * 100) st') ?h0 ?hs ?hq
  case h0 => exact ⟨⟨7, _, _, _, _, by omega, rfl⟩, [], rfl, by simp, fun x hx => by cases hx⟩
  case hs =>
    rintro i d τ st' hd ⟨⟨x3, x4, x5, x6, x7, h3, rfl⟩, row, rfl, hl, hg⟩
    obtain ⟨rfl, hi⟩ := rng_ix hd
    rw [Int.zero_add]
    rw [List.length_map] at hi
    have hat := atI_map (ns := ns) (k := i) (by omega)
    generalize ns.getD i 0 = z at hat
    simp only [List.set_cons_succ, List.set_cons_zero]
    unfold d__law_draws_L2
    walk_at "w"
    have hz : 0 ≤ (if z < 0 then -z else z) := by split <;> omega
    generalize (if z < 0 then -z else z) = c at hz ⊢
    with_reducible refine wp_of (a := .int 1000000000000000000) (st := st ++ [.lst (row.map .int)]) ?e ?_
    case e => rfl
    walk_at "w"
    refine if_dec (fun hz => ?_) (fun hz => ?_)
    · walk_at "w"
      with_reducible refine loop60 (n := i * 100 + 2) ?p1 ?p2 ?p3 ?p4 ?_
      case p1 => omega
      case p2 => omega
      case p3 => omega
      case p4 => exact hg
      intro row' x6 x7 h1 h2
      walk_at "w"
      exact ⟨⟨_, _, _, _, _, by omega, rfl⟩, row', rfl, by omega, h2⟩
    · unfold d__law_draws_B1
      walk_at "w"
      rw [app_set]
      walk_at "w"
      have e : ∀ a b : Int, ((st ++ [Ob.lst (row.map D.int ++ [D.int a])]).set st.length (Ob.lst (row.map D.int ++ [D.int a] ++ [D.int b]))) = st ++ [.lst ((row ++ [a, b]).map .int)] := fun a b => by simp
      rw [e]
      with_reducible refine loop60 (n := i * 100 + 2) ?p1 ?p2 ?p3 ?p4 ?_
      case p1 => omega
      case p2 => simp; omega
      case p3 => omega
      case p4 =>
        intro x hx
        rcases List.mem_append.mp hx with q | q
        · exact hg x q
        · simp only [List.mem_cons, List.not_mem_nil, or_false] at q
          rcases q with rfl | rfl <;> omega
      intro row' x6 x7 h1 h2
      walk_at "w"
      exact ⟨⟨_, _, _, _, _, by omega, rfl⟩, row', rfl, by omega, h2⟩
  case hq =>
    rintro τ st1 ⟨⟨x3, x4, x5, x6, x7, h3, rfl⟩, row, rfl, hl, hg⟩
    rw [rng_len, List.length_map] at hl
    walk_at "w"
    with_reducible refine loop400 ?p1 ?p2 ?p3 ?_
    case p1 => exact h3
    case p2 => omega
    case p3 => exact hg
    intro row' x3 x4 h1 h2
    walk_at "w"
    with_reducible refine wp_of (cut400 h1) ?_
    walk_at "w"
    exact ⟨row'.take 400, row', rfl, rfl, by rw [List.length_take]; omega, fun x hx => h2 x (List.mem_of_mem_take hx)⟩
end

section

/-! ### numbers, words, data kinds -/
section
variable {Q : D → Sto → Prop} {E : Exn → Sto → Prop} {st : Sto}
theorem isi_t {T m : String} {d : D} (h : tyNm d st = some m) (hb : isTy T m = true) (q : Q (.bl true) st) : Wp (cIsi T [d, .raw (.ty T)] st) Q E := wq_isi h (by rw [hb]; exact q)
theorem isi_f {T m : String} {d : D} (h : tyNm d st = some m) (hb : isTy T m = false) (q : Q (.bl false) st) : Wp (cIsi T [d, .raw (.ty T)] st) Q E := wq_isi h (by rw [hb]; exact q)
theorem isi_tup {xs : List D} (q : Q (.bl true) st) : Wp (cIsi "tuple" [.tup xs, .raw (.ty "tuple")] st) Q E := isi_t (m := "tuple") rfl rfl q
theorem isi_int {i : Int} (q : Q (.bl true) st) : Wp (cIsi "int" [.int i, .raw (.ty "int")] st) Q E := isi_t (m := "int") rfl rfl q
theorem isi_nbl {i : Int} (q : Q (.bl false) st) : Wp (cIsi "bool" [.int i, .raw (.ty "bool")] st) Q E := isi_f (m := "int") rfl rfl q
theorem isi_bl {b : Bool} (q : Q (.bl true) st) : Wp (cIsi "bool" [.bl b, .raw (.ty "bool")] st) Q E := isi_t (m := "bool") rfl rfl q
theorem isi_str {x : Str} (q : Q (.bl true) st) : Wp (cIsi "str" [.str x, .raw (.ty "str")] st) Q E := isi_t (m := "str") rfl rfl q
theorem isi_pstr {x : D} (h : plD x = true) (q : Q (.bl (match x with | .str _ => true | _ => false)) st) : Wp (cIsi "str" [x, .raw (.ty "str")] st) Q E := by
  cases x with
  | str y => exact isi_str q
  | dic _ => cases h
  | ref _ => cases h
  | raw _ => cases h
  | non => exact isi_f (m := "NoneType") rfl rfl q
  | bl _ => exact isi_f (m := "bool") rfl rfl q
  | int _ => exact isi_f (m := "int") rfl rfl q
  | tup _ => exact isi_f (m := "tuple") rfl rfl q
  | lst _ => exact isi_f (m := "list") rfl rfl q
  | fro _ => exact isi_f (m := "list") rfl rfl q
end
local macro_rules | `(tactic| walk_at "x1") => `(tactic| first | (with_reducible refine isi_tup ?_) | (with_reducible refine isi_int ?_) | (with_reducible refine isi_nbl ?_) | (with_reducible refine isi_bl ?_) | (with_reducible refine isi_str ?_) | (with_reducible refine wq_lent ?_))
def numB (d : D) (m : Int) : Bool := match d with
  | .int i => decide (0 ≤ i) && decide (i < m)
  | _ => false
theorem num_w {d : D} {m : Int} {st : Sto} (h : plD d = true) : X_is_number [d, .int m] st = .ok (.bl (numB d m)) st := by
  cases d with
  | int i =>
    refine wp_eq ?_
    unfold X_is_number F_is_number
    walk_at "def"
    unfold d_is_number
    walk_at "w"
    unfold numB
    refine if_dec (fun h0 => ?_) (fun h0 => ?_)
    · walk_at "w"
      exact ⟨by show _ = D.bl (decide (0 ≤ i) && decide (i < m)); rw [decide_eq_true h0]; rfl, rfl⟩
    · exact ⟨by show _ = D.bl (decide (0 ≤ i) && decide (i < m)); rw [decide_eq_false h0]; rfl, rfl⟩
  | dic _ => cases h
  | ref _ => cases h
  | raw _ => cases h
  | _ => rfl
/-- a tuple that begins with a text -/
def wordB : D → Bool
  | .tup (.str _ :: _) => true
  | _ => false
theorem wordB_inv {d : D} (h : wordB d = true) : ∃ s r, d = .tup (.str s :: r) := by
  unfold wordB at h
  split at h
  · exact ⟨_, _, rfl⟩
  · cases h
theorem pl_tup {ds : List D} (h : plD (.tup ds) = true) : ∀ d ∈ ds, plD d = true := plDs_all.mp h
theorem word_w {d : D} {st : Sto} (h : plD d = true) : X_has_word [d] st = .ok (.bl (wordB d)) st := by
  cases d with
  | tup ds =>
    cases ds with
    | nil => rfl
    | cons x r =>
      refine wp_eq ?_
      unfold X_has_word F_has_word
      walk_at "def"
      unfold d_has_word
      walk_at "w"
      refine if_dT (by simp only [List.length_cons]; omega) ?_
      walk_at "w"
      have hx := pl_tup h x List.mem_cons_self
      refine isi_pstr hx ?_
      cases x <;> exact ⟨rfl, rfl⟩
  | dic _ => cases h
  | ref _ => cases h
  | raw _ => cases h
  | _ => rfl
def isA (ts : List Str) (s : Str) : Bool := ts.any fun t => t == s
/-- a text among written texts -/
theorem inD_lit (s : Str) : ∀ ts : List Str, inD (.str s) (ts.map .str) = ts.any (fun t => t == s)
  | [] => rfl
  | t :: ts => by
    have := inD_lit s ts
    unfold inD at *
    rw [List.map_cons, List.any_cons, List.any_cons, this]
    rfl
theorem flat_lit : ∀ ts : List Str, (ts.map D.str).all flatD = true
  | [] => rfl
  | _ :: ts => by rw [List.map_cons, List.all_cons, flat_lit ts]; rfl
theorem in_lit {s : Str} {ts : List Str} {st : Sto} {Q : D → Sto → Prop} {E : Exn → Sto → Prop} (q : Q (.bl (isA ts s)) st) : Wp (dInA false (.str s) (.tup (ts.map .str)) st) Q E := by
  have e : dInA false (.str s) (.tup (ts.map .str)) st = .ok (.bl (isA ts s)) st := by
    show (if (flatD (.str s) && (ts.map D.str).all flatD) = true then R.ok (D.bl (false ^^ inD (.str s) (ts.map .str))) st else _) = _
    rw [flat_lit, inD_lit, Bool.false_xor]
    rfl
  rw [e]; exact q
/-- a text in the dict of the counts -/
def cntD (nr nv : Int) : D := .dic [(.inr "record", .int nr), (.inr "variant", .int nv)]
theorem str_ne {a b : Str} (h : (a == b) = false) : a ≠ b := fun e => by rw [e, beq_self_eq_true] at h; cases h
theorem in_cnt {s : Str} {nr nv : Int} {st : Sto} {Q : D → Sto → Prop} {E : Exn → Sto → Prop} (q : Q (.bl (isA ["record", "variant"] s)) st) : Wp (dInA false (.str s) (cntD nr nv) st) Q E := by
  have e : dInA false (.str s) (cntD nr nv) st = .ok (.bl (isA ["record", "variant"] s)) st := by
    have e : isA ["record", "variant"] s = (("record" : Str) == s || ("variant" : Str) == s) := by unfold isA; simp only [List.any_cons, List.any_nil, Bool.or_false]
    rw [e]
    show R.ok (D.bl (false ^^ (valD [((.inr ("record" : Str) : Key), D.int nr), (.inr ("variant" : Str), .int nv)] (.inr s)).isSome)) st = _
    simp only [valD, Sum.inr.injEq]
    by_cases h1 : ("record" : Str) = s
    · rw [if_pos h1, beq_iff_eq.mpr h1]; rfl
    · by_cases h2 : ("variant" : Str) = s
      · rw [if_neg h1, if_pos h2, beq_iff_eq.mpr h2, Bool.or_true]; rfl
      · rw [if_neg h1, if_neg h2, beq_eq_false_iff_ne.mpr h1, beq_eq_false_iff_ne.mpr h2]; rfl
  rw [e]; exact q
theorem isA_mem {ts : List Str} {s : Str} : isA ts s = true ↔ s ∈ ts := by
  unfold isA
  rw [List.any_eq_true]
  exact ⟨fun ⟨t, h1, h2⟩ => by rw [← beq_iff_eq.mp h2]; exact h1, fun h => ⟨s, h, beq_self_eq_true s⟩⟩
/-! ### data kinds -/
def pick2 (nr nv : Int) (s : Str) : Int := if s = "variant" then nv else nr
def dataB (nr nv : Int) : Nat → D → Bool
  | 0, _ => false
  | n + 1, d => match d with
    | .tup (.str s :: r) => if isA ["int", "bool"] s = true then r.isEmpty else match r with
      | [x] => if isA ["box", "vec"] s = true then dataB nr nv n x else if isA ["record", "variant"] s = true then numB x (pick2 nr nv s) else false
      | _ => false
    | _ => false
theorem dataB_no {nr nv : Int} {n : Nat} {d : D} (h : wordB d = false) : dataB nr nv n d = false := by
  cases n with
  | zero => rfl
  | succ n =>
    unfold dataB
    split
    · cases h
    · rfl
theorem dataB_w {nr nv : Int} {n : Nat} {s : Str} {r : List D} : dataB nr nv (n + 1) (.tup (.str s :: r)) = if isA ["int", "bool"] s = true then r.isEmpty else match r with
      | [x] => if isA ["box", "vec"] s = true then dataB nr nv n x else if isA ["record", "variant"] s = true then numB x (pick2 nr nv s) else false
      | _ => false := rfl
section
variable {nr nv : Int} {n : Nat} {s : Str} {r : List D} {x : D}
theorem dataB_plain (hs : isA ["int", "bool"] s = true) : dataB nr nv (n + 1) (.tup (.str s :: r)) = r.isEmpty := by rw [dataB_w, if_pos hs]
theorem dataB_len (hs : isA ["int", "bool"] s = false) (hr : ¬ (((D.str s :: r).length : Int) = 2)) : dataB nr nv (n + 1) (.tup (.str s :: r)) = false := by
  rw [dataB_w, if_neg (by rw [hs]; decide)]
  match r, hr with
  | [], _ => rfl
  | [_], h2 => exact (h2 rfl).elim
  | _ :: _ :: _, _ => rfl
theorem dataB_hold (hs : isA ["int", "bool"] s = false) (hb : isA ["box", "vec"] s = true) : dataB nr nv (n + 1) (.tup [.str s, x]) = dataB nr nv n x := by
  rw [dataB_w, if_neg (by rw [hs]; decide)]
  show (if isA ["box", "vec"] s = true then _ else _) = _
  rw [if_pos hb]
theorem dataB_named (hs : isA ["int", "bool"] s = false) (hb : isA ["box", "vec"] s = false) (hr : isA ["record", "variant"] s = true) : dataB nr nv (n + 1) (.tup [.str s, x]) = numB x (pick2 nr nv s) := by
  rw [dataB_w, if_neg (by rw [hs]; decide)]
  show (if isA ["box", "vec"] s = true then _ else _) = _
  rw [if_neg (by rw [hb]; decide), if_pos hr]
theorem dataB_none (hs : isA ["int", "bool"] s = false) (hb : isA ["box", "vec"] s = false) (hr : isA ["record", "variant"] s = false) : dataB nr nv (n + 1) (.tup [.str s, x]) = false := by
  rw [dataB_w, if_neg (by rw [hs]; decide)]
  show (if isA ["box", "vec"] s = true then _ else _) = _
  rw [if_neg (by rw [hb]; decide), if_neg (by rw [hr]; decide)]
theorem len2 (h : (((D.str s :: r).length : Int) = 2)) : ∃ x, r = [x] := by
  match r, h with
  | [], h2 => simp only [List.length_cons, List.length_nil] at h2; omega
  | [x], _ => exact ⟨x, rfl⟩
  | _ :: _ :: _, h2 => simp only [List.length_cons] at h2; omega
end
theorem cnt_get {s : Str} {nr nv : Int} (h : isA ["record", "variant"] s = true) : valD [((.inr ("record" : Str) : Key), D.int nr), (.inr ("variant" : Str), .int nv)] (.inr s) = some (.int (pick2 nr nv s)) := by
  rw [isA_mem] at h
  simp only [List.mem_cons, List.not_mem_nil, or_false] at h
  rcases h with rfl | rfl <;> rfl
theorem len1 {r : List D} {x : D} : decide (((x :: r).length : Int) = 1) = r.isEmpty := by
  cases r with
  | nil => rfl
  | cons y r => rw [decide_eq_false (by simp only [List.length_cons]; omega)]; rfl
end

section

local macro_rules | `(tactic| walk_at "x1") => `(tactic| first | (with_reducible refine isi_tup ?_) | (with_reducible refine isi_int ?_) | (with_reducible refine isi_nbl ?_) | (with_reducible refine isi_bl ?_) | (with_reducible refine isi_str ?_) | (with_reducible refine wq_lent ?_))
/-! ### kinds -/
theorem trim_dK {F : DF} {ds : List D} {st : Sto} {kvs : List (Key × D)} (h : F ds st = .ok (.ref st.length) (st ++ [.dK kvs])) (h3 : wfk st.length kvs = true) : trimF F ds st = .ok (.dic kvs) st := by
  unfold trimF
  rw [h]
  have e : (st ++ [Ob.dK kvs]).take st.length = st := by rw [List.take_left']; rfl
  simp only [e, Kept.refl, if_true, Nat.lt_irrefl, if_false, get_new, h3]
def kindB (nr nv : Int) (d : D) : Bool := match d with
  | .tup (.str s :: r) => if isA ["ref", "mut"] s = true then (match r with
    | [x] => dataB nr nv 11 x
    | _ => false) else dataB nr nv 12 d
  | _ => false
theorem kindB_no {nr nv : Int} {d : D} (h : wordB d = false) : kindB nr nv d = false := by
  unfold kindB
  split
  · cases h
  · rfl
def kind1 (nr nv : Int) : List D → Bool
  | [x] => dataB nr nv 11 x
  | _ => false
theorem kindB_ref {nr nv : Int} {s : Str} {r : List D} (hs : isA ["ref", "mut"] s = true) : kindB nr nv (.tup (.str s :: r)) = kind1 nr nv r := by
  show (if isA ["ref", "mut"] s = true then _ else _) = _
  rw [if_pos hs]
  match r with
  | [] => rfl
  | [_] => rfl
  | _ :: _ :: _ => rfl
theorem kind1_no {nr nv : Int} {s : Str} {r : List D} (h2 : ¬ (((D.str s :: r).length : Int) = 2)) : kind1 nr nv r = false := by
  match r, h2 with
  | [], _ => rfl
  | [_], h2 => exact (h2 rfl).elim
  | _ :: _ :: _, _ => rfl
/-! ### rows of kinds -/
theorem wp_pure {tg : Tgt} {te : DE} {σ : En} {ds : List D} {st : Sto} {Q : List D → Sto → Prop} {E : Exn → Sto → Prop} (f : D → D) (g : D → En) (hp : ∀ d ∈ ds, tg.put d σ = some (g d)) (he : ∀ d ∈ ds, te (g d) st = .ok (f d) st) (hl : ds.length ≤ 16777216)
    (q : Q (ds.map f) st) : Wp (compL tg dYes te σ ds [] st) Q E := by
  have e := compL_map (tg := tg) (tt := dYes) (te := te) (τ := σ) (st := st) (c := id) (g := g) (p := fun _ => true) (f := f) (ns := ds) hp (fun _ _ => rfl) (fun a ha _ => he a ha) (by rw [sizeLine_eq]; exact hl)
  rw [List.map_id, List.filter_eq_self.mpr (fun _ _ => rfl)] at e
  rw [e]
  exact q
theorem bools_map {α : Type} {p : α → Bool} : ∀ {ds : List α}, boolsOf (ds.map fun d => .bl (p d)) = some (ds.map p)
  | [] => rfl
  | d :: ds => by
    have := bools_map (p := p) (ds := ds)
    show (boolsOf (ds.map fun d => D.bl (p d))).map (p d :: ·) = _
    rw [this]; rfl
theorem all_map {p : D → Bool} {ds : List D} {st : Sto} {Q : D → Sto → Prop} {E : Exn → Sto → Prop} (q : Q (.bl (ds.all p)) st) : Wp (cAll1 [.lst (ds.map fun d => .bl (p d))] st) Q E := by
  refine wq_all bools_map ?_
  rw [List.all_map]
  exact q
def partsB (nr nv : Int) (d : D) : Bool := match d with
  | .tup ds => decide (ds.length ≤ 20) && ds.all (dataB nr nv 12)
  | _ => false
def variantB (nr nv : Int) (d : D) : Bool := match d with
  | .tup ds => decide (1 ≤ ds.length) && decide (ds.length ≤ 20) && ds.all (partsB nr nv)
  | _ => false
/-- a thing that may be told apart -/
def isTupD : D → Bool
  | .tup _ => true
  | _ => false
theorem isi_ptup {x : D} {st : Sto} {Q : D → Sto → Prop} {E : Exn → Sto → Prop} (h : plD x = true) (q : Q (.bl (isTupD x)) st) : Wp (cIsi "tuple" [x, .raw (.ty "tuple")] st) Q E := by
  cases x with
  | tup _ => exact isi_tup q
  | dic _ => cases h
  | ref _ => cases h
  | raw _ => cases h
  | non => exact isi_f (m := "NoneType") rfl rfl q
  | bl _ => exact isi_f (m := "bool") rfl rfl q
  | int _ => exact isi_f (m := "int") rfl rfl q
  | str _ => exact isi_f (m := "str") rfl rfl q
  | lst _ => exact isi_f (m := "list") rfl rfl q
  | fro _ => exact isi_f (m := "list") rfl rfl q
theorem isTupD_inv {d : D} (h : isTupD d = true) : ∃ ds, d = .tup ds := by
  cases d with
  | tup ds => exact ⟨ds, rfl⟩
  | _ => cases h
end

section

/-! ### kinds and books as data -/
inductive Kd where
  | int | bool
  | box (k : Kd) | vec (k : Kd)
  | nm (v : Bool) (n : Nat)
def nmS (v : Bool) : Str := if v = true then "variant" else "record"
def kdD : Kd → D
  | .int => .tup [.str "int"]
  | .bool => .tup [.str "bool"]
  | .box k => .tup [.str "box", kdD k]
  | .vec k => .tup [.str "vec", kdD k]
  | .nm v n => .tup [.str (nmS v), .int n]
def Kd.ok (nr nv : Nat) : Kd → Prop
  | .box k => k.ok nr nv
  | .vec k => k.ok nr nv
  | .nm v n => n < (if v = true then nv else nr)
  | _ => True
theorem numB_inv {d : D} {m : Int} (h : numB d m = true) : ∃ k : Nat, d = .int k ∧ (k : Int) < m := by
  cases d with
  | int i =>
    have h : (decide (0 ≤ i) && decide (i < m)) = true := h
    rw [Bool.and_eq_true_iff, decide_eq_true_eq, decide_eq_true_eq] at h
    exact ⟨i.toNat, by rw [Int.toNat_of_nonneg h.1], by omega⟩
  | _ => cases h
theorem dataB_kd {nr nv : Nat} : ∀ {n : Nat} {d : D}, dataB nr nv n d = true → ∃ κ : Kd, d = kdD κ ∧ κ.ok nr nv := by
  intro n
  induction n with
  | zero => intro d h; cases h
  | succ n ih =>
    intro d h
    have hw : wordB d = true := by
      cases hb : wordB d with
      | true => rfl
      | false => rw [dataB_no hb] at h; cases h
    obtain ⟨s, r, rfl⟩ := wordB_inv hw
    rw [dataB_w] at h
    by_cases hs : isA ["int", "bool"] s = true
    · rw [if_pos hs] at h
      have hr : r = [] := List.isEmpty_iff.mp h
      subst hr
      rw [isA_mem] at hs
      simp only [List.mem_cons, List.not_mem_nil, or_false] at hs
      rcases hs with rfl | rfl
      · exact ⟨.int, rfl, trivial⟩
      · exact ⟨.bool, rfl, trivial⟩
    · rw [if_neg hs] at h
      match r, h with
      | [x], h =>
        have h : (if isA ["box", "vec"] s = true then dataB nr nv n x else if isA ["record", "variant"] s = true then numB x (pick2 nr nv s) else false) = true := h
        by_cases hb : isA ["box", "vec"] s = true
        · rw [if_pos hb] at h
          obtain ⟨κ, rfl, hk⟩ := ih h
          rw [isA_mem] at hb
          simp only [List.mem_cons, List.not_mem_nil, or_false] at hb
          rcases hb with rfl | rfl
          · exact ⟨.box κ, rfl, hk⟩
          · exact ⟨.vec κ, rfl, hk⟩
        · rw [if_neg hb] at h
          by_cases hr : isA ["record", "variant"] s = true
          · rw [if_pos hr] at h
            obtain ⟨k, rfl, h2⟩ := numB_inv h
            rw [isA_mem] at hr
            simp only [List.mem_cons, List.not_mem_nil, or_false] at hr
            rcases hr with rfl | rfl
            · refine ⟨.nm false k, rfl, ?_⟩
              have h2 : (k : Int) < (nr : Int) := h2
              show k < (if false = true then nv else nr)
              rw [if_neg (by decide)]; omega
            · refine ⟨.nm true k, rfl, ?_⟩
              have h2 : (k : Int) < (nv : Int) := h2
              show k < (if true = true then nv else nr)
              rw [if_pos rfl]; omega
          · rw [if_neg hr] at h; cases h
abbrev Row := List Kd
def rowD (r : Row) : D := .tup (r.map kdD)
structure Bk where
  recs : List Row
  vars : List (List Row)
def tagsD (ts : List Row) : D := .tup (ts.map rowD)
def bookD (B : Bk) : D := .tup [.tup (B.recs.map rowD), .tup (B.vars.map tagsD)]
structure Bk.ok (B : Bk) : Prop where
  nr : B.recs.length ≤ 40
  nv : B.vars.length ≤ 40
  r : ∀ row ∈ B.recs, row.length ≤ 20 ∧ ∀ κ ∈ row, κ.ok B.recs.length B.vars.length
  v : ∀ ts ∈ B.vars, 1 ≤ ts.length ∧ ts.length ≤ 20 ∧ ∀ row ∈ ts, row.length ≤ 20 ∧ ∀ κ ∈ row, κ.ok B.recs.length B.vars.length
theorem map_ex {α : Type} {f : α → D} {P : α → Prop} : ∀ {ds : List D}, (∀ d ∈ ds, ∃ a, d = f a ∧ P a) → ∃ as : List α, ds = as.map f ∧ ∀ a ∈ as, P a
  | [], _ => ⟨[], rfl, fun _ h => (List.not_mem_nil h).elim⟩
  | d :: ds, h => by
    obtain ⟨a, h1, h2⟩ := h d List.mem_cons_self
    obtain ⟨as, h3, h4⟩ := map_ex (ds := ds) fun x hx => h x (List.mem_cons_of_mem _ hx)
    refine ⟨a :: as, by rw [h1, h3]; rfl, fun x hx => ?_⟩
    rcases List.mem_cons.mp hx with rfl | hx
    · exact h2
    · exact h4 x hx
theorem partsB_row {nr nv : Nat} {d : D} (h : partsB nr nv d = true) : ∃ r : Row, d = rowD r ∧ r.length ≤ 20 ∧ ∀ κ ∈ r, κ.ok nr nv := by
  unfold partsB at h
  split at h
  · rename_i ds
    rw [Bool.and_eq_true_iff, decide_eq_true_eq, List.all_eq_true] at h
    obtain ⟨as, rfl, h2⟩ := map_ex (f := kdD) (P := fun κ => κ.ok nr nv) fun d hd => dataB_kd (h.2 d hd)
    exact ⟨as, rfl, by simpa using h.1, h2⟩
  · cases h
theorem variantB_tags {nr nv : Nat} {d : D} (h : variantB nr nv d = true) : ∃ ts : List Row, d = tagsD ts ∧ 1 ≤ ts.length ∧ ts.length ≤ 20 ∧ ∀ r ∈ ts, r.length ≤ 20 ∧ ∀ κ ∈ r, κ.ok nr nv := by
  unfold variantB at h
  split at h
  · rename_i ds
    rw [Bool.and_eq_true_iff, Bool.and_eq_true_iff, decide_eq_true_eq, decide_eq_true_eq, List.all_eq_true] at h
    obtain ⟨as, rfl, h2⟩ := map_ex (f := rowD) (P := fun r => r.length ≤ 20 ∧ ∀ κ ∈ r, κ.ok nr nv) fun d hd => partsB_row (h.2 d hd)
    exact ⟨as, rfl, by simpa using h.1.1, by simpa using h.1.2, h2⟩
  · cases h
/-- the form of a book, sizes left aside -/
def shapeB (rs vs : List D) : Bool := decide (rs.length ≤ 40) && decide (vs.length ≤ 40) && rs.all (partsB rs.length vs.length) && vs.all (variantB rs.length vs.length)
theorem shapeB_bk {rs vs : List D} (h : shapeB rs vs = true) : ∃ B : Bk, D.tup [.tup rs, .tup vs] = bookD B ∧ B.ok := by
  unfold shapeB at h
  rw [Bool.and_eq_true_iff, Bool.and_eq_true_iff, Bool.and_eq_true_iff, decide_eq_true_eq, decide_eq_true_eq, List.all_eq_true, List.all_eq_true] at h
  obtain ⟨⟨⟨h1, h2⟩, h3⟩, h4⟩ := h
  obtain ⟨as, ha, h5⟩ := map_ex (f := rowD) (P := fun r => r.length ≤ 20 ∧ ∀ κ ∈ r, κ.ok rs.length vs.length) fun d hd => partsB_row (h3 d hd)
  obtain ⟨bs, hb, h6⟩ := map_ex (f := tagsD) (P := fun ts => 1 ≤ ts.length ∧ ts.length ≤ 20 ∧ ∀ r ∈ ts, r.length ≤ 20 ∧ ∀ κ ∈ r, κ.ok rs.length vs.length) fun d hd => variantB_tags (h4 d hd)
  have l1 : rs.length = as.length := by rw [ha, List.length_map]
  have l2 : vs.length = bs.length := by rw [hb, List.length_map]
  rw [l1] at h1; rw [l2] at h2
  rw [l1, l2] at h5 h6
  exact ⟨⟨as, bs⟩, by rw [ha, hb]; rfl, h1, h2, h5, h6⟩
/-! ### what the program reckons -/
abbrev Nm := Bool × Nat
def Bk.tags (B : Bk) (q : Nm) : List Row := if q.1 = true then B.vars.getD q.2 [] else [B.recs.getD q.2 []]
def Bk.has (B : Bk) (q : Nm) : Prop := q.2 < (if q.1 = true then B.vars.length else B.recs.length)
abbrev Kn := List (Nm × Int)
def baseS : Kd → Int
  | .vec _ => 3
  | _ => 1
def maxI (zs : List Int) : Int := (maxL zs).getD 0
def rowR (zs : List Int) : Int := if (-1 : Int) ∈ zs then -1 else zs.sum
def combR (v : Bool) (zs : List Int) : Int := if v = true then (if (-1 : Int) ∈ zs then -1 else 1 + maxI zs) else zs.headD 0
/-- one after the other, what is known handed on -/
def thread {α : Type} (f : α → Kn → Option (Int × Kn)) : List α → Kn → Option (List Int × Kn)
  | [], kn => some ([], kn)
  | a :: as, kn => match f a kn with
    | none => none
    | some (z, kn1) => match thread f as kn1 with
      | none => none
      | some (zs, kn2) => some (z :: zs, kn2)
def flatF (nf : Nm → Kn → Option (Int × Kn)) (κ : Kd) (kn : Kn) : Option (Int × Kn) := match κ with
  | .nm v n => nf (v, n) kn
  | κ => some (baseS κ, kn)
def rowF (nf : Nm → Kn → Option (Int × Kn)) (r : Row) (kn : Kn) : Option (Int × Kn) := match thread (flatF nf) r kn with
  | none => none
  | some (zs, kn1) => some (rowR zs, kn1)
def namedF (B : Bk) : Nat → Nm → Kn → Option (Int × Kn)
  | 0, _, _ => none
  | f + 1, q, kn => match valD kn q with
    | some i => some (i, kn)
    | none => if kn.length < 1000 then (match thread (rowF (namedF B f)) (B.tags q) (putD kn q (-1)) with
      | none => none
      | some (zs, kn1) => if kn1.length < 1000 then some (combR q.1 zs, putD kn1 q (combR q.1 zs)) else none) else none
theorem thread_len {α : Type} {f : α → Kn → Option (Int × Kn)} : ∀ {as : List α} {kn : Kn} {zs : List Int} {kn' : Kn}, thread f as kn = some (zs, kn') → zs.length = as.length
  | [], _, _, _, h => by cases h; rfl
  | a :: as, kn, zs, kn', h => by
    unfold thread at h
    split at h
    · cases h
    · split at h
      · cases h
      · rename_i h2
        cases h
        rw [List.length_cons, List.length_cons, thread_len h2]
end

section

local macro_rules | `(tactic| walk_at "x1") => `(tactic| first | (with_reducible refine isi_tup ?_) | (with_reducible refine isi_int ?_) | (with_reducible refine isi_nbl ?_) | (with_reducible refine isi_bl ?_) | (with_reducible refine isi_str ?_) | (with_reducible refine wq_lent ?_))
/-! ### the program's sizes -/
section
variable {Q : D → Sto → Prop} {QS : Fl × En → Sto → Prop} {E : Exn → Sto → Prop} {st : Sto} {n : Nat} {kvs : List (List Key × D)} {y d : D} {k : List Key} {τ : En}
theorem wq_getT (hn : st[n]? = some (.dT kvs)) (hk : keyT y = some k) (h : valD kvs k = some d) (q : Q d st) : Wp (dGetT (.ref n) y st) Q E := by
  unfold dGetT tabOf
  simp only [hn, hk, h]
  exact q
theorem wq_inT {neg : Bool} (hn : st[n]? = some (.dT kvs)) (hk : keyT y = some k) (q : Q (.bl (neg ^^ (valD kvs k).isSome)) st) : Wp (dInT neg y (.ref n) st) Q E := by
  unfold dInT tabOf
  simp only [hn, hk]
  exact q
theorem wp_puta_T {td ty tv : DE} (h : Wp (tv τ st) (fun v st => Wp (td τ st) (fun x st => Wp (ty τ st) (fun y st => Wp (sPutT x y v τ st) QS E) (fun x st => QS (.ex x, τ) st)) (fun x st => QS (.ex x, τ) st)) (fun x st => QS (.ex x, τ) st)) : Wp (dPutT td ty tv τ st) QS E :=
  wp_stm (h.to fun _ _ q => wp_stm (q.to fun _ _ q => wp_stm q))
theorem wq_putT (hn : st[n]? = some (.dT kvs)) (hk : keyT y = some k) (hl : kvs.length < 16777216) (q : QS (.nx, τ) (st.set n (.dT (putD kvs k d)))) : Wp (sPutT (.ref n) y d τ st) QS E := by
  unfold sPutT
  simp only [hn, hk]
  rw [if_pos (by rw [sizeLine_eq]; exact hl)]
  exact q
theorem wp_dispT (q : Q (.ref st.length) (st ++ [.dT []])) : Wp (dDispT τ st) Q E := q
end
/-- keys carried over -/
theorem valD_map {κ κ' α β : Type} [DecidableEq κ] [DecidableEq κ'] {f : κ → κ'} {g : α → β} (inj : ∀ a b, f a = f b → a = b) (k : κ) : ∀ kvs : List (κ × α), valD (kvs.map fun p => (f p.1, g p.2)) (f k) = (valD kvs k).map g
  | [] => rfl
  | (k', v) :: r => by
    rw [List.map_cons]
    unfold valD
    by_cases h : k' = k
    · subst h; rw [if_pos rfl, if_pos rfl]; rfl
    · rw [if_neg h, if_neg fun e => h (inj _ _ e), valD_map inj k r]
theorem setD_map {κ κ' α β : Type} [DecidableEq κ] [DecidableEq κ'] {f : κ → κ'} {g : α → β} (inj : ∀ a b, f a = f b → a = b) (k : κ) (v : α) : ∀ kvs : List (κ × α), setD (kvs.map fun p => (f p.1, g p.2)) (f k) (g v) = (setD kvs k v).map fun p => (f p.1, g p.2)
  | [] => rfl
  | (k', u) :: r => by
    rw [List.map_cons]
    unfold setD
    by_cases h : k' = k
    · subst h; rw [if_pos rfl, if_pos rfl, setD_map inj, List.map_cons]
    · rw [if_neg h, if_neg fun e => h (inj _ _ e), setD_map inj k v r, List.map_cons]
theorem putD_map {κ κ' α β : Type} [DecidableEq κ] [DecidableEq κ'] {f : κ → κ'} {g : α → β} (inj : ∀ a b, f a = f b → a = b) (k : κ) (v : α) (kvs : List (κ × α)) : putD (kvs.map fun p => (f p.1, g p.2)) (f k) (g v) = (putD kvs k v).map fun p => (f p.1, g p.2) := by
  unfold putD
  rw [valD_map inj, Option.isSome_map]
  split
  · exact setD_map inj k v kvs
  · rw [List.map_append]; rfl
theorem valD_append {κ α : Type} [DecidableEq κ] {k : κ} {v : α} : ∀ {kvs : List (κ × α)}, valD kvs k = none → valD (kvs ++ [(k, v)]) k = some v
  | [], _ => if_pos rfl
  | (k', u) :: r, h => by
    unfold valD at h
    rw [List.cons_append]
    unfold valD
    split at h
    · cases h
    · rename_i hne
      rw [if_neg hne]
      exact valD_append h
theorem valD_append_ne {κ α : Type} [DecidableEq κ] {k k2 : κ} {v : α} (hne : k ≠ k2) : ∀ {kvs : List (κ × α)}, valD (kvs ++ [(k, v)]) k2 = valD kvs k2
  | [] => if_neg hne
  | (k', u) :: r => by
    rw [List.cons_append]
    unfold valD
    split
    · rfl
    · exact valD_append_ne hne
theorem valD_setD {κ α : Type} [DecidableEq κ] {k : κ} {v : α} : ∀ {kvs : List (κ × α)}, (valD kvs k).isSome = true → valD (setD kvs k v) k = some v
  | [], h => by cases h
  | (k', u) :: r, h => by
    unfold valD at h
    unfold setD
    split
    · rename_i e
      unfold valD
      rw [if_pos e]
    · rename_i e
      rw [if_neg e] at h
      unfold valD
      rw [if_neg e]
      exact valD_setD h
theorem valD_setD_ne {κ α : Type} [DecidableEq κ] {k k2 : κ} {v : α} (hne : k ≠ k2) : ∀ {kvs : List (κ × α)}, valD (setD kvs k v) k2 = valD kvs k2
  | [] => rfl
  | (k', u) :: r => by
    unfold setD
    split
    · rename_i e
      subst e
      unfold valD
      rw [if_neg hne, if_neg hne]
      exact valD_setD_ne hne
    · unfold valD
      split
      · rfl
      · exact valD_setD_ne hne
theorem valD_put_same {κ α : Type} [DecidableEq κ] {k : κ} {v : α} {kvs : List (κ × α)} : valD (putD kvs k v) k = some v := by
  unfold putD
  split
  · rename_i h; exact valD_setD h
  · rename_i h
    refine valD_append ?_
    cases e : valD kvs k with
    | none => rfl
    | some _ => rw [e] at h; exact absurd rfl h
theorem valD_put_ne {κ α : Type} [DecidableEq κ] {k k2 : κ} {v : α} {kvs : List (κ × α)} (hne : k ≠ k2) : valD (putD kvs k v) k2 = valD kvs k2 := by
  unfold putD
  split
  · exact valD_setD_ne hne
  · exact valD_append_ne hne
def nkey (q : Nm) : List Key := [.inr (nmS q.1), .inl q.2]
theorem nkey_inj (a b : Nm) (h : nkey a = nkey b) : a = b := by
  obtain ⟨v, n⟩ := a
  obtain ⟨v', n'⟩ := b
  unfold nkey nmS at h
  injection h with h1 h2
  injection h2 with h2 _
  injection h1 with h1
  injection h2 with h2
  have h2 : n = n' := Int.ofNat.inj h2
  subst h2
  cases v <;> cases v' <;> first | rfl | (exact absurd (show Str.ofString "record" = Str.ofString "variant" from h1) (by decide)) | (exact absurd (show Str.ofString "variant" = Str.ofString "record" from h1) (by decide))
def encK (kn : Kn) : List (List Key × D) := kn.map fun p => (nkey p.1, .int p.2)
theorem encK_val (kn : Kn) (q : Nm) : valD (encK kn) (nkey q) = (valD kn q).map .int := valD_map nkey_inj q kn
theorem encK_put (kn : Kn) (q : Nm) (i : Int) : putD (encK kn) (nkey q) (.int i) = encK (putD kn q i) := putD_map nkey_inj q i kn
theorem encK_len (kn : Kn) : (encK kn).length = kn.length := List.length_map _
theorem keyT_nm (v : Bool) (n : Nat) : keyT (kdD (.nm v n)) = some (nkey (v, n)) := rfl
/-- the store with what is known at m -/
def Ks (st0 : Sto) (m : Nat) (kn : Kn) : Sto := st0.set m (.dT (encK kn))
theorem Ks_get {st0 : Sto} {m : Nat} {kn : Kn} (h : m < st0.length) : (Ks st0 m kn)[m]? = some (.dT (encK kn)) := List.getElem?_set_self h
theorem Ks_set {st0 : Sto} {m : Nat} {kn kn' : Kn} : (Ks st0 m kn).set m (.dT (encK kn')) = Ks st0 m kn' := by unfold Ks; rw [List.set_set]
/-- a comprehension that hands on what is known -/
theorem thr_w {α : Type} {c : α → D} {f : α → Kn → Option (Int × Kn)} {te : DE} {tg : Tgt} {σ : En} {g : α → En} {st0 : Sto} {m : Nat} (hp : ∀ a, tg.put (c a) σ = some (g a)) :
    ∀ {as : List α} {kn kn' : Kn} {zs : List Int} {acc : List D}, (∀ a ∈ as, ∀ kn r kn', f a kn = some (r, kn') → te (g a) (Ks st0 m kn) = .ok (.int r) (Ks st0 m kn')) → thread f as kn = some (zs, kn') → acc.length + as.length ≤ 1000 →
      compL tg dYes te σ (as.map c) acc (Ks st0 m kn) = .ok (acc ++ zs.map .int) (Ks st0 m kn')
  | [], kn, kn', zs, acc, _, h, _ => by cases h; rw [List.map_nil, List.map_nil, List.append_nil]; rfl
  | a :: as, kn, kn', zs, acc, he, h, hl => by
    unfold thread at h
    split at h
    · cases h
    · rename_i z kn1 h1
      split at h
      · cases h
      · rename_i zs' kn2 h2
        cases h
        rw [List.map_cons]
        unfold compL
        rw [hp a]
        show (if true = true then (match te (g a) (Ks st0 m kn) with
          | .ok y st => if acc.length < sizeLine then compL tg dYes te σ (as.map c) (acc ++ [y]) st else .bad
          | _ => .bad) else _) = _
        rw [if_pos rfl, he a List.mem_cons_self _ _ _ h1]
        rw [List.length_cons] at hl
        dsimp only
        rw [if_pos (by rw [sizeLine_eq]; omega), thr_w hp (fun b hb => he b (List.mem_cons_of_mem _ hb)) h2 (by rw [List.length_append]; simp; omega), List.append_assoc]
        rfl
theorem ints_map : ∀ zs : List Int, intsOf (zs.map D.int) = some zs
  | [] => rfl
  | z :: zs => by
    have := ints_map zs
    show (intsOf (zs.map D.int)).map (z :: ·) = _
    rw [this]; rfl
theorem in_ints {z : Int} {zs : List Int} {st : Sto} {Q : D → Sto → Prop} {E : Exn → Sto → Prop} (q : Q (.bl (decide (z ∈ zs))) st) : Wp (dInA false (.int z) (.lst (zs.map .int)) st) Q E := by
  have e : dInA false (.int z) (.lst (zs.map .int)) st = .ok (.bl (decide (z ∈ zs))) st := by
    have e1 : (zs.map D.int).all flatD = true := by
      rw [List.all_map]; exact List.all_eq_true.mpr fun _ _ => rfl
    have e2 : inD (.int z) (zs.map .int) = decide (z ∈ zs) := by
      unfold inD
      rw [List.any_map]
      by_cases h : z ∈ zs
      · rw [decide_eq_true h, List.any_eq_true]
        exact ⟨z, h, beq_self_eq_true z⟩
      · rw [decide_eq_false h, List.any_eq_false]
        intro y hy
        show ¬ (y == z) = true
        rw [beq_iff_eq]
        exact fun e => h (e ▸ hy)
    show (if (flatD (.int z) && (zs.map D.int).all flatD) = true then R.ok (D.bl (false ^^ inD (.int z) (zs.map .int))) st else _) = _
    rw [e1, e2, Bool.false_xor]
    rfl
  rw [e]; exact q
theorem max_ints {zs : List Int} {st : Sto} {Q : D → Sto → Prop} {E : Exn → Sto → Prop} (h : zs ≠ []) (q : Q (.int (maxI zs)) st) : Wp (cMax1 [.lst (zs.map .int)] st) Q E := by
  cases zs with
  | nil => exact absurd rfl h
  | cons z zs =>
    have e : cMax1 [.lst ((z :: zs).map .int)] st = .ok (.int (maxI (z :: zs))) st := by
      show (match (intsOf ((z :: zs).map D.int)).bind fun ns => (maxL ns).map D.int with | some v => R.ok v st | none => .bad) = _
      rw [ints_map]
      rfl
    rw [e]; exact q
theorem tab_base {κ : Kd} (h : ∀ v n, κ ≠ .nm v n) : ∃ s r, kdD κ = .tup (.str s :: r) ∧ s ∈ yk_SIZES ∧ valD k_SIZES (.inr s) = some (.int (baseS κ)) := by
  cases κ with
  | int => exact ⟨_, _, rfl, by decide, rfl⟩
  | bool => exact ⟨_, _, rfl, by decide, rfl⟩
  | box k => exact ⟨_, _, rfl, by decide, rfl⟩
  | vec k => exact ⟨_, _, rfl, by decide, rfl⟩
  | nm v n => exact absurd rfl (h v n)
theorem in_tab {s : Str} {ys ns : List Str} {te : DE} {τ : En} {st : Sto} {Q : D → Sto → Prop} {E : Exn → Sto → Prop} (h : Wp (te τ st) (fun d st => ∃ s, d = .str s ∧ ((s ∈ ys ∧ Q (.bl true) st) ∨ (s ∉ ys ∧ s ∈ ns ∧ Q (.bl false) st))) E) : Wp (dInTab ys ns te τ st) Q E := by
  refine wp_bind (h.to fun d st ⟨s, e, q⟩ => ?_)
  subst e
  rcases q with ⟨h1, q⟩ | ⟨h1, h2, q⟩
  · show Wp (if s ∈ ys then _ else _) Q E
    rw [if_pos h1]; exact q
  · show Wp (if s ∈ ys then _ else _) Q E
    rw [if_neg h1, if_pos h2]; exact q
section
variable {B : Bk} {st0 : Sto} {m : Nat}
def NSok (B : Bk) (st0 : Sto) (m f N : Nat) : Prop := ∀ (q : Nm) (kn : Kn) (r : Int) (kn' : Kn), B.has q → namedF B f q kn = some (r, kn') → R_named_size N [bookD B, kdD (.nm q.1 q.2), .ref m] (Ks st0 m kn) = .ok (.int r) (Ks st0 m kn')
theorem flat_w {f N : Nat} (h : NSok B st0 m f N) (κ : Kd) (kn : Kn) (r : Int) (kn' : Kn) (hk : κ.ok B.recs.length B.vars.length) (e : flatF (namedF B f) κ kn = some (r, kn')) :
    R_flat_size (N + 1) [bookD B, kdD κ, .ref m] (Ks st0 m kn) = .ok (.int r) (Ks st0 m kn') := by
  rw [R_flat_size_succ]
  refine wp_eq ?_
  unfold F_flat_size
  walk_at "def"
  unfold d_flat_size
  walk_at "w"
  by_cases hn : ∃ v n, κ = .nm v n
  · obtain ⟨v, n, rfl⟩ := hn
    refine in_tab (s := "") ?_
    refine wp_bin (wp_var rfl ?_)
    unfold kdD
    walk_at "w"
    refine ⟨_, rfl, .inr ⟨by unfold nmS; cases v <;> decide, by unfold nmS; cases v <;> decide, ?_⟩⟩
    walk_at "w"
    have := h (v, n) kn r kn' hk e
    unfold kdD at this
    exact wp_of this ⟨rfl, rfl⟩
  · obtain ⟨s, r', e1, e2, e3⟩ := tab_base (κ := κ) fun v n e => hn ⟨v, n, e⟩
    have e4 : flatF (namedF B f) κ kn = some (baseS κ, kn) := by
      cases κ with
      | nm v n => exact absurd ⟨v, n, rfl⟩ hn
      | _ => rfl
    rw [e4] at e
    cases e
    rw [e1]
    refine in_tab (s := "") ?_
    walk_at "w"
    refine ⟨_, rfl, .inl ⟨e2, ?_⟩⟩
    walk_at "w"
    refine tabK_mk e3 ?_
    walk_at "w"
    exact ⟨rfl, rfl⟩
theorem sum_w {f N : Nat} (h : NSok B st0 m f N) (row : Row) (kn : Kn) (r : Int) (kn' : Kn) (hl : row.length ≤ 20) (hk : ∀ κ ∈ row, κ.ok B.recs.length B.vars.length) (e : rowF (namedF B f) row kn = some (r, kn')) :
    R_sum_of_sizes (N + 2) [bookD B, rowD row, .ref m] (Ks st0 m kn) = .ok (.int r) (Ks st0 m kn') := by
  unfold rowF at e
  split at e
  · cases e
  · rename_i zs kn1 ht
    cases e
    rw [R_sum_of_sizes_succ]
    refine wp_eq ?_
    unfold F_sum_of_sizes
    walk_at "def"
    unfold d_sum_of_sizes
    walk_at "w"
    refine wp_comp rfl ?_
    unfold rowD
    walk_at "w"
    refine wp_of (thr_w (g := fun κ => [some (bookD B), some (.tup (row.map kdD)), some (.ref m), none, some (kdD κ)]) (acc := []) (fun κ => rfl) (fun κ hκ kn r kn' e1 => ?_) ht (by simp; omega)) ?_
    · refine wp_eq ?_
      unfold d_sum_of_sizes_C1
      walk_at "w"
      exact wp_of (flat_w h κ kn r kn' (hk κ hκ) e1) ⟨rfl, rfl⟩
    · rw [List.nil_append]
      walk_at "w"
      refine in_ints ?_
      walk_at "w"
      refine if_dec (fun hm => ?_) (fun hm => ?_)
      · walk_at "w"
        exact ⟨by unfold rowR; rw [if_pos hm], rfl⟩
      · walk_at "w"
        refine wq_sum (ints_map zs) ?_
        walk_at "w"
        exact ⟨by unfold rowR; rw [if_neg hm], rfl⟩
theorem named_w (hB : B.ok) (hm : m < st0.length) : ∀ (f N : Nat), 3 * f ≤ N → NSok B st0 m f N := by
  intro f
  induction f with
  | zero => intro N _ q kn r kn' _ e; cases e
  | succ f ih =>
    intro N hN q kn r kn' hq e
    obtain ⟨N', rfl⟩ : ∃ N', N = N' + 3 := ⟨N - 3, by omega⟩
    have ih := ih N' (by omega)
    obtain ⟨v, n⟩ := q
    rw [R_named_size_succ]
    refine wp_eq ?_
    unfold F_named_size
    walk_at "def"
    unfold d_named_size
    walk_at "w"
    refine wq_inT (Ks_get hm) (keyT_nm v n) ?_
    rw [encK_val, Option.isSome_map, Bool.true_xor]
    unfold namedF at e
    split at e
    · rename_i i hi
      cases e
      rw [hi]
      walk_at "w"
      refine if_f ?_
      walk_at "w"
      refine wq_getT (Ks_get hm) (keyT_nm v n) (by rw [encK_val, hi]; rfl) ?_
      walk_at "w"
      exact ⟨rfl, rfl⟩
    · rename_i hi
      rw [hi]
      split at e
      · rename_i hl
        split at e
        · cases e
        · rename_i zs kn1 ht
          split at e
          · rename_i hl1
            cases e
            walk_at "w"
            refine if_t ?_
            unfold d_named_size_B3
            walk_at "w"
            refine wp_puta_T ?_
            walk_at "w"
            refine wq_putT (Ks_get hm) (keyT_nm v n) (by rw [encK_len]; omega) ?_
            rw [encK_put, Ks_set]
            -- what stands behind both ways
            have fin : ∀ (i : Int), i = combR v zs → ∀ x3 x4, Wp (sPutT (.ref m) (kdD (.nm v n)) (.int i) [some (bookD B), some (kdD (.nm v n)), some (.ref m), x3, x4] (Ks st0 m kn1))
                (seqK (dRet (dBin dGetT (dVar 2) (dVar 1))) (finK (fun b st' => b = D.int (combR v zs) ∧ st' = Ks st0 m (putD kn1 (v, n) (combR v zs))) NoX) NoX) NoX := by
              intro i hi x3 x4
              subst hi
              refine wq_putT (Ks_get hm) (keyT_nm v n) (by rw [encK_len]; omega) ?_
              rw [encK_put, Ks_set]
              walk_at "w"
              refine wq_getT (Ks_get hm) (keyT_nm v n) (by rw [encK_val, valD_put_same]; rfl) ?_
              walk_at "w"
              exact ⟨rfl, rfl⟩
            have eb : bookD B = .tup [.tup (B.recs.map rowD), .tup (B.vars.map tagsD)] := rfl
            cases v with
            | false =>
              have hn : n < B.recs.length := hq
              have hrow : B.recs[n]? = some (B.recs.getD n []) := by
                rw [List.getElem?_eq_getElem hn, List.getD_eq_getElem?_getD, List.getElem?_eq_getElem hn]; rfl
              have hmem := List.mem_of_getElem? hrow
              have ht : thread (rowF (namedF B f)) [B.recs.getD n []] (putD kn (false, n) (-1)) = some (zs, kn1) := ht
              generalize B.recs.getD n [] = row at hrow hmem ht
              obtain ⟨l1, l2⟩ := hB.r row hmem
              unfold thread at ht
              split at ht
              · cases ht
              · rename_i z kn2 h1
                cases ht
                have hs := sum_w ih row _ _ _ l1 l2 h1
                rw [show kdD (.nm false n) = .tup [.str "record", .int n] from rfl, eb] at *
                walk_at "w"
                refine if_dT rfl ?_
                unfold d_named_size_B1
                refine wp_puta_T ?_
                walk_at "w"
                refine wq_ixt (atI_nat (by rw [List.getElem?_map, hrow]; rfl)) ?_
                walk_at "w"
                refine wp_of hs ?_
                walk_at "w"
                exact fin _ rfl _ _
            | true =>
              have hn : n < B.vars.length := hq
              have hrow : B.vars[n]? = some (B.vars.getD n []) := by
                rw [List.getElem?_eq_getElem hn, List.getD_eq_getElem?_getD, List.getElem?_eq_getElem hn]; rfl
              have hmem := List.mem_of_getElem? hrow
              have ht : thread (rowF (namedF B f)) (B.vars.getD n []) (putD kn (true, n) (-1)) = some (zs, kn1) := ht
              generalize B.vars.getD n [] = ts at hrow hmem ht
              obtain ⟨l0, l1, l2⟩ := hB.v ts hmem
              have hz : zs ≠ [] := fun e => by
                have := thread_len ht
                rw [e] at this
                simp at this
                omega
              have hs := fun row hr => sum_w ih row (hl := (l2 row hr).1) (hk := (l2 row hr).2)
              rw [show kdD (.nm true n) = .tup [.str "variant", .int n] from rfl, eb] at *
              walk_at "w"
              refine if_dF (by decide) ?_
              unfold d_named_size_B2
              walk_at "w"
              refine wp_comp rfl ?_
              walk_at "w"
              refine wq_ixt (atI_nat (by rw [List.getElem?_map, hrow]; rfl)) ?_
              unfold tagsD
              walk_at "w"
              refine wp_of (thr_w (g := fun row => [some (.tup [.tup (B.recs.map rowD), .tup (B.vars.map tagsD)]), some (.tup [.str "variant", .int n]), some (.ref m), none, some (rowD row)]) (acc := []) (fun row => rfl) (fun row hr kn r kn' e1 => ?_) ht (by simp; omega)) ?_
              · refine wp_eq ?_
                unfold d_named_size_C1
                walk_at "w"
                exact wp_of (hs row hr _ _ _ e1) ⟨rfl, rfl⟩
              · rw [List.nil_append]
                walk_at "w"
                refine wp_puta_T ?_
                walk_at "w"
                refine in_ints ?_
                walk_at "w"
                refine if_dec (fun hm1 => ?_) (fun hm1 => ?_)
                · walk_at "w"
                  exact fin (-1) (by unfold combR; rw [if_pos rfl, if_pos hm1]) _ _
                · walk_at "w"
                  refine max_ints hz ?_
                  walk_at "w"
                  exact fin _ (by unfold combR; rw [if_pos rfl, if_neg hm1]) _ _
          · cases e
      · cases e
end
end

section

/-! ### sizes: the plain theory -/
inductive All2 {α β : Type} (R : α → β → Prop) : List α → List β → Prop
  | nil : All2 R [] []
  | cons {a b as bs} : R a b → All2 R as bs → All2 R (a :: as) (b :: bs)
theorem All2.map_eq {α β : Type} {g : α → β} : ∀ {as : List α} {bs : List β}, All2 (fun a b => b = g a) as bs → bs = as.map g
  | _, _, .nil => rfl
  | _, _, .cons h t => by rw [List.map_cons, h, All2.map_eq t]
theorem All2.ex {α β : Type} {R : α → β → Prop} : ∀ {as : List α} {bs : List β}, All2 R as bs → ∀ a ∈ as, ∃ b ∈ bs, R a b
  | _, _, .nil, _, h => (List.not_mem_nil h).elim
  | _, _, .cons h t, a, ha => by
    rcases List.mem_cons.mp ha with rfl | ha
    · exact ⟨_, List.mem_cons_self, h⟩
    · obtain ⟨b, h1, h2⟩ := All2.ex t a ha
      exact ⟨b, List.mem_cons_of_mem _ h1, h2⟩
theorem thread_inv {α : Type} {f : α → Kn → Option (Int × Kn)} {P : Kn → Prop} {Rr : α → Int → Prop} : ∀ {as : List α} {kn : Kn} {zs : List Int} {kn' : Kn},
    (∀ a ∈ as, ∀ kn r kn', P kn → f a kn = some (r, kn') → P kn' ∧ Rr a r) → P kn → thread f as kn = some (zs, kn') → P kn' ∧ All2 Rr as zs
  | [], _, _, _, _, hp, h => by cases h; exact ⟨hp, .nil⟩
  | a :: as, kn, zs, kn', hf, hp, h => by
    unfold thread at h
    split at h
    · cases h
    · rename_i z kn1 h1
      split at h
      · cases h
      · rename_i zs' kn2 h2
        cases h
        obtain ⟨p1, r1⟩ := hf a List.mem_cons_self _ _ _ hp h1
        obtain ⟨p2, r2⟩ := thread_inv (fun b hb => hf b (List.mem_cons_of_mem _ hb)) p1 h2
        exact ⟨p2, .cons r1 r2⟩
theorem thread_tot {α : Type} {f : α → Kn → Option (Int × Kn)} {P : Kn → Prop} : ∀ {as : List α} {kn : Kn}, (∀ a ∈ as, ∀ kn, P kn → ∃ r kn', f a kn = some (r, kn') ∧ P kn') → P kn → ∃ zs kn', thread f as kn = some (zs, kn') ∧ P kn'
  | [], kn, _, hp => ⟨[], kn, rfl, hp⟩
  | a :: as, kn, hf, hp => by
    obtain ⟨r, kn1, h1, p1⟩ := hf a List.mem_cons_self kn hp
    obtain ⟨zs, kn2, h2, p2⟩ := thread_tot (fun b hb => hf b (List.mem_cons_of_mem _ hb)) p1
    refine ⟨r :: zs, kn2, ?_, p2⟩
    unfold thread
    rw [h1]
    dsimp only
    rw [h2]
/-- all that is named, in the order of the program -/
def Bk.all (B : Bk) : List Nm := (List.range B.recs.length).map (fun n => (false, n)) ++ (List.range B.vars.length).map (fun n => (true, n))
theorem Bk.mem_all {B : Bk} {q : Nm} : q ∈ B.all ↔ B.has q := by
  obtain ⟨v, n⟩ := q
  unfold Bk.all Bk.has
  rw [List.mem_append, List.mem_map, List.mem_map]
  constructor
  · rintro (⟨k, h1, h2⟩ | ⟨k, h1, h2⟩)
    · cases h2; exact List.mem_range.mp h1
    · cases h2; exact List.mem_range.mp h1
  · intro h
    cases v with
    | false => exact .inl ⟨n, List.mem_range.mpr h, rfl⟩
    | true => exact .inr ⟨n, List.mem_range.mpr h, rfl⟩
theorem Bk.all_len {B : Bk} : B.all.length = B.recs.length + B.vars.length := by
  unfold Bk.all; simp
theorem nodup_le {α : Type} [DecidableEq α] : ∀ {l m : List α}, l.Nodup → (∀ x ∈ l, x ∈ m) → l.length ≤ m.length
  | [], _, _, _ => Nat.zero_le _
  | a :: l, m, hn, hs => by
    rw [List.nodup_cons] at hn
    have h1 : a ∈ m := hs a List.mem_cons_self
    have := nodup_le (l := l) (m := m.erase a) hn.2 fun x hx => (List.mem_erase_of_ne (fun (e : x = a) => hn.1 (by rw [← e]; exact hx))).mpr (hs x (List.mem_cons_of_mem _ hx))
    rw [List.length_erase_of_mem h1] at this
    have := List.length_pos_of_mem h1
    rw [List.length_cons]
    omega
theorem valD_none {κ α : Type} [DecidableEq κ] {k : κ} : ∀ {kvs : List (κ × α)}, valD kvs k = none ↔ k ∉ kvs.map (·.1)
  | [] => by simp [valD]
  | (k', v) :: r => by
    unfold valD
    rw [List.map_cons, List.mem_cons]
    split
    · rename_i e; simp [e]
    · rename_i e
      rw [valD_none (kvs := r)]
      constructor
      · rintro h (rfl | h2)
        · exact e rfl
        · exact h h2
      · exact fun h h2 => h (.inr h2)
theorem keys_setD {κ α : Type} [DecidableEq κ] {k : κ} {v : α} : ∀ {kvs : List (κ × α)}, (setD kvs k v).map (·.1) = kvs.map (·.1)
  | [] => rfl
  | (k', u) :: r => by
    unfold setD
    split
    · rw [List.map_cons, List.map_cons, keys_setD]
    · rw [List.map_cons, List.map_cons, keys_setD]
theorem keys_putD {κ α : Type} [DecidableEq κ] {k : κ} {v : α} {kvs : List (κ × α)} : (putD kvs k v).map (·.1) = if (valD kvs k).isSome = true then kvs.map (·.1) else kvs.map (·.1) ++ [k] := by
  unfold putD
  split
  · exact keys_setD
  · rw [List.map_append]; rfl
structure Kok (B : Bk) (kn : Kn) : Prop where
  nd : (kn.map (·.1)).Nodup
  has : ∀ p ∈ kn.map (·.1), B.has p
theorem Kok.le {B : Bk} {kn : Kn} (h : Kok B kn) : kn.length ≤ B.all.length := by
  have := nodup_le h.nd fun p hp => Bk.mem_all.mpr (h.has p hp)
  rwa [List.length_map] at this
theorem Kok.lt {B : Bk} {kn : Kn} {q : Nm} (h : Kok B kn) (hq : B.has q) (hn : valD kn q = none) : kn.length < B.all.length := by
  have := nodup_le (l := q :: kn.map (·.1)) (m := B.all) (List.nodup_cons.mpr ⟨valD_none.mp hn, h.nd⟩) fun p hp => by
    rcases List.mem_cons.mp hp with rfl | hp
    · exact Bk.mem_all.mpr hq
    · exact Bk.mem_all.mpr (h.has p hp)
  rw [List.length_cons, List.length_map] at this
  omega
theorem Kok.put {B : Bk} {kn : Kn} {q : Nm} {i : Int} (h : Kok B kn) (hq : B.has q) : Kok B (putD kn q i) ∧ kn.length ≤ (putD kn q i).length ∧ (valD kn q = none → (putD kn q i).length = kn.length + 1) := by
  have e := keys_putD (k := q) (v := i) (kvs := kn)
  have el : ((putD kn q i).map (·.1)).length = (putD kn q i).length := List.length_map _
  rw [e] at el
  cases hv : valD kn q with
  | none =>
    rw [hv, if_neg (by decide)] at e el
    rw [List.length_append, List.length_map] at el
    simp only [List.length_cons, List.length_nil] at el
    refine ⟨⟨?_, ?_⟩, by omega, fun _ => el.symm⟩
    · rw [e, List.nodup_append]
      exact ⟨h.nd, by simp, fun a ha b hb z => valD_none.mp hv (by rw [← List.mem_singleton.mp hb, ← z]; exact ha)⟩
    · rw [e]
      intro p hp
      rcases List.mem_append.mp hp with hp | hp
      · exact h.has p hp
      · rw [List.mem_singleton.mp hp]; exact hq
  | some j =>
    rw [hv, if_pos (show (some j).isSome = true from rfl)] at e el
    rw [List.length_map] at el
    exact ⟨⟨by rw [e]; exact h.nd, by rw [e]; exact h.has⟩, by omega, fun z => by cases z⟩
theorem Bk.tags_mem {B : Bk} (hB : B.ok) {q : Nm} (hq : B.has q) {row : Row} (hr : row ∈ B.tags q) : row.length ≤ 20 ∧ ∀ κ ∈ row, κ.ok B.recs.length B.vars.length := by
  obtain ⟨v, n⟩ := q
  cases v with
  | false =>
    have hn : n < B.recs.length := hq
    have hr : row ∈ [B.recs.getD n []] := hr
    rw [List.mem_singleton.mp hr, List.getD_eq_getElem?_getD, List.getElem?_eq_getElem hn]
    exact hB.r _ (List.getElem_mem hn)
  | true =>
    have hn : n < B.vars.length := hq
    have hr : row ∈ B.vars.getD n [] := hr
    rw [List.getD_eq_getElem?_getD, List.getElem?_eq_getElem hn] at hr
    exact (hB.v _ (List.getElem_mem hn)).2.2 row hr
theorem Bk.tags_len {B : Bk} (hB : B.ok) {q : Nm} (hq : B.has q) : (B.tags q).length ≤ 20 ∧ B.tags q ≠ [] := by
  obtain ⟨v, n⟩ := q
  cases v with
  | false => exact ⟨by show [B.recs.getD n []].length ≤ 20; simp, by show [B.recs.getD n []] ≠ []; simp⟩
  | true =>
    have hn : n < B.vars.length := hq
    have e : B.tags (true, n) = B.vars[n] := by
      show B.vars.getD n [] = _
      rw [List.getD_eq_getElem?_getD, List.getElem?_eq_getElem hn]; rfl
    rw [e]
    obtain ⟨h1, h2, _⟩ := hB.v _ (List.getElem_mem hn)
    exact ⟨h2, fun z => by rw [z] at h1; simp at h1⟩
/-- there is always an answer -/
theorem named_tot {B : Bk} (hB : B.ok) : ∀ (f : Nat) (q : Nm) (kn : Kn), B.has q → Kok B kn → B.all.length < f + kn.length → ∃ r kn', namedF B f q kn = some (r, kn') ∧ Kok B kn' ∧ kn.length ≤ kn'.length := by
  intro f
  have hall : B.all.length ≤ 80 := by have := hB.nr; have := hB.nv; rw [Bk.all_len]; omega
  induction f with
  | zero => intro q kn hq hk hf; have := hk.le; omega
  | succ f ih =>
    intro q kn hq hk hf
    have hle := hk.le
    unfold namedF
    cases hv : valD kn q with
    | some i => exact ⟨i, kn, rfl, hk, Nat.le_refl _⟩
    | none =>
      dsimp only
      rw [if_pos (by omega)]
      obtain ⟨k1, k2, k3⟩ := hk.put (i := -1) hq
      have k3 := k3 hv
      obtain ⟨zs, kn', h1, h2, h3, h4⟩ := thread_tot (f := rowF (namedF B f)) (P := fun kn2 => Kok B kn2 ∧ B.all.length < f + kn2.length ∧ kn.length ≤ kn2.length) (as := B.tags q) (kn := putD kn q (-1)) (fun row hr kn1 ⟨p1, p2, p3⟩ => by
        obtain ⟨zs, kn2, t1, t2⟩ := thread_tot (f := flatF (namedF B f)) (P := fun kn2 => Kok B kn2 ∧ B.all.length < f + kn2.length ∧ kn.length ≤ kn2.length) (as := row) (kn := kn1) (fun κ hκ kn2 ⟨s1, s2, s3⟩ => by
          have hok := (Bk.tags_mem hB hq hr).2 κ hκ
          cases κ with
          | nm v n =>
            obtain ⟨r, kn3, u1, u2, u3⟩ := ih (v, n) kn2 hok s1 s2
            exact ⟨r, kn3, u1, u2, by omega, by omega⟩
          | _ => exact ⟨_, kn2, rfl, s1, s2, s3⟩) ⟨p1, p2, p3⟩
        refine ⟨rowR zs, kn2, ?_, t2⟩
        unfold rowF
        rw [t1]) ⟨k1, by omega, by omega⟩
      rw [h1]
      dsimp only
      have := h2.le
      rw [if_pos (by omega)]
      obtain ⟨g1, g2, _⟩ := h2.put (i := combR q.1 zs) hq
      exact ⟨_, _, rfl, g1, by omega⟩
/-! ### without rings -/
def flS (S : Nm → Int) : Kd → Int
  | .nm v n => S (v, n)
  | κ => baseS κ
def rowS (S : Nm → Int) (row : Row) : Int := (row.map (flS S)).sum
def combS (v : Bool) (zs : List Int) : Int := if v = true then 1 + maxI zs else zs.headD 0
structure SizeOf (B : Bk) (S : Nm → Int) : Prop where
  eq : ∀ q, B.has q → S q = combS q.1 ((B.tags q).map (rowS S))
  nn : ∀ q, 0 ≤ S q
theorem base_nn (κ : Kd) : 0 ≤ baseS κ := by
  cases κ <;> first | (show (0 : Int) ≤ 1; decide) | (show (0 : Int) ≤ 3; decide)
theorem sum_nn : ∀ {zs : List Int}, (∀ z ∈ zs, 0 ≤ z) → 0 ≤ zs.sum
  | [], _ => by decide
  | z :: zs, h => by
    rw [List.sum_cons]
    have := h z List.mem_cons_self
    have := sum_nn fun y hy => h y (List.mem_cons_of_mem _ hy)
    omega
theorem flS_nn {S : Nm → Int} (h : ∀ q, 0 ≤ S q) (κ : Kd) : 0 ≤ flS S κ := by
  cases κ with
  | nm v n => exact h _
  | int => exact base_nn .int
  | bool => exact base_nn .bool
  | box k => exact base_nn (.box k)
  | vec k => exact base_nn (.vec k)
theorem rowS_nn {S : Nm → Int} (h : ∀ q, 0 ≤ S q) (row : Row) : 0 ≤ rowS S row := by
  refine sum_nn fun z hz => ?_
  obtain ⟨κ, _, rfl⟩ := List.mem_map.mp hz
  exact flS_nn h κ
def Edge (B : Bk) (q q' : Nm) : Prop := ∃ row ∈ B.tags q, Kd.nm q'.1 q'.2 ∈ row
def Ranked (B : Bk) (ρ : Nm → Nat) : Prop := ∀ q, B.has q → ∀ q', Edge B q q' → ρ q' < ρ q
theorem combR_S {v : Bool} {zs : List Int} (h : ∀ z ∈ zs, 0 ≤ z) : combR v zs = combS v zs := by
  unfold combR combS
  split
  · rw [if_neg fun hm => by have := h _ hm; omega]
  · rfl
theorem named_ok {B : Bk} (hB : B.ok) {S : Nm → Int} {ρ : Nm → Nat} (hS : SizeOf B S) (hρ : Ranked B ρ) : ∀ (f : Nat) (q : Nm) (kn : Kn) (r : Int) (kn' : Kn), B.has q → (∀ p i, valD kn p = some i → i = S p ∨ ρ q < ρ p) → namedF B f q kn = some (r, kn') →
    r = S q ∧ ∀ p i, valD kn' p = some i → i = S p ∨ valD kn p = some i := by
  intro f
  induction f with
  | zero => intro q kn r kn' _ _ e; cases e
  | succ f ih =>
    intro q kn r kn' hq hi e
    unfold namedF at e
    split at e
    · rename_i i hv
      cases e
      refine ⟨?_, fun p i h => .inr h⟩
      rcases hi q r hv with h | h
      · exact h
      · exact absurd h (Nat.lt_irrefl _)
    · rename_i hv
      split at e
      · split at e
        · cases e
        · rename_i zs kn1 ht
          split at e
          · cases e
            obtain ⟨h1, h2⟩ := thread_inv (P := fun kn2 => ∀ p i, valD kn2 p = some i → i = S p ∨ valD (putD kn q (-1)) p = some i) (Rr := fun row z => z = rowS S row) (fun row hr kn2 z kn3 hp hrow => by
              unfold rowF at hrow
              split at hrow
              · cases hrow
              · rename_i ys kn4 hy
                cases hrow
                obtain ⟨g1, g2⟩ := thread_inv (P := fun kn2 => ∀ p i, valD kn2 p = some i → i = S p ∨ valD (putD kn q (-1)) p = some i) (Rr := fun κ z => z = flS S κ) (fun κ hκ kn5 y kn6 hp5 hf => by
                  cases κ with
                  | nm v n =>
                    have hlt : ρ (v, n) < ρ q := hρ q hq (v, n) ⟨row, hr, hκ⟩
                    obtain ⟨a1, a2⟩ := ih (v, n) kn5 y kn6 ((Bk.tags_mem hB hq hr).2 _ hκ) (fun p i hpi => by
                      rcases hp5 p i hpi with h | h
                      · exact .inl h
                      · by_cases e : q = p
                        · subst e; exact .inr hlt
                        · rw [valD_put_ne e] at h
                          exact (hi p i h).imp id fun h => by omega) hf
                    refine ⟨fun p i hpi => ?_, a1⟩
                    rcases a2 p i hpi with h | h
                    · exact .inl h
                    · exact hp5 p i h
                  | _ => cases hf; exact ⟨hp5, rfl⟩) hp hy
                refine ⟨g1, ?_⟩
                have := g2.map_eq
                subst this
                unfold rowR rowS
                rw [if_neg]
                intro hm
                obtain ⟨κ, _, hκ⟩ := List.mem_map.mp hm
                have : 0 ≤ flS S κ := flS_nn hS.nn κ
                omega) (fun p i h => .inr h) ht
            have e2 := h2.map_eq
            subst e2
            have ec : combR q.1 ((B.tags q).map (rowS S)) = S q := by
              rw [combR_S, ← hS.eq q hq]
              intro z hz
              obtain ⟨row, _, rfl⟩ := List.mem_map.mp hz
              exact rowS_nn hS.nn row
            refine ⟨ec, fun p i hp => ?_⟩
            rw [ec] at hp
            by_cases e : q = p
            · subst e
              rw [valD_put_same] at hp
              exact .inl (Option.some.inj hp).symm
            · rw [valD_put_ne e] at hp
              rcases h1 p i hp with h | h
              · exact .inl h
              · rw [valD_put_ne e] at h; exact .inr h
          · cases e
      · cases e
/-! ### with rings -/
theorem named_ring {B : Bk} {L : Nm → Prop} (hL : ∀ q, L q → ∃ q', L q' ∧ Edge B q q') : ∀ (f : Nat) (q : Nm) (kn : Kn) (r : Int) (kn' : Kn), (∀ p i, L p → valD kn p = some i → i = -1) → namedF B f q kn = some (r, kn') →
    (L q → r = -1) ∧ ∀ p i, L p → valD kn' p = some i → i = -1 := by
  intro f
  induction f with
  | zero => intro q kn r kn' _ e; cases e
  | succ f ih =>
    intro q kn r kn' hi e
    unfold namedF at e
    split at e
    · rename_i i hv
      cases e
      exact ⟨fun h => hi q r h hv, hi⟩
    · rename_i hv
      split at e
      · split at e
        · cases e
        · rename_i zs kn1 ht
          split at e
          · cases e
            obtain ⟨h1, h2⟩ := thread_inv (P := fun kn2 => ∀ p i, L p → valD kn2 p = some i → i = -1) (Rr := fun row z => (∃ q', L q' ∧ Kd.nm q'.1 q'.2 ∈ row) → z = -1) (fun row hr kn2 z kn3 hp hrow => by
              unfold rowF at hrow
              split at hrow
              · cases hrow
              · rename_i ys kn4 hy
                cases hrow
                obtain ⟨g1, g2⟩ := thread_inv (P := fun kn2 => ∀ p i, L p → valD kn2 p = some i → i = -1) (Rr := fun κ z => ∀ q', L q' → κ = Kd.nm q'.1 q'.2 → z = -1) (fun κ hκ kn5 y kn6 hp5 hf => by
                  cases κ with
                  | nm v n =>
                    obtain ⟨a1, a2⟩ := ih (v, n) kn5 y kn6 hp5 hf
                    refine ⟨a2, fun q' hq' e => ?_⟩
                    obtain ⟨v', n'⟩ := q'
                    cases e
                    exact a1 hq'
                  | _ => cases hf; exact ⟨hp5, fun q' _ e => by cases e⟩) hp hy
                refine ⟨g1, fun ⟨q', hq', hm⟩ => ?_⟩
                obtain ⟨b, h1, h2⟩ := g2.ex _ hm
                have h2 := h2 q' hq' rfl
                subst h2
                unfold rowR
                rw [if_pos h1]) (fun p i hp h => by
                  by_cases e : q = p
                  · subst e; rw [valD_put_same] at h; exact (Option.some.inj h).symm
                  · rw [valD_put_ne e] at h; exact hi p i hp h) ht
            have hc : L q → combR q.1 zs = -1 := fun hq => by
              obtain ⟨q', hq', row, hr, hm⟩ := hL q hq
              unfold combR
              cases hv1 : q.1 with
              | true =>
                obtain ⟨b, b1, b2⟩ := h2.ex row hr
                have b2 := b2 ⟨q', hq', hm⟩
                subst b2
                rw [if_pos rfl, if_pos b1]
              | false =>
                have et : B.tags q = [B.recs.getD q.2 []] := by unfold Bk.tags; rw [if_neg (by rw [hv1]; decide)]
                rw [et] at h2 hr
                rw [if_neg (by decide)]
                cases h2 with
                | cons x y =>
                  cases y
                  exact x ⟨q', hq', by rw [← List.mem_singleton.mp hr]; exact hm⟩
            refine ⟨hc, fun p i hp h => ?_⟩
            by_cases e : q = p
            · subst e
              rw [valD_put_same] at h
              rw [← Option.some.inj h]
              exact hc hp
            · rw [valD_put_ne e] at h
              exact h1 p i hp h
          · cases e
      · cases e
end

section

/-! ### sizes from ranks; ranks or a ring -/
theorem foldl_max_nn : ∀ (zs : List Int) (a : Int), 0 ≤ a → 0 ≤ zs.foldl max a
  | [], a, h => h
  | z :: zs, a, h => foldl_max_nn zs (max a z) (by omega)
theorem maxI_nn {zs : List Int} (h : ∀ z ∈ zs, 0 ≤ z) : 0 ≤ maxI zs := by
  cases zs with
  | nil => exact Int.le_refl 0
  | cons z zs => exact foldl_max_nn zs z (h z List.mem_cons_self)
theorem combS_nn {v : Bool} {zs : List Int} (h : ∀ z ∈ zs, 0 ≤ z) : 0 ≤ combS v zs := by
  unfold combS
  split
  · have := maxI_nn h; omega
  · cases zs with
    | nil => exact Int.le_refl 0
    | cons z zs => exact h z List.mem_cons_self
def szF (B : Bk) : Nat → Nm → Int
  | 0, _ => 0
  | f + 1, q => combS q.1 ((B.tags q).map (rowS (szF B f)))
theorem szF_nn (B : Bk) : ∀ (f : Nat) (q : Nm), 0 ≤ szF B f q
  | 0, _ => Int.le_refl 0
  | f + 1, q => combS_nn fun z hz => by
    obtain ⟨row, _, rfl⟩ := List.mem_map.mp hz
    exact rowS_nn (szF_nn B f) row
theorem rowS_congr {S T : Nm → Int} {row : Row} (h : ∀ v n, Kd.nm v n ∈ row → S (v, n) = T (v, n)) : rowS S row = rowS T row := by
  unfold rowS
  congr 1
  refine List.map_congr_left fun κ hκ => ?_
  cases κ with
  | nm v n => exact h v n hκ
  | _ => rfl
theorem szF_stable {B : Bk} (hB : B.ok) {ρ : Nm → Nat} (hρ : Ranked B ρ) : ∀ (k : Nat) (q : Nm), B.has q → ρ q ≤ k → ∀ f, ρ q < f → szF B f q = szF B (ρ q + 1) q := by
  intro k
  induction k with
  | zero =>
    intro q hq hk f hf
    obtain ⟨f', rfl⟩ : ∃ f', f = f' + 1 := ⟨f - 1, by omega⟩
    unfold szF
    congr 1
    refine List.map_congr_left fun row hr => rowS_congr fun v n hm => ?_
    have := hρ q hq (v, n) ⟨row, hr, hm⟩
    omega
  | succ k ih =>
    intro q hq hk f hf
    obtain ⟨f', rfl⟩ : ∃ f', f = f' + 1 := ⟨f - 1, by omega⟩
    unfold szF
    congr 1
    refine List.map_congr_left fun row hr => rowS_congr fun v n hm => ?_
    have hlt := hρ q hq (v, n) ⟨row, hr, hm⟩
    have hh : B.has (v, n) := (Bk.tags_mem hB hq hr).2 _ hm
    rw [ih (v, n) hh (by omega) f' (by omega), ih (v, n) hh (by omega) (ρ q) (by omega)]
theorem size_ex {B : Bk} (hB : B.ok) {ρ : Nm → Nat} (hρ : Ranked B ρ) : ∃ S, SizeOf B S := by
  refine ⟨fun q => szF B (ρ q + 1) q, fun q hq => ?_, fun q => szF_nn B _ q⟩
  show szF B (ρ q + 1) q = _
  have e : szF B (ρ q + 1) q = combS q.1 ((B.tags q).map (rowS (szF B (ρ q)))) := rfl
  rw [e]
  congr 1
  refine List.map_congr_left fun row hr => rowS_congr fun v n hm => ?_
  have hlt := hρ q hq (v, n) ⟨row, hr, hm⟩
  exact szF_stable hB hρ _ (v, n) ((Bk.tags_mem hB hq hr).2 _ hm) (Nat.le_refl _) _ hlt
/-- what lies within -/
def isNm : Kd → Option Nm
  | .nm v n => some (v, n)
  | _ => none
def edgesL (B : Bk) (q : Nm) : List Nm := (B.tags q).flatten.filterMap isNm
theorem edge_iff {B : Bk} {q q' : Nm} : Edge B q q' ↔ q' ∈ edgesL B q := by
  unfold Edge edgesL
  rw [List.mem_filterMap]
  constructor
  · rintro ⟨row, h1, h2⟩
    exact ⟨_, List.mem_flatten.mpr ⟨row, h1, h2⟩, rfl⟩
  · rintro ⟨κ, h1, h2⟩
    obtain ⟨row, h3, h4⟩ := List.mem_flatten.mp h1
    cases κ with
    | nm v n => cases h2; exact ⟨row, h3, h4⟩
    | _ => cases h2
def stepL (B : Bk) (L : List Nm) : List Nm := L.filter fun q => (edgesL B q).any fun q' => decide (q' ∈ L)
def leftL (B : Bk) (L0 : List Nm) : Nat → List Nm
  | 0 => L0
  | t + 1 => stepL B (leftL B L0 t)
theorem step_mem {B : Bk} {L : List Nm} {q : Nm} : q ∈ stepL B L ↔ q ∈ L ∧ ∃ q' ∈ L, Edge B q q' := by
  unfold stepL
  rw [List.mem_filter, List.any_eq_true]
  constructor
  · rintro ⟨h1, q', h2, h3⟩
    exact ⟨h1, q', of_decide_eq_true h3, edge_iff.mpr h2⟩
  · rintro ⟨h1, q', h2, h3⟩
    exact ⟨h1, q', edge_iff.mp h3, decide_eq_true h2⟩
theorem left_stable {B : Bk} {L0 : List Nm} : ∀ t, (leftL B L0 t).length + t ≤ L0.length ∨ stepL B (leftL B L0 t) = leftL B L0 t
  | 0 => .inl (by show L0.length + 0 ≤ L0.length; omega)
  | t + 1 => by
    rcases left_stable (B := B) (L0 := L0) t with h | h
    · by_cases e : (stepL B (leftL B L0 t)).length = (leftL B L0 t).length
      · have e2 : stepL B (leftL B L0 t) = leftL B L0 t := List.Sublist.eq_of_length List.filter_sublist e
        right
        show stepL B (stepL B (leftL B L0 t)) = stepL B (leftL B L0 t)
        rw [e2, e2]
      · left
        have h2 : (stepL B (leftL B L0 t)).length ≤ (leftL B L0 t).length := List.Sublist.length_le List.filter_sublist
        show (stepL B (leftL B L0 t)).length + (t + 1) ≤ L0.length
        omega
    · right
      show stepL B (stepL B (leftL B L0 t)) = stepL B (leftL B L0 t)
      rw [h, h]
theorem left_sub {B : Bk} {L0 : List Nm} {q : Nm} : ∀ {t s : Nat}, s ≤ t → q ∈ leftL B L0 t → q ∈ leftL B L0 s
  | 0, s, hs, h => by have : s = 0 := by omega
                      subst this; exact h
  | t + 1, s, hs, h => by
    by_cases e : s = t + 1
    · subst e; exact h
    · exact left_sub (by omega) (step_mem.mp h).1
/-- a ring -/
theorem left_ring {B : Bk} {L0 : List Nm} (h : leftL B L0 (L0.length + 1) ≠ []) : ∀ q, q ∈ leftL B L0 (L0.length + 1) → ∃ q', q' ∈ leftL B L0 (L0.length + 1) ∧ Edge B q q' := by
  intro q hq
  rcases left_stable (B := B) (L0 := L0) (L0.length + 1) with z | z
  · omega
  · rw [← z] at hq
    obtain ⟨_, q', h1, h2⟩ := step_mem.mp hq
    exact ⟨q', h1, h2⟩
theorem least {p : Nat → Prop} : ∀ n, p n → ∃ m, m ≤ n ∧ p m ∧ ∀ k, k < m → ¬ p k := by
  intro n
  induction n using Nat.strongRecOn with
  | ind n ih =>
    intro h
    by_cases hx : ∃ k, k < n ∧ p k
    · obtain ⟨k, h1, h2⟩ := hx
      obtain ⟨m, h3, h4⟩ := ih k h1 h2
      exact ⟨m, by omega, h4⟩
    · exact ⟨n, Nat.le_refl _, h, fun k hk z => hx ⟨k, hk, z⟩⟩
/-- ranks -/
theorem left_rank {B : Bk} {L0 : List Nm} (h0 : ∀ q, q ∈ L0 ↔ B.has q) (h : leftL B L0 (L0.length + 1) = []) : ∃ ρ : Nm → Nat, Ranked B ρ ∧ ∀ q, ρ q ≤ L0.length + 1 := by
  have hx : ∀ q, ∃ m, m ≤ L0.length + 1 ∧ q ∉ leftL B L0 m ∧ ∀ k, k < m → ¬ q ∉ leftL B L0 k := fun q => least (p := fun t => q ∉ leftL B L0 t) (L0.length + 1) (by rw [h]; exact List.not_mem_nil)
  refine ⟨fun q => (hx q).choose, fun q hq q' he => ?_, fun q => (hx q).choose_spec.1⟩
  show (hx q').choose < (hx q).choose
  obtain ⟨_, h1, h2⟩ := (hx q).choose_spec
  obtain ⟨_, g1, g2⟩ := (hx q').choose_spec
  generalize (hx q).choose = m at h1 h2 ⊢
  generalize (hx q').choose = m' at g1 g2 ⊢
  cases m with
  | zero => exact absurd ((h0 q).mpr hq) h1
  | succ t =>
    have h3 : q ∈ leftL B L0 t := by
      by_cases z : q ∈ leftL B L0 t
      · exact z
      · exact absurd z (h2 t (by omega))
    have h4 : q' ∉ leftL B L0 t := fun z => h1 (step_mem.mpr ⟨h3, q', z, he⟩)
    by_cases z : m' < t + 1
    · exact z
    · exact absurd h4 (g2 t (by omega))
end

section

local macro_rules | `(tactic| walk_at "x1") => `(tactic| first | (with_reducible refine isi_tup ?_) | (with_reducible refine isi_int ?_) | (with_reducible refine isi_nbl ?_) | (with_reducible refine isi_bl ?_) | (with_reducible refine isi_str ?_) | (with_reducible refine wq_lent ?_))
/-! ### the law's reckoning: what lies within, rings, sizes -/
instance s_putaT {Q : Fl × En → Sto → Prop} {E : Exn → Sto → Prop} {τ : En} {st : Sto} {td ty tv : DE} : St (Wp (dPutT td ty tv τ st) Q E) (Wp (tv τ st) (fun v st => Wp (td τ st) (fun x st => Wp (ty τ st) (fun y st => Wp (sPutT x y v τ st) Q E) (fun x st => Q (.ex x, τ) st)) (fun x st => Q (.ex x, τ) st)) (fun x st => Q (.ex x, τ) st)) := ⟨wp_puta_T⟩
instance s_dispT {Q : D → Sto → Prop} {E : Exn → Sto → Prop} {τ : En} {st : Sto} : St (Wp (dDispT τ st) Q E) (Q (.ref st.length) (st ++ [.dT []])) := ⟨wp_dispT⟩
theorem wp_filt {α : Type} {tg : Tgt} {tt : DT} {te : DE} {σ : En} {st : Sto} {Q : List D → Sto → Prop} {E : Exn → Sto → Prop} (c : α → D) (g : α → En) (p : α → Bool) {ns : List α} (hp : ∀ a ∈ ns, tg.put (c a) σ = some (g a)) (ht : ∀ a ∈ ns, tt (g a) st = .ok (p a) st)
    (he : ∀ a ∈ ns, te (g a) st = .ok (c a) st) (hl : ns.length ≤ 16777216) (q : Q ((ns.filter p).map c) st) : Wp (compL tg tt te σ (ns.map c) [] st) Q E := by
  rw [compL_map c g p c hp ht (fun a ha _ => he a ha) (by rw [sizeLine_eq]; exact hl)]
  exact q
def nmD (q : Nm) : D := kdD (.nm q.1 q.2)
def wordIs (κ : Kd) : Bool := (isNm κ).isSome
theorem kd_word (κ : Kd) : ∃ s r, kdD κ = .tup (.str s :: r) ∧ isA ["record", "variant"] s = wordIs κ := by
  cases κ with
  | int => exact ⟨_, _, rfl, by decide⟩
  | bool => exact ⟨_, _, rfl, by decide⟩
  | box k => exact ⟨_, _, rfl, rfl⟩
  | vec k => exact ⟨_, _, rfl, rfl⟩
  | nm v n => cases v <;> exact ⟨_, _, rfl, rfl⟩
theorem filt_nm : ∀ row : List Kd, (row.filter wordIs).map kdD = (row.filterMap isNm).map nmD
  | [] => rfl
  | κ :: row => by
    cases κ with
    | nm v n =>
      rw [List.filter_cons_of_pos (by rfl), List.filterMap_cons_some (f := isNm) (a := .nm v n) (b := (v, n)) rfl, List.map_cons, List.map_cons, filt_nm row]
      rfl
    | _ => rw [List.filter_cons_of_neg (by exact fun h => by cases h), List.filterMap_cons_none rfl, filt_nm row]
def encE (B : Bk) (qs : List Nm) : List (List Key × D) := qs.map fun q => (nkey q, .lst ((edgesL B q).map nmD))
theorem encE_keys (B : Bk) (qs : List Nm) : (encE B qs).map (·.1) = qs.map nkey := by unfold encE; rw [List.map_map]; rfl
theorem encE_put {B : Bk} {qs : List Nm} {q : Nm} (h : q ∉ qs) : putD (encE B qs) (nkey q) (.lst ((edgesL B q).map nmD)) = encE B (qs ++ [q]) := by
  have hn : valD (encE B qs) (nkey q) = none := valD_none.mpr fun hm => by
    rw [encE_keys] at hm
    obtain ⟨q', h1, h2⟩ := List.mem_map.mp hm
    exact h (nkey_inj _ _ h2 ▸ h1)
  unfold putD
  rw [hn, if_neg (by decide)]
  unfold encE
  rw [List.map_append]
  rfl
theorem encE_get {B : Bk} {q : Nm} : ∀ {qs : List Nm}, q ∈ qs → valD (encE B qs) (nkey q) = some (.lst ((edgesL B q).map nmD))
  | q' :: qs, h => by
    show (if nkey q' = nkey q then some (D.lst ((edgesL B q').map nmD)) else valD (encE B qs) (nkey q)) = _
    by_cases e : q' = q
    · rw [e, if_pos rfl]
    · rw [if_neg fun z => e (nkey_inj _ _ z)]
      rcases List.mem_cons.mp h with h | h
      · exact absurd h.symm e
      · exact encE_get h
theorem list_set_last {st : Sto} {o o' : Ob} : (st ++ [o]).set st.length o' = st ++ [o'] := by simp
theorem ix_row {ds : List D} {n : Nat} {d : D} (h : ds[n]? = some d) : atI ds (n : Int) = some d := atI_nat h
end

section

local macro_rules | `(tactic| walk_at "x1") => `(tactic| first | (with_reducible refine isi_tup ?_) | (with_reducible refine isi_int ?_) | (with_reducible refine isi_nbl ?_) | (with_reducible refine isi_bl ?_) | (with_reducible refine isi_str ?_) | (with_reducible refine wq_lent ?_) | (with_reducible refine wq_lenl ?_))
/-! ### rings and sizes, as the law reckons -/
theorem nmS_inj {a b : Bool} (h : nmS a = nmS b) : a = b := by
  cases a <;> cases b <;> first | rfl | (exact absurd (show Str.ofString "record" = Str.ofString "variant" from h) (by decide)) | (exact absurd (show Str.ofString "variant" = Str.ofString "record" from h) (by decide))
theorem eqv_nm (a b : Nm) : PyData.eqv (pyD (nmD a)) (pyD (nmD b)) = decide (a = b) := by
  obtain ⟨v, n⟩ := a
  obtain ⟨v', n'⟩ := b
  show ((nmS v == nmS v') && (((n : Int) == (n' : Int)) && true)) = decide ((v, n) = (v', n'))
  rw [Bool.and_true]
  by_cases h : (v, n) = (v', n')
  · cases h
    rw [beq_self_eq_true, beq_self_eq_true, decide_eq_true rfl]; rfl
  · rw [decide_eq_false h, Bool.and_eq_false_iff]
    by_cases hv : v = v'
    · right
      rw [beq_eq_false_iff_ne]
      intro e
      exact h (by rw [hv, Int.ofNat.inj e])
    · left
      rw [beq_eq_false_iff_ne]
      exact fun e => hv (nmS_inj e)
theorem pl_nm (q : Nm) : plD (nmD q) = true := by
  obtain ⟨v, n⟩ := q
  have h : PyData.strOk (nmS v) = true := by cases v <;> (first | (show PyData.strOk "record" = true; decide +kernel) | (show PyData.strOk "variant" = true; decide +kernel))
  show (PyData.strOk (nmS v) && (true && true)) = true
  rw [h]; rfl
theorem dp_nm (q : Nm) : dpD (nmD q) = 1 := rfl
theorem pl_nms (L : List Nm) : ∀ d ∈ L.map nmD, plD d = true := fun d hd => by
  obtain ⟨q, _, rfl⟩ := List.mem_map.mp hd; exact pl_nm q
theorem dp_nms (L : List Nm) : ∀ d ∈ L.map nmD, dpD d ≤ 63 := fun d hd => by
  obtain ⟨q, _, rfl⟩ := List.mem_map.mp hd; rw [dp_nm]; omega
theorem in_nms {q : Nm} {L : List Nm} {st : Sto} {Q : D → Sto → Prop} {E : Exn → Sto → Prop} (k : Q (.bl (decide (q ∈ L))) st) : Wp (dInA false (nmD q) (.lst (L.map nmD)) st) Q E := by
  have e : dInA false (nmD q) (.lst (L.map nmD)) st = .ok (.bl (decide (q ∈ L))) st := by
    have h1 : topPy (.lst (L.map nmD)) st = some (.list (pyDs (L.map nmD))) := topPy_pl (d := .lst (L.map nmD)) (plDs_all.mpr (pl_nms L))
    have h2 := (toPy_pl (pl_nm q)).1
    have s1 := shaped_pl (pl_nm q) (by rw [dp_nm]; omega)
    have s2 := shaped_pl (d := .lst (L.map nmD)) (plDs_all.mpr (pl_nms L)) (Nat.succ_le_succ (dpDs_all.mpr (dp_nms L)))
    have h3 : ((pyDs (L.map nmD)).any fun z => PyData.eqv z (pyD (nmD q))) = decide (q ∈ L) := by
      rw [pyDs_map, List.map_map, List.any_map]
      by_cases h : q ∈ L
      · rw [decide_eq_true h, List.any_eq_true]
        exact ⟨q, h, by show PyData.eqv (pyD (nmD q)) (pyD (nmD q)) = true; rw [eqv_nm, decide_eq_true rfl]⟩
      · rw [decide_eq_false h, List.any_eq_false]
        intro y hy
        show ¬ PyData.eqv (pyD (nmD y)) (pyD (nmD q)) = true
        rw [eqv_nm, decide_eq_true_eq]
        exact fun e => h (e ▸ hy)
    show (if (flatD (nmD q) && (L.map nmD).all flatD) = true then _ else (match toPy (nmD q), topPy (.lst (L.map nmD)) st with
      | some p, some (.list qs) => if (SeqAt.shaped p && SeqAt.shaped (.list qs)) = true then R.ok (D.bl (false ^^ qs.any fun z => PyData.eqv z p)) st else .bad
      | _, _ => .bad)) = _
    rw [if_neg (show ¬ (flatD (nmD q) && (L.map nmD).all flatD) = true from fun h => by cases h), h1, h2]
    show (if (SeqAt.shaped (pyD (nmD q)) && SeqAt.shaped (pyD (.lst (L.map nmD)))) = true then R.ok (D.bl (false ^^ (pyDs (L.map nmD)).any fun z => PyData.eqv z (pyD (nmD q)))) st else .bad) = _
    rw [s1, s2, h3, Bool.false_xor]
    rfl
  rw [e]; exact k
theorem isEmpty_filter {α : Type} {p : α → Bool} : ∀ {l : List α}, (!(l.filter p).isEmpty) = l.any p
  | [] => rfl
  | a :: l => by
    rw [List.any_cons]
    cases h : p a with
    | true => rw [List.filter_cons_of_pos h]; rfl
    | false => rw [List.filter_cons_of_neg (by rw [h]; decide), isEmpty_filter]; rfl
theorem idx_rec {B : Bk} {n : Nat} (hn : n < B.recs.length) : ∃ row, B.recs[n]? = some row ∧ row ∈ B.recs ∧ B.tags (false, n) = [row] := by
  refine ⟨B.recs[n], List.getElem?_eq_getElem hn, List.getElem_mem hn, ?_⟩
  show [B.recs.getD n []] = _
  rw [List.getD_eq_getElem?_getD, List.getElem?_eq_getElem hn]; rfl
theorem idx_var {B : Bk} {n : Nat} (hn : n < B.vars.length) : ∃ ts, B.vars[n]? = some ts ∧ ts ∈ B.vars ∧ B.tags (true, n) = ts := by
  refine ⟨B.vars[n], List.getElem?_eq_getElem hn, List.getElem_mem hn, ?_⟩
  show B.vars.getD n [] = _
  rw [List.getD_eq_getElem?_getD, List.getElem?_eq_getElem hn]; rfl
theorem wp_pureA {α : Type} {tg : Tgt} {te : DE} {σ : En} {st : Sto} {Q : List D → Sto → Prop} {E : Exn → Sto → Prop} (c : α → D) (g : α → En) (f : α → D) {ns : List α} (hp : ∀ a ∈ ns, tg.put (c a) σ = some (g a)) (he : ∀ a ∈ ns, te (g a) st = .ok (f a) st) (hl : ns.length ≤ 16777216)
    (q : Q (ns.map f) st) : Wp (compL tg dYes te σ (ns.map c) [] st) Q E := by
  have e := compL_map (tg := tg) (tt := dYes) (te := te) (τ := σ) (st := st) c g (fun _ => true) f hp (fun _ _ => rfl) (fun a ha _ => he a ha) (by rw [sizeLine_eq]; exact hl)
  rw [List.filter_eq_self.mpr (fun _ _ => rfl)] at e
  rw [e]
  exact q
theorem flatL_w {B : Bk} (hB : B.ok) {S : Nm → Int} {ρ : Nm → Nat} (hS : SizeOf B S) (hρ : Ranked B ρ) {st : Sto} : ∀ (N : Nat) (κ : Kd), κ.ok B.recs.length B.vars.length → 1 ≤ N → (∀ v n, κ = .nm v n → ρ (v, n) + 2 ≤ N) → R__law_flat N [bookD B, kdD κ] st = .ok (.int (flS S κ)) st := by
  intro N
  induction N with
  | zero => intro κ _ h; omega
  | succ N ih =>
    intro κ hk _ hr
    rw [R__law_flat_succ]
    refine wp_eq ?_
    have eb : bookD B = .tup [.tup (B.recs.map rowD), .tup (B.vars.map tagsD)] := rfl
    unfold F__law_flat
    walk_at "def"
    unfold d__law_flat
    cases κ with
    | vec k =>
      unfold kdD
      walk_at "w"
      refine if_dT rfl ?_
      walk_at "w"
      exact ⟨rfl, rfl⟩
    | int =>
      unfold kdD
      walk_at "w"
      refine if_dF (by decide) ?_
      walk_at "w"
      unfold d__law_flat_R2
      walk_at "w"
      refine if_dF (by decide) ?_
      walk_at "w"
      unfold d__law_flat_R1
      walk_at "w"
      refine if_dF (by decide) ?_
      walk_at "w"
      exact ⟨rfl, rfl⟩
    | bool =>
      unfold kdD
      walk_at "w"
      refine if_dF (by decide) ?_
      walk_at "w"
      unfold d__law_flat_R2
      walk_at "w"
      refine if_dF (by decide) ?_
      walk_at "w"
      unfold d__law_flat_R1
      walk_at "w"
      refine if_dF (by decide) ?_
      walk_at "w"
      exact ⟨rfl, rfl⟩
    | box k =>
      unfold kdD
      walk_at "w"
      refine if_dF (by decide) ?_
      walk_at "w"
      unfold d__law_flat_R2
      walk_at "w"
      refine if_dF (by decide) ?_
      walk_at "w"
      unfold d__law_flat_R1
      walk_at "w"
      refine if_dF (by decide) ?_
      walk_at "w"
      exact ⟨rfl, rfl⟩
    | nm v n =>
      have hrk := hr v n rfl
      have hq : B.has (v, n) := hk
      have hSq := hS.eq (v, n) hq
      have sub : ∀ row ∈ B.tags (v, n), ∀ κ ∈ row, R__law_flat N [bookD B, kdD κ] st = .ok (.int (flS S κ)) st := fun row hrow κ hκ =>
        ih κ ((Bk.tags_mem hB hq hrow).2 κ hκ) (by omega) fun v' n' e => by
          subst e
          have := hρ (v, n) hq (v', n') ⟨row, hrow, hκ⟩
          omega
      cases v with
      | false =>
        obtain ⟨row, h1, h2, h3⟩ := idx_rec (B := B) (n := n) hk
        rw [h3] at hSq sub
        have hl := (hB.r row h2).1
        rw [show kdD (.nm false n) = .tup [.str "record", .int n] from rfl]
        walk_at "w"
        refine if_dF (by decide) ?_
        walk_at "w"
        unfold d__law_flat_R2
        walk_at "w"
        refine if_dT rfl ?_
        unfold d__law_flat_B1
        walk_at "w"
        refine wp_comp rfl ?_
        rw [eb]
        walk_at "w"
        refine wq_ixt (ix_row (by rw [List.getElem?_map, h1]; rfl)) ?_
        unfold rowD
        walk_at "w"
        refine wp_pureA kdD (fun κ => [some (.tup [.tup (B.recs.map fun r => .tup (r.map kdD)), .tup (B.vars.map tagsD)]), some (.tup [.str "record", .int n]), some (kdD κ), none]) (fun κ => .int (flS S κ)) (fun κ _ => rfl) (fun κ hκ => ?_) (by omega) ?_
        · refine wp_eq ?_
          unfold d__law_flat_C1
          walk_at "w"
          exact wp_of (sub row (by simp) κ hκ) ⟨rfl, rfl⟩
        · walk_at "w"
          have := ints_map (row.map (flS S))
          rw [List.map_map] at this
          refine wq_sum this ?_
          walk_at "w"
          refine ⟨?_, rfl⟩
          show _ = D.int (S (false, n))
          rw [hSq]
          rfl
      | true =>
        obtain ⟨ts, h1, h2, h3⟩ := idx_var (B := B) (n := n) hk
        rw [h3] at hSq sub
        obtain ⟨hl0, hl, hl2⟩ := hB.v ts h2
        rw [show kdD (.nm true n) = .tup [.str "variant", .int n] from rfl]
        walk_at "w"
        refine if_dF (by decide) ?_
        walk_at "w"
        unfold d__law_flat_R2
        walk_at "w"
        refine if_dF (by decide) ?_
        walk_at "w"
        unfold d__law_flat_R1
        walk_at "w"
        refine if_dT rfl ?_
        unfold d__law_flat_B2
        walk_at "w"
        refine wp_comp rfl ?_
        rw [eb]
        walk_at "w"
        refine wq_ixt (ix_row (by rw [List.getElem?_map, h1]; rfl)) ?_
        unfold tagsD
        walk_at "w"
        refine wp_pureA rowD (fun row => [some (.tup [.tup (B.recs.map rowD), .tup (B.vars.map fun ts => .tup (ts.map rowD))]), some (.tup [.str "variant", .int n]), none, some (rowD row)]) (fun row => .int (rowS S row)) (fun row _ => rfl) (fun row hrow => ?_) (by omega) ?_
        · refine wp_eq ?_
          have hl3 := (hl2 row hrow).1
          unfold d__law_flat_C3
          walk_at "w"
          refine wp_comp rfl ?_
          unfold rowD
          walk_at "w"
          refine wp_pureA kdD (fun κ => [some (.tup [.tup (B.recs.map fun r => .tup (r.map kdD)), .tup (B.vars.map fun ts => .tup (ts.map fun r => .tup (r.map kdD)))]), some (.tup [.str "variant", .int n]), some (kdD κ), some (.tup (row.map kdD))]) (fun κ => .int (flS S κ)) (fun κ _ => rfl) (fun κ hκ => ?_) (by omega) ?_
          · refine wp_eq ?_
            unfold d__law_flat_C2
            walk_at "w"
            exact wp_of (sub row hrow κ hκ) ⟨rfl, rfl⟩
          · walk_at "w"
            have := ints_map (row.map (flS S))
            rw [List.map_map] at this
            refine wq_sum this ?_
            exact ⟨rfl, rfl⟩
        · walk_at "w"
          have hne : ts.map (rowS S) ≠ [] := fun e => by
            have : ts = [] := List.map_eq_nil_iff.mp e
            rw [this] at hl0; simp at hl0
          have e2 : ts.map (fun row => D.int (rowS S row)) = (ts.map (rowS S)).map .int := by rw [List.map_map]; rfl
          rw [e2]
          refine max_ints hne ?_
          walk_at "w"
          refine ⟨?_, rfl⟩
          show _ = D.int (S (true, n))
          rw [hSq]
          rfl
end

section

local macro_rules | `(tactic| walk_at "x1") => `(tactic| first | (with_reducible refine isi_tup ?_) | (with_reducible refine isi_int ?_) | (with_reducible refine isi_nbl ?_) | (with_reducible refine isi_bl ?_) | (with_reducible refine isi_str ?_) | (with_reducible refine wq_lent ?_) | (with_reducible refine wq_lenl ?_))
/-! ### is_book -/
def Form (d : D) : Prop := ∃ rs vs, d = .tup [.tup rs, .tup vs] ∧ shapeB rs vs = true
def rq (B : Bk) (q : Nm) : Int := ((namedF B 81 q []).getD (0, [])).1
def okQ (B : Bk) (q : Nm) : Bool := decide (0 ≤ rq B q) && decide (rq B q ≤ 1000)
def isbB (B : Bk) : Bool := B.all.all (okQ B)
def smallB (d : D) : Bool := match d with
  | .tup ds => decide (ds.length ≤ 40)
  | _ => false
theorem smallB_inv {d : D} (h : smallB d = true) : ∃ ds, d = .tup ds ∧ ds.length ≤ 40 := by
  cases d with
  | tup ds => exact ⟨ds, rfl, of_decide_eq_true h⟩
  | _ => cases h
theorem shape_iff {rs vs : List D} : shapeB rs vs = true ↔ rs.length ≤ 40 ∧ vs.length ≤ 40 ∧ rs.all (partsB rs.length vs.length) = true ∧ vs.all (variantB rs.length vs.length) = true := by
  unfold shapeB
  rw [Bool.and_eq_true_iff, Bool.and_eq_true_iff, Bool.and_eq_true_iff, decide_eq_true_eq, decide_eq_true_eq, and_assoc, and_assoc]
theorem Form.two {ds : List D} (h : Form (.tup ds)) : ∃ rs vs, ds = [.tup rs, .tup vs] ∧ shapeB rs vs = true := by
  obtain ⟨rs, vs, e, h⟩ := h
  cases e
  exact ⟨rs, vs, rfl, h⟩
theorem len_two {ds : List D} (h : ((ds.length : Nat) : Int) = 2) : ∃ a b, ds = [a, b] := by
  match ds, h with
  | [], h => simp at h
  | [_], h => simp at h
  | [a, b], _ => exact ⟨a, b, rfl⟩
  | _ :: _ :: _ :: _, h => simp only [List.length_cons] at h; omega
theorem if_not {A B : Prop} {b : Bool} (h1 : b = true → B) (h2 : b = false → A) : if (!b) = true then A else B := if_nb h2 h1
theorem all_get {α : Type} {p : α → Bool} {l : List α} : (l.map p).all id = l.all p := by rw [List.all_map]; rfl
theorem nm_rng (v : Bool) (k : Nat) : ((rng 0 (k : Int)).map fun d => D.tup [.str (nmS v), d]) = ((List.range k).map fun n => (v, n)).map nmD := by
  apply List.ext_getElem?
  intro i
  rw [List.getElem?_map, List.map_map, List.getElem?_map]
  by_cases h : i < k
  · rw [rng_get (by omega), List.getElem?_range h]
    show some (D.tup [.str (nmS v), .int (0 + (i : Int))]) = some (nmD (v, i))
    rw [Int.zero_add]; rfl
  · rw [List.getElem?_eq_none (by rw [rng_len]; omega), List.getElem?_eq_none (by rw [List.length_range]; omega)]
    rfl
theorem Ks_nil {st : Sto} : Ks (st ++ [.dT []]) st.length [] = st ++ [.dT []] := by
  unfold Ks
  rw [list_set_last]; rfl
theorem Ks_last {st : Sto} {kn : Kn} : Ks (st ++ [.dT []]) st.length kn = st ++ [.dT (encK kn)] := by
  unfold Ks
  rw [list_set_last]
theorem rq_w {B : Bk} (hB : B.ok) {q : Nm} (hq : B.has q) {st : Sto} : ∃ kn, X_named_size [bookD B, nmD q, .ref st.length] (st ++ [.dT []]) = .ok (.int (rq B q)) (st ++ [.dT (encK kn)]) := by
  have hall : B.all.length ≤ 80 := by have := hB.nr; have := hB.nv; rw [Bk.all_len]; omega
  obtain ⟨r, kn, h, _⟩ := named_tot hB 81 q [] hq ⟨List.nodup_nil, fun p hp => by cases hp⟩ (by simp; omega)
  have h2 := named_w (st0 := st ++ [.dT []]) (m := st.length) hB (by simp) 81 260 (by omega) q [] r kn hq h
  rw [Ks_nil, Ks_last] at h2
  refine ⟨kn, ?_⟩
  have e : rq B q = r := by unfold rq; rw [h]; rfl
  rw [e]
  exact h2
end

section

local macro_rules | `(tactic| walk_at "x1") => `(tactic| first | (with_reducible refine isi_tup ?_) | (with_reducible refine isi_int ?_) | (with_reducible refine isi_nbl ?_) | (with_reducible refine isi_bl ?_) | (with_reducible refine isi_str ?_) | (with_reducible refine wq_lent ?_) | (with_reducible refine wq_lenl ?_))
/-! ### the law's examination of a book -/
mutual
theorem pl_wf {n : Nat} : ∀ {d : D}, plD d = true → d.wf n = true
  | .non, _ => rfl
  | .bl _, _ => rfl
  | .int _, _ => rfl
  | .str _, _ => rfl
  | .tup ds, h => pls_wf (ds := ds) h
  | .lst ds, h => pls_wf (ds := ds) h
  | .fro ds, h => pls_wf (ds := ds) h
theorem pls_wf {n : Nat} : ∀ {ds : List D}, plDs ds = true → wfs n ds = true
  | [], _ => rfl
  | d :: ds, h => by
    have h : (plD d && plDs ds) = true := h
    rw [Bool.and_eq_true_iff] at h
    show (d.wf n && wfs n ds) = true
    rw [pl_wf h.1, pls_wf h.2]; rfl
end
def lenB (m : Nat) (d : D) : Bool := match d with
  | .tup ds => decide (ds.length ≤ m)
  | _ => false
theorem lenB_inv {m : Nat} {d : D} (h : lenB m d = true) : ∃ ds, d = .tup ds ∧ ds.length ≤ m := by
  cases d with
  | tup ds => exact ⟨ds, rfl, of_decide_eq_true h⟩
  | _ => cases h
def wfO (x : Option D) : Prop := ∀ d, x = some d → d.wf 0 = true
theorem wfO_n : wfO none := fun d h => by cases h
theorem wfO_pl {d : D} (h : plD d = true) : wfO (some d) := fun x e => by cases e; exact pl_wf h
theorem pl_nmL (L : List Nm) : plD (.lst (L.map nmD)) = true := plDs_all.mpr (pl_nms L)
theorem pl_kd : ∀ κ : Kd, plD (kdD κ) = true
  | .int => by show (PyData.strOk "int" && true) = true; decide +kernel
  | .bool => by show (PyData.strOk "bool" && true) = true; decide +kernel
  | .box k => by
    show (PyData.strOk "box" && (plD (kdD k) && true)) = true
    rw [pl_kd k]; decide +kernel
  | .vec k => by
    show (PyData.strOk "vec" && (plD (kdD k) && true)) = true
    rw [pl_kd k]; decide +kernel
  | .nm v n => pl_nm (v, n)
theorem pl_row (r : Row) : plD (rowD r) = true := plDs_all.mpr fun d hd => by
  obtain ⟨κ, _, rfl⟩ := List.mem_map.mp hd; exact pl_kd κ
theorem pl_tags (ts : List Row) : plD (tagsD ts) = true := plDs_all.mpr fun d hd => by
  obtain ⟨κ, _, rfl⟩ := List.mem_map.mp hd; exact pl_row κ
theorem pl_book (B : Bk) : plD (bookD B) = true := by
  show (plDs (B.recs.map rowD) && (plDs (B.vars.map tagsD) && true)) = true
  rw [plDs_all.mpr fun d hd => by obtain ⟨κ, _, rfl⟩ := List.mem_map.mp hd; exact pl_row κ, plDs_all.mpr fun d hd => by obtain ⟨κ, _, rfl⟩ := List.mem_map.mp hd; exact pl_tags κ]
  rfl
/-- what the program's sizes are, by rings or ranks -/
theorem rq_ring {B : Bk} (hB : B.ok) {L : Nm → Prop} (hL : ∀ q, L q → ∃ q', L q' ∧ Edge B q q') {q : Nm} (hq : B.has q) (h : L q) : rq B q = -1 := by
  have hall : B.all.length ≤ 80 := by have := hB.nr; have := hB.nv; rw [Bk.all_len]; omega
  obtain ⟨r, kn, e, _⟩ := named_tot hB 81 q [] hq ⟨List.nodup_nil, fun p hp => by cases hp⟩ (by simp; omega)
  have := (named_ring hL 81 q [] r kn (fun p i _ hp => by cases hp) e).1 h
  unfold rq
  rw [e]
  exact this
theorem rq_size {B : Bk} (hB : B.ok) {S : Nm → Int} {ρ : Nm → Nat} (hS : SizeOf B S) (hρ : Ranked B ρ) {q : Nm} (hq : B.has q) : rq B q = S q := by
  have hall : B.all.length ≤ 80 := by have := hB.nr; have := hB.nv; rw [Bk.all_len]; omega
  obtain ⟨r, kn, e, _⟩ := named_tot hB 81 q [] hq ⟨List.nodup_nil, fun p hp => by cases hp⟩ (by simp; omega)
  have := (named_ok hB hS hρ 81 q [] r kn hq (fun p i hp => by cases hp) e).1
  unfold rq
  rw [e]
  exact this
theorem isb_size {B : Bk} (hB : B.ok) {S : Nm → Int} {ρ : Nm → Nat} (hS : SizeOf B S) (hρ : Ranked B ρ) : isbB B = B.all.all fun q => decide (S q ≤ 1000) := by
  have e : ∀ q ∈ B.all, okQ B q = decide (S q ≤ 1000) := fun q hq => by
    unfold okQ
    rw [rq_size hB hS hρ (Bk.mem_all.mp hq), decide_eq_true (hS.nn q), Bool.true_and]
  unfold isbB
  rw [Bool.eq_iff_iff, List.all_eq_true, List.all_eq_true]
  exact ⟨fun h q hq => by rw [← e q hq]; exact h q hq, fun h q hq => by rw [e q hq]; exact h q hq⟩
end

section

local macro_rules | `(tactic| walk_at "x1") => `(tactic| first | (with_reducible refine isi_tup ?_) | (with_reducible refine isi_int ?_) | (with_reducible refine isi_nbl ?_) | (with_reducible refine isi_bl ?_) | (with_reducible refine isi_str ?_) | (with_reducible refine wq_lent ?_) | (with_reducible refine wq_lenl ?_) | (with_reducible refine wq_listt ?_))
/-! ### what the law says of a thing; the draws -/
open Classical in
/-- the reader of the draws -/
def Rd (o : Ob) : Prop := ∃ (row : List Int) (k : Nat), o = .dK [(.inr "row", .lst (row.map .int)), (.inr "at", .int k)] ∧ row.length = 400 ∧ Good row
theorem take_w {o : Ob} {R : Sto} {Q : D → Sto → Prop} {E : Exn → Sto → Prop} (h : Rd o) (q : ∀ (v : Int) o', 0 ≤ v → Rd o' → Q (.int v) (o' :: R)) : Wp (X__law_take [.ref 0] (o :: R)) Q E := by
  obtain ⟨row, k, rfl, hl, hg⟩ := h
  suffices h : Wp (X__law_take [.ref 0] (Ob.dK [(.inr "row", .lst (row.map .int)), (.inr "at", .int k)] :: R)) (fun d st => ∃ v : Int, d = .int v ∧ 0 ≤ v ∧ st = Ob.dK [(.inr "row", .lst (row.map .int)), (.inr "at", .int (k + 1 : Nat))] :: R) NoX by
    refine h.toN fun d st ⟨v, e1, h0, e2⟩ => ?_
    subst e1 e2
    exact q v _ h0 ⟨row, k + 1, rfl, hl, hg⟩
  have g1 : (Ob.dK [(.inr "row", .lst (row.map .int)), (.inr "at", .int (k : Int))] :: R)[0]? = some (.dK [(.inr "row", .lst (row.map .int)), (.inr "at", .int (k : Int))]) := rfl
  have s1 : (Ob.dK [(.inr "row", .lst (row.map .int)), (.inr "at", .int (k : Int))] :: R).set 0 (.dK [(.inr "row", .lst (row.map .int)), (.inr "at", .int ((k : Int) + 1))]) = Ob.dK [(.inr "row", .lst (row.map .int)), (.inr "at", .int ((k + 1 : Nat) : Int))] :: R := by
    rw [show ((k + 1 : Nat) : Int) = (k : Int) + 1 by omega]; rfl
  have g2 : (Ob.dK [(.inr "row", .lst (row.map .int)), (.inr "at", .int ((k + 1 : Nat) : Int))] :: R)[0]? = some (.dK [(.inr "row", .lst (row.map .int)), (.inr "at", .int ((k + 1 : Nat) : Int))]) := rfl
  unfold X__law_take F__law_take
  walk_at "def"
  unfold d__law_take
  walk_at "w"
  rw [s1]
  walk_at "w"
  have hi : (k : Int) % 400 = ((k % 400 : Nat) : Int) := by omega
  have hlt : k % 400 < row.length := by rw [hl]; omega
  rw [hi]
  refine wq_ixl (atI_map hlt) ?_
  walk_at "w"
  refine ⟨_, rfl, ?_, rfl⟩
  have : 0 ≤ row.getD (k % 400) 0 := by
    rw [List.getD_eq_getElem?_getD, List.getElem?_eq_getElem hlt]
    exact hg _ (List.getElem_mem hlt)
  omega
theorem draws_w {ns : List Int} (hn : ns.length ≤ 63) : ∃ row : List Int, trimF F__law_draws [.fro (ns.map .int), .int 400] [] = .ok (.lst (row.map .int)) [] ∧ row.length = 400 ∧ Good row := by
  have h : ∃ d st', F__law_draws [.fro (ns.map .int), .int 400] [] = .ok d st' ∧ ∃ row g : List Int, d = .lst (row.map .int) ∧ st' = [] ++ [.lst (g.map .int)] ∧ row.length = 400 ∧ Good row := by with_reducible exact wp_ex (draws_raw hn)
  obtain ⟨d, st', e, row, g, h1, h2, hl, hg⟩ := h
  rw [h1, h2] at e
  refine ⟨row, ?_, hl, hg⟩
  have hw : (D.lst (row.map .int)).wf ([] : Sto).length = true := pls_wf (plDs_all.mpr fun d hd => by
    obtain ⟨z, _, rfl⟩ := List.mem_map.mp hd; rfl)
  with_reducible exact trim_val (st' := []) e rfl (Kept.refl _) hw
theorem start_w {ns : List Int} (hn : ns.length ≤ 63) : ∃ o, X__law_start [.fro (ns.map .int)] [] = .ok (.ref 0) [o] ∧ Rd o := by
  obtain ⟨row, e2, hl, hg⟩ := draws_w hn
  refine ⟨_, wp_eq ?_, row, 0, rfl, hl, hg⟩
  unfold X__law_start F__law_start X__law_draws
  generalize trimF F__law_draws = f1 at e2 ⊢
  walk_at "def"
  unfold d__law_start
  walk_at "w"
  with_reducible refine wp_of e2 ?_
  walk_at "w"
  exact ⟨rfl, rfl⟩
end

section

local macro_rules | `(tactic| walk_at "x1") => `(tactic| first | (with_reducible refine isi_tup ?_) | (with_reducible refine isi_int ?_) | (with_reducible refine isi_nbl ?_) | (with_reducible refine isi_bl ?_) | (with_reducible refine isi_str ?_) | (with_reducible refine wq_lent ?_) | (with_reducible refine wq_lenl ?_) | (with_reducible refine wq_listt ?_))
/-! ### drawing a book -/
theorem pickD {ds : List D} {v : Int} (h0 : 0 ≤ v) (h1 : v < ds.length) : ∃ d ∈ ds, atI ds v = some d := by
  obtain ⟨k, rfl⟩ : ∃ k : Nat, v = k := ⟨v.toNat, by omega⟩
  have hk : k < ds.length := by omega
  exact ⟨ds[k], List.getElem_mem hk, atI_nat (List.getElem?_eq_getElem hk)⟩
/-- an item of a written row, drawn -/
theorem pickW {ds : List D} {v m : Int} {st : Sto} {Q : D → Sto → Prop} {E : Exn → Sto → Prop} (h0 : 0 ≤ v) (hm : m = ds.length) (h1 : 0 < m) (q : ∀ d ∈ ds, Q d st) : Wp (dIxA (.lst ds) (.int (v % m)) st) Q E := by
  have a := Int.emod_nonneg v (b := m) (by omega)
  have b := Int.emod_lt_of_pos v h1
  obtain ⟨d, hd, e⟩ := pickD (ds := ds) a (by omega)
  exact wq_ixl e (q d hd)
def Kd.dep : Kd → Nat
  | .box k => k.dep + 1
  | .vec k => k.dep + 1
  | _ => 0
theorem kd_data {nr nv : Nat} : ∀ {κ : Kd} {n : Nat}, κ.ok nr nv → κ.dep < n → dataB nr nv n (kdD κ) = true
  | .int, n + 1, _, _ => by exact dataB_plain (by decide)
  | .bool, n + 1, _, _ => by exact dataB_plain (by decide)
  | .box k, n + 1, h, hd => by
    have := kd_data (κ := k) (n := n) h (by have : k.dep + 1 < n + 1 := hd; omega)
    exact (dataB_hold (by decide) (by decide)).trans this
  | .vec k, n + 1, h, hd => by
    have := kd_data (κ := k) (n := n) h (by have : k.dep + 1 < n + 1 := hd; omega)
    exact (dataB_hold (by decide) (by decide)).trans this
  | .nm false m, n + 1, h, _ => by
    have h : m < nr := h
    refine (dataB_named (by decide) (by decide) (by decide)).trans ?_
    show (decide (0 ≤ (m : Int)) && decide ((m : Int) < (nr : Int))) = true
    rw [decide_eq_true (by omega), decide_eq_true (by omega)]; rfl
  | .nm true m, n + 1, h, _ => by
    have h : m < nv := h
    refine (dataB_named (by decide) (by decide) (by decide)).trans ?_
    show (decide (0 ≤ (m : Int)) && decide ((m : Int) < (nv : Int))) = true
    rw [decide_eq_true (by omega), decide_eq_true (by omega)]; rfl
/-- how many there are -/
def cntO (nr nv : Nat) : Ob := .dK [(.inr "record", .int nr), (.inr "variant", .int nv)]
theorem cntO_get {nr nv : Nat} (v : Bool) : valD [((.inr ("record" : Str) : Key), D.int nr), (.inr ("variant" : Str), .int nv)] (.inr (nmS v)) = some (.int ((if v = true then nv else nr : Nat))) := by
  cases v <;> rfl
theorem data_d {nr nv : Nat} (hr : 0 < nr) (hv : 0 < nv) {R : Sto} : ∀ (N : Nat) (deep : Nat) (o : Ob), deep < N → Rd o →
    Wp (R__law_data N [.ref 0, .ref 1, .int deep] (o :: cntO nr nv :: R)) (fun d st => ∃ κ o', d = kdD κ ∧ κ.ok nr nv ∧ κ.dep ≤ deep ∧ Rd o' ∧ st = o' :: cntO nr nv :: R) NoX := by
  intro N
  induction N with
  | zero => intro deep o h; omega
  | succ N ih =>
    intro deep o hd ho
    rw [R__law_data_succ]
    unfold F__law_data
    walk_at "def"
    unfold d__law_data
    walk_at "w"
    refine take_w ho fun v o1 h1 ho1 => ?_
    walk_at "w"
    have base : ∀ (x3 : Option D) (o1 : Ob), Rd o1 → Wp (d__law_data_B1 X__law_take (R__law_data N) [some (.ref 0), some (.ref 1), some (.int deep), x3, none] (o1 :: cntO nr nv :: R)) (seqK (d__law_data_R3 X__law_take (R__law_data N)) (finK (fun d st => ∃ κ o', d = kdD κ ∧ κ.ok nr nv ∧ κ.dep ≤ deep ∧ Rd o' ∧ st = o' :: cntO nr nv :: R) NoX) NoX) NoX := by
      intro x3 o1 ho1
      unfold d__law_data_B1
      walk_at "w"
      refine take_w ho1 fun v o2 h2 ho2 => ?_
      walk_at "w"
      refine pickW h2 rfl (by decide) fun d hd => ?_
      walk_at "w"
      simp only [List.mem_cons, List.not_mem_nil, or_false] at hd
      rcases hd with rfl | rfl
      · exact ⟨.int, o2, rfl, trivial, Nat.zero_le _, ho2, rfl⟩
      · exact ⟨.bool, o2, rfl, trivial, Nat.zero_le _, ho2, rfl⟩
    refine if_dec (fun h0 => ?_) (fun h0 => ?_)
    · walk_at "w"
      exact base _ _ ho1
    · walk_at "w"
      obtain ⟨m, rfl⟩ : ∃ m, deep = m + 1 := ⟨deep - 1, by omega⟩
      refine if_dec (fun h2 => ?_) (fun h2 => ?_)
      · exact base _ _ ho1
      · walk_at "w"
        unfold d__law_data_R3
        walk_at "w"
        refine if_dec (fun h4 => ?_) (fun h4 => ?_)
        · walk_at "w"
          rw [show ((m + 1 : Nat) : Int) - 1 = (m : Int) by omega]
          refine (ih m o1 (by omega) ho1).toN fun d st ⟨κ, o2, e1, e2, e3, ho2, e4⟩ => ?_
          subst e1 e4
          walk_at "w"
          exact ⟨.box κ, o2, rfl, e2, Nat.succ_le_succ e3, ho2, rfl⟩
        · walk_at "w"
          unfold d__law_data_R2
          walk_at "w"
          refine if_dec (fun h5 => ?_) (fun h5 => ?_)
          · walk_at "w"
            rw [show ((m + 1 : Nat) : Int) - 1 = (m : Int) by omega]
            refine (ih m o1 (by omega) ho1).toN fun d st ⟨κ, o2, e1, e2, e3, ho2, e4⟩ => ?_
            subst e1 e4
            walk_at "w"
            exact ⟨.vec κ, o2, rfl, e2, Nat.succ_le_succ e3, ho2, rfl⟩
          · walk_at "w"
            unfold d__law_data_R1
            walk_at "w"
            refine take_w ho1 fun v2 o2 h6 ho2 => ?_
            walk_at "w"
            refine pickW h6 rfl (by decide) fun d hd => ?_
            have hw : ∃ w : Bool, d = .str (nmS w) := by
              simp only [List.mem_cons, List.not_mem_nil, or_false] at hd
              rcases hd with rfl | rfl
              · exact ⟨false, rfl⟩
              · exact ⟨true, rfl⟩
            obtain ⟨w, rfl⟩ := hw
            walk_at "w"
            refine take_w ho2 fun v3 o3 h7 ho3 => ?_
            walk_at "w"
            refine wq_ixk (k := .inr (nmS w)) (kvs := [(.inr "record", .int nr), (.inr "variant", .int nv)]) rfl rfl (cntO_get w) ?_
            have hpos : 0 < (if w = true then nv else nr : Nat) := by cases w <;> assumption
            refine wq_mod (by omega) ?_
            walk_at "w"
            have a := Int.emod_nonneg v3 (b := ((if w = true then nv else nr : Nat) : Int)) (by omega)
            have b := Int.emod_lt_of_pos v3 (b := ((if w = true then nv else nr : Nat) : Int)) (by omega)
            obtain ⟨k, hk⟩ : ∃ k : Nat, v3 % ((if w = true then nv else nr : Nat) : Int) = k := ⟨_, (Int.toNat_of_nonneg a).symm⟩
            rw [hk] at b ⊢
            refine ⟨.nm w k, o3, rfl, ?_, Nat.zero_le _, ho3, rfl⟩
            show k < (if w = true then nv else nr)
            omega
/-- a field: what lies within it stands in the row of what is before -/
def InB (bs : List Nm) (κ : Kd) : Prop := ∀ q, isNm κ = some q → q ∈ bs
theorem inside_d {nr nv : Nat} (hr : 0 < nr) (hv : 0 < nv) {bs : List Nm} (hbs : ∀ q ∈ bs, q.2 < (if q.1 = true then nv else nr)) {R : Sto} {o : Ob} (ho : Rd o) :
    Wp (X__law_inside [.ref 0, .ref 1, .ref 2] (o :: cntO nr nv :: .lst (bs.map nmD) :: R)) (fun d st => ∃ κ o', d = kdD κ ∧ κ.ok nr nv ∧ κ.dep ≤ 3 ∧ InB bs κ ∧ Rd o' ∧ st = o' :: cntO nr nv :: .lst (bs.map nmD) :: R) NoX := by
  unfold X__law_inside F__law_inside
  have hdd : ∀ o, Rd o → Wp (X__law_data [.ref 0, .ref 1, .int 2] (o :: cntO nr nv :: .lst (bs.map nmD) :: R)) (fun d st => ∃ κ o', d = kdD κ ∧ κ.ok nr nv ∧ κ.dep ≤ 2 ∧ Rd o' ∧ st = o' :: cntO nr nv :: .lst (bs.map nmD) :: R) NoX := fun o ho => data_d hr hv 60 2 o (by omega) ho
  generalize X__law_data = cD at hdd ⊢
  walk_at "def"
  unfold d__law_inside
  walk_at "w"
  refine take_w ho fun v o1 h1 ho1 => ?_
  walk_at "w"
  have base : ∀ (x3 : Option D) (o1 : Ob), Rd o1 → Wp (d__law_inside_B1 X__law_take cD [some (.ref 0), some (.ref 1), some (.ref 2), x3] (o1 :: cntO nr nv :: .lst (bs.map nmD) :: R)) (seqK (dRet (dBin dIxA (dVar 2) (dBin dMod (dApp X__law_take (dCons (dVar 0) dNil)) (dApp cLen (dCons (dVar 2) dNil))))) (finK (fun d st => ∃ κ o', d = kdD κ ∧ κ.ok nr nv ∧ κ.dep ≤ 3 ∧ InB bs κ ∧ Rd o' ∧ st = o' :: cntO nr nv :: .lst (bs.map nmD) :: R) NoX) NoX) NoX := by
    intro x3 o1 ho1
    unfold d__law_inside_B1
    walk_at "w"
    refine (hdd o1 ho1).toN fun d st ⟨κ1, o2, e1, e2, e3, ho2, e4⟩ => ?_
    subst e1 e4
    walk_at "w"
    refine (hdd o2 ho2).toN fun d st ⟨κ2, o3, e5, e6, e7, ho3, e8⟩ => ?_
    subst e5 e8
    walk_at "w"
    refine take_w ho3 fun v2 o4 h4 ho4 => ?_
    walk_at "w"
    refine pickW h4 rfl (by decide) fun d hd => ?_
    walk_at "w"
    simp only [List.mem_cons, List.not_mem_nil, or_false] at hd
    rcases hd with rfl | rfl | rfl | rfl
    · exact ⟨.int, o4, rfl, trivial, Nat.zero_le _, (fun q h => by cases h), ho4, rfl⟩
    · exact ⟨.bool, o4, rfl, trivial, Nat.zero_le _, (fun q h => by cases h), ho4, rfl⟩
    · exact ⟨.box κ1, o4, rfl, e2, Nat.succ_le_succ e3, (fun q h => by cases h), ho4, rfl⟩
    · exact ⟨.vec κ2, o4, rfl, e6, Nat.succ_le_succ e7, (fun q h => by cases h), ho4, rfl⟩
  refine if_dec (fun h0 => ?_) (fun h0 => ?_)
  · walk_at "w"
    exact base _ _ ho1
  · walk_at "w"
    refine wp_of (dq_nilR (n := 2) rfl (pl_nms bs) (dp_nms bs)) ?_
    walk_at "w"
    rw [Bool.false_xor, List.isEmpty_map]
    refine if_b (fun he => ?_) (fun he => ?_)
    · exact base _ _ ho1
    · have hlen : 0 < bs.length := by
        cases bs with
        | nil => cases he
        | cons _ _ => simp
      walk_at "w"
      refine take_w ho1 fun v2 o2 h2 ho2 => ?_
      walk_at "w"
      rw [List.length_map]
      refine wq_mod (by omega) ?_
      walk_at "w"
      have a := Int.emod_nonneg v2 (b := (bs.length : Int)) (by omega)
      have b := Int.emod_lt_of_pos v2 (b := (bs.length : Int)) (by omega)
      obtain ⟨k, hk⟩ : ∃ k : Nat, v2 % (bs.length : Int) = k := ⟨_, (Int.toNat_of_nonneg a).symm⟩
      rw [hk] at b ⊢
      have hkl : k < bs.length := by omega
      refine wq_ixr (xs := bs.map nmD) rfl (ix_row (by rw [List.getElem?_map, List.getElem?_eq_getElem hkl]; rfl)) ?_
      walk_at "w"
      have hm := List.getElem_mem hkl
      generalize bs[k] = q at hm
      exact ⟨.nm q.1 q.2, o2, rfl, hbs q hm, Nat.zero_le _, (fun q' h => by cases h; exact hm), ho2, rfl⟩
end

section

local macro_rules | `(tactic| walk_at "x1") => `(tactic| first | (with_reducible refine isi_tup ?_) | (with_reducible refine isi_int ?_) | (with_reducible refine isi_nbl ?_) | (with_reducible refine isi_bl ?_) | (with_reducible refine isi_str ?_) | (with_reducible refine wq_lent ?_) | (with_reducible refine wq_lenl ?_) | (with_reducible refine wq_listt ?_))
def rk (q : Nm) : Nat := 2 * q.2 + (if q.1 = true then 1 else 0)
def GoodK (nr nv r : Nat) (κ : Kd) : Prop := κ.ok nr nv ∧ κ.dep ≤ 3 ∧ ∀ q, isNm κ = some q → rk q < r
/-- the store while a book is drawn -/
abbrev Bst (o : Ob) (nr nv : Nat) (bs : List Nm) (B : Bk) (G : Sto) : Sto := o :: cntO nr nv :: .lst (bs.map nmD) :: .lst (B.recs.map rowD) :: .lst (B.vars.map tagsD) :: G
structure BInv (nr nv : Nat) (bs : List Nm) (B : Bk) : Prop where
  fb : ∀ q ∈ bs, q.2 < (if q.1 = true then B.vars.length else B.recs.length)
  fr : B.recs.length ≤ nr
  fv : B.vars.length ≤ nv
  fl : bs.length ≤ 6
  f3 : nr ≤ 3 ∧ nv ≤ 3
  rr : ∀ (i : Nat) row, B.recs[i]? = some row → row.length ≤ 3 ∧ ∀ κ ∈ row, GoodK nr nv (2 * i) κ
  vv : ∀ (i : Nat) ts, B.vars[i]? = some ts → 1 ≤ ts.length ∧ ts.length ≤ 3 ∧ ∀ row ∈ ts, row.length ≤ 2 ∧ ∀ κ ∈ row, GoodK nr nv (2 * i + 1) κ
theorem rows_d {nr nv r n : Nat} {bs : List Nm} {B : Bk} {G : Sto} {o : Ob} {ds : List D} {te : DE} {j : Nat} {g : D → En} {σ : En} (hr : 0 < nr) (hv : 0 < nv) (hb : BInv nr nv bs B) (hrk : ∀ q ∈ bs, rk q < r) (ho : Rd o) (hl : ds.length ≤ n) (hn : n ≤ 3)
    (hp : ∀ d, (Tgt.one j).put d σ = some (g d)) (he : ∀ d st, te (g d) st = X__law_inside [.ref 0, .ref 1, .ref 2] st) {Q : List D → Sto → Prop} {E : Exn → Sto → Prop}
    (q : ∀ (row : Row) o', row.length = ds.length → (∀ κ ∈ row, GoodK nr nv r κ) → Rd o' → Q (row.map kdD) (Bst o' nr nv bs B G)) : Wp (compL (.one j) dYes te σ ds [] (Bst o nr nv bs B G)) Q E := by
  refine wp_compL (P := fun i acc st' => ∃ (row : Row) (o' : Ob), acc = row.map kdD ∧ row.length = i ∧ (∀ κ ∈ row, GoodK nr nv r κ) ∧ Rd o' ∧ st' = Bst o' nr nv bs B G) ⟨[], o, rfl, rfl, (fun κ h => by cases h), ho, rfl⟩ (by omega) ?_ ?_
  · rintro i d acc st' hd ⟨row, o', rfl, h1, h2, ho', rfl⟩
    refine ⟨_, hp d, ?_⟩
    unfold dYes
    walk_at "w"
    rw [he]
    refine (inside_d hr hv (bs := bs) (fun q hq => by
      have := hb.fb q hq
      have h1 := hb.fr
      have h2 := hb.fv
      split at this <;> rename_i h <;> simp only [h, if_true, if_false, Bool.false_eq_true] <;> omega) ho').to fun d st ⟨κ, o2, e1, e2, e3, e4, ho2, e5⟩ => ?_
    subst e1 e5
    refine ⟨row ++ [κ], o2, by rw [List.map_append]; rfl, by rw [List.length_append, h1]; rfl, fun x hx => ?_, ho2, rfl⟩
    rcases List.mem_append.mp hx with hx | hx
    · exact h2 x hx
    · rw [List.mem_singleton.mp hx]
      exact ⟨e2, e3, fun q hq => hrk q (e4 q hq)⟩
  · rintro out st' ⟨row, o', rfl, h1, h2, ho', rfl⟩
    exact q row o' h1 h2 ho'
theorem snoc_get {α : Type} {l : List α} {a x : α} {i : Nat} (h : (l ++ [a])[i]? = some x) : (i < l.length ∧ l[i]? = some x) ∨ (i = l.length ∧ x = a) := by
  by_cases hi : i < l.length
  · rw [List.getElem?_append_left hi] at h; exact .inl ⟨hi, h⟩
  · rw [List.getElem?_append_right (by omega)] at h
    have h0 : i - l.length = 0 := by
      rcases Nat.eq_zero_or_pos (i - l.length) with z | z
      · exact z
      · rw [List.getElem?_eq_none (by simp; omega)] at h; cases h
    rw [h0] at h
    cases h
    exact .inr ⟨by omega, rfl⟩
theorem BInv.addR {nr nv k : Nat} {bs : List Nm} {B : Bk} {row : Row} (h : BInv nr nv bs B) (hk : k = B.recs.length) (hlt : k < nr) (hb : bs.length ≤ 5) (h1 : row.length ≤ 3) (h2 : ∀ κ ∈ row, GoodK nr nv (2 * k) κ) : BInv nr nv (bs ++ [(false, k)]) ⟨B.recs ++ [row], B.vars⟩ := by
  refine ⟨fun q hq => ?_, by show (B.recs ++ [row]).length ≤ nr; rw [List.length_append]; simp; omega, h.fv, by rw [List.length_append]; simp; omega, h.f3, fun i r hi => ?_, h.vv⟩
  · show q.2 < (if q.1 = true then B.vars.length else (B.recs ++ [row]).length)
    rw [List.length_append]
    rcases List.mem_append.mp hq with hq | hq
    · have := h.fb q hq
      split at this <;> rename_i z <;> simp only [z, if_true, if_false, Bool.false_eq_true] <;> omega
    · rw [List.mem_singleton.mp hq]
      show k < B.recs.length + 1
      omega
  · rcases snoc_get hi with ⟨_, hi2⟩ | ⟨hi2, rfl⟩
    · exact h.rr i r hi2
    · rw [hi2, ← hk]; exact ⟨h1, h2⟩
theorem BInv.addV {nr nv k : Nat} {bs : List Nm} {B : Bk} {ts : List Row} (h : BInv nr nv bs B) (hk : k = B.vars.length) (hlt : k < nv) (hb : bs.length ≤ 5) (h0 : 1 ≤ ts.length) (h1 : ts.length ≤ 3) (h2 : ∀ row ∈ ts, row.length ≤ 2 ∧ ∀ κ ∈ row, GoodK nr nv (2 * k + 1) κ) : BInv nr nv (bs ++ [(true, k)]) ⟨B.recs, B.vars ++ [ts]⟩ := by
  refine ⟨fun q hq => ?_, h.fr, by show (B.vars ++ [ts]).length ≤ nv; rw [List.length_append]; simp; omega, by rw [List.length_append]; simp; omega, h.f3, h.rr, fun i r hi => ?_⟩
  · show q.2 < (if q.1 = true then (B.vars ++ [ts]).length else B.recs.length)
    rw [List.length_append]
    rcases List.mem_append.mp hq with hq | hq
    · have := h.fb q hq
      split at this <;> rename_i z <;> simp only [z, if_true, if_false, Bool.false_eq_true] <;> omega
    · rw [List.mem_singleton.mp hq]
      show k < B.vars.length + 1
      omega
  · rcases snoc_get hi with ⟨_, hi2⟩ | ⟨hi2, rfl⟩
    · exact h.vv i r hi2
    · rw [hi2, ← hk]; exact ⟨h0, h1, h2⟩
theorem rec_d {nr nv k : Nat} {bs : List Nm} {B : Bk} {G : Sto} {o : Ob} {x5 x6 x7 : Option D} {Q : Fl × En → Sto → Prop} {E : Exn → Sto → Prop} (hr : 0 < nr) (hv : 0 < nv) (hb : BInv nr nv bs B) (hk : k = B.recs.length) (hlt : k < nr) (hbl : bs.length ≤ 5) (hrk : ∀ q ∈ bs, rk q < 2 * k) (ho : Rd o)
    (q : ∀ (row : Row) o', row.length ≤ 3 → (∀ κ ∈ row, GoodK nr nv (2 * k) κ) → Rd o' → Q (.nx, [some (.ref 0), some (.ref 1), some (.ref 2), some (.tup [.ref 3, .ref 4]), some (.int k), x5, x6, x7]) (Bst o' nr nv (bs ++ [(false, k)]) ⟨B.recs ++ [row], B.vars⟩ G)) :
    Wp (d__law_book_B1 X__law_take X__law_inside [some (.ref 0), some (.ref 1), some (.ref 2), some (.tup [.ref 3, .ref 4]), some (.int k), x5, x6, x7] (Bst o nr nv bs B G)) Q E := by
  have hl1 := hb.fr
  have hl3 := hb.f3
  unfold d__law_book_B1
  walk_at "w"
  with_reducible refine wp_comp (σ := [some (.ref 0), some (.ref 1), some (.ref 2), some (.tup [.ref 3, .ref 4]), some (.int k), none, x6, x7]) ?hw ?_
  case hw => exact rfl
  walk_at "w"
  refine take_w ho fun v o1 h1 ho1 => ?_
  walk_at "w"
  have a := Int.emod_nonneg v (b := 4) (by omega)
  have b := Int.emod_lt_of_pos v (b := 4) (by omega)
  generalize v % 4 = m at a b
  with_reducible refine rows_d (n := 3) (r := 2 * k) (g := fun d => [some (.ref 0), some (.ref 1), some (.ref 2), some (.tup [.ref 3, .ref 4]), some (.int k), some d, x6, x7]) hr hv hb hrk ho1 ?p1 ?p2 ?p3 ?p4 ?_
  case p1 => rw [rng_len]; omega
  case p2 => omega
  case p3 => exact fun d => rfl
  case p4 => exact fun d st => rfl
  intro row o2 h2 h3 ho2
  rw [rng_len] at h2
  walk_at "w"
  have := q row o2 (by omega) h3 ho2
  unfold Bst at this
  rw [List.map_append, List.map_append] at this
  exact this
theorem g5 {a b c d e x : Ob} {G : Sto} : (a :: b :: c :: d :: e :: (G ++ [x]))[G.length + 5]? = some x := by
  show (G ++ [x])[G.length]? = some x
  exact get_new
theorem s5 {a b c d e x y : Ob} {G : Sto} : (a :: b :: c :: d :: e :: (G ++ [x])).set (G.length + 5) y = a :: b :: c :: d :: e :: (G ++ [y]) := by
  show a :: b :: c :: d :: e :: ((G ++ [x]).set G.length y) = _
  rw [list_set_last]
theorem var_d {nr nv k : Nat} {bs : List Nm} {B : Bk} {G : Sto} {o : Ob} {x5 x6 x7 : Option D} {Q : Fl × En → Sto → Prop} {E : Exn → Sto → Prop} (hr : 0 < nr) (hv : 0 < nv) (hb : BInv nr nv bs B) (hk : k = B.vars.length) (hlt : k < nv) (hbl : bs.length ≤ 5) (hrk : ∀ q ∈ bs, rk q < 2 * k + 1) (ho : Rd o)
    (q : ∀ (ts : List Row) o' x5 x6 x7 G', 1 ≤ ts.length → ts.length ≤ 3 → (∀ row ∈ ts, row.length ≤ 2 ∧ ∀ κ ∈ row, GoodK nr nv (2 * k + 1) κ) → Rd o' →
      Q (.nx, [some (.ref 0), some (.ref 1), some (.ref 2), some (.tup [.ref 3, .ref 4]), some (.int k), x5, x6, x7]) (Bst o' nr nv (bs ++ [(true, k)]) ⟨B.recs, B.vars ++ [ts]⟩ G')) :
    Wp (d__law_book_B2 X__law_take X__law_inside [some (.ref 0), some (.ref 1), some (.ref 2), some (.tup [.ref 3, .ref 4]), some (.int k), x5, x6, x7] (Bst o nr nv bs B G)) Q E := by
  have hl1 := hb.fv
  have hl3 := hb.f3
  unfold d__law_book_B2
  walk_at "w"
  have eG : (Bst o nr nv bs B G).length = G.length + 5 := rfl
  rw [eG]
  have eS : Bst o nr nv bs B G ++ [Ob.lst []] = Bst o nr nv bs B (G ++ [.lst []]) := rfl
  rw [eS]
  refine take_w ho fun v o1 h1 ho1 => ?_
  walk_at "w"
  have a := Int.emod_nonneg v (b := 3) (by omega)
  have b := Int.emod_lt_of_pos v (b := 3) (by omega)
  generalize v % 3 = m at a b
  with_reducible refine wp_forN (P := fun i τ st' => ∃ (ts : List Row) (o' : Ob) (x5 x7 : Option D), ts.length = i ∧ (∀ row ∈ ts, row.length ≤ 2 ∧ ∀ κ ∈ row, GoodK nr nv (2 * k + 1) κ) ∧ Rd o' ∧ τ = [some (.ref 0), some (.ref 1), some (.ref 2), some (.tup [.ref 3, .ref 4]), some (.int k), x5, some (.ref (G.length + 5)), x7] ∧
    st' = Bst o' nr nv bs B (G ++ [.lst (ts.map rowD)])) ?h0 ?hs ?hq
  case h0 => exact ⟨[], o1, _, _, rfl, (fun row h => by cases h), ho1, rfl, rfl⟩
  case hs =>
    rintro i d τ st' hd ⟨ts, o2, x5, x7, h2, h3, ho2, rfl, rfl⟩
    have hi := (rng_ix hd).2
    simp only [List.set_cons_succ, List.set_cons_zero]
    unfold d__law_book_L1
    walk_at "w"
    refine isK_mk (wq_tyr (ty := "") g5) ?_
    walk_at "w"
    with_reducible refine wp_comp (σ := [some (.ref 0), some (.ref 1), some (.ref 2), some (.tup [.ref 3, .ref 4]), some (.int k), some d, some (.ref (G.length + 5)), none]) ?hw ?_
    case hw => exact rfl
    walk_at "w"
    refine take_w ho2 fun v o3 h4 ho3 => ?_
    walk_at "w"
    have a2 := Int.emod_nonneg v (b := 3) (by omega)
    have b2 := Int.emod_lt_of_pos v (b := 3) (by omega)
    generalize v % 3 = m2 at a2 b2
    with_reducible refine rows_d (n := 2) (r := 2 * k + 1) (B := B) (G := G ++ [.lst (ts.map rowD)]) (g := fun z => [some (.ref 0), some (.ref 1), some (.ref 2), some (.tup [.ref 3, .ref 4]), some (.int k), some d, some (.ref (G.length + 5)), some z]) hr hv hb hrk ho3 ?p1 ?p2 ?p3 ?p4 ?_
    case p1 => rw [rng_len]; omega
    case p2 => omega
    case p3 => exact fun d => rfl
    case p4 => exact fun d st => rfl
    intro row o4 h5 h6 ho4
    rw [rng_len] at h5
    walk_at "w"
    refine wq_append (xs := ts.map rowD) g5 (by rw [List.length_map]; omega) ?_
    rw [s5]
    walk_at "w"
    refine ⟨ts ++ [row], o4, _, _, by rw [List.length_append, h2]; rfl, fun z hz => ?_, ho4, rfl, by unfold Bst; rw [List.map_append]; rfl⟩
    rcases List.mem_append.mp hz with hz | hz
    · exact h3 z hz
    · rw [List.mem_singleton.mp hz]; exact ⟨by omega, h6⟩
  case hq =>
    rintro τ st' ⟨ts, o2, x5, x7, h2, h3, ho2, rfl, rfl⟩
    rw [rng_len] at h2
    walk_at "w"
    refine wq_tupr (xs := ts.map rowD) g5 ?_
    walk_at "w"
    have := q ts o2 x5 (some (.ref (G.length + 5))) x7 (G ++ [.lst (ts.map rowD)]) (by omega) (by omega) h3 ho2
    unfold Bst at this
    rw [List.map_append, List.map_append] at this
    exact this
end

section

local macro_rules | `(tactic| walk_at "x1") => `(tactic| first | (with_reducible refine isi_tup ?_) | (with_reducible refine isi_int ?_) | (with_reducible refine isi_nbl ?_) | (with_reducible refine isi_bl ?_) | (with_reducible refine isi_str ?_) | (with_reducible refine wq_lent ?_) | (with_reducible refine wq_lenl ?_) | (with_reducible refine wq_listt ?_))
def LInv (nr nv : Nat) (i j : Nat) (bs : List Nm) (B : Bk) : Prop := BInv nr nv bs B ∧ B.recs.length = min i nr ∧ B.vars.length = min j nv ∧ bs.length ≤ i + j
theorem rk_lt {nr nv i j : Nat} {bs : List Nm} {B : Bk} (h : LInv nr nv i j bs B) (hj : j ≤ i) (hi : i ≤ j + 1) : ∀ q ∈ bs, rk q < i + j := by
  intro q hq
  have := h.1.fb q hq
  unfold rk
  obtain ⟨_, h1, h2, _⟩ := h
  split at this <;> rename_i z <;> simp only [z, if_true, if_false, Bool.false_eq_true] <;> omega
theorem book_l {nr nv i : Nat} {bs : List Nm} {B : Bk} {G : Sto} {o : Ob} {x5 x6 x7 : Option D} {Q : Fl × En → Sto → Prop} {E : Exn → Sto → Prop} (hr : 0 < nr) (hv : 0 < nv) (h : LInv nr nv i i bs B) (hi : i < 3) (ho : Rd o)
    (q : ∀ bs B G o' x5 x6 x7, LInv nr nv (i + 1) (i + 1) bs B → Rd o' → Q (.nx, [some (.ref 0), some (.ref 1), some (.ref 2), some (.tup [.ref 3, .ref 4]), some (.int i), x5, x6, x7]) (Bst o' nr nv bs B G)) :
    Wp (d__law_book_L2 X__law_take X__law_inside [some (.ref 0), some (.ref 1), some (.ref 2), some (.tup [.ref 3, .ref 4]), some (.int i), x5, x6, x7] (Bst o nr nv bs B G)) Q E := by
  have st2 : ∀ (bs : List Nm) (B : Bk) (G : Sto) (o : Ob) (x5 x6 x7 : Option D), LInv nr nv (i + 1) i bs B → Rd o →
      (if decide ((i : Int) < (nv : Int)) = true then Wp (d__law_book_B2 X__law_take X__law_inside [some (.ref 0), some (.ref 1), some (.ref 2), some (.tup [.ref 3, .ref 4]), some (.int i), x5, x6, x7] (Bst o nr nv bs B G)) Q E
        else Wp (dNext [some (.ref 0), some (.ref 1), some (.ref 2), some (.tup [.ref 3, .ref 4]), some (.int i), x5, x6, x7] (Bst o nr nv bs B G)) Q E) := by
    intro bs B G o x5 x6 x7 h ho
    refine if_dec (fun hlt => ?_) (fun hlt => ?_)
    · have hlt : i < nv := by omega
      obtain ⟨hb, h1, h2, h3⟩ := id h
      with_reducible refine var_d hr hv hb ?p1 hlt ?p2 ?p3 ho ?_
      case p1 => omega
      case p2 => omega
      case p3 => intro q hq; have := rk_lt h (by omega) (by omega) q hq; omega
      intro ts o' x5 x6 x7 G' g1 g2 g3 ho'
      refine q _ _ G' o' x5 x6 x7 ⟨hb.addV (k := i) (by omega) hlt (by omega) g1 g2 g3, by show B.recs.length = _; omega, by show (B.vars ++ [ts]).length = _; rw [List.length_append]; simp; omega, by rw [List.length_append]; simp; omega⟩ ho'
    · have hlt : ¬ i < nv := by omega
      walk_at "w"
      obtain ⟨hb, h1, h2, h3⟩ := h
      exact q bs B G o x5 x6 x7 ⟨hb, by omega, by omega, by omega⟩ ho
  unfold d__law_book_L2
  walk_at "w"
  refine if_dec (fun hlt => ?_) (fun hlt => ?_)
  · have hlt : i < nr := by omega
    obtain ⟨hb, h1, h2, h3⟩ := id h
    with_reducible refine rec_d hr hv hb ?p1 hlt ?p2 ?p3 ho ?_
    case p1 => omega
    case p2 => omega
    case p3 => intro q hq; have := rk_lt h (by omega) (by omega) q hq; omega
    intro row o' g1 g2 ho'
    walk_at "w"
    exact st2 _ _ G o' _ _ _ ⟨hb.addR (k := i) (by omega) hlt (by omega) g1 g2, by show (B.recs ++ [row]).length = _; rw [List.length_append]; simp; omega, by show B.vars.length = _; omega, by rw [List.length_append]; simp; omega⟩ ho'
  · have hlt : ¬ i < nr := by omega
    walk_at "w"
    obtain ⟨hb, h1, h2, h3⟩ := h
    exact st2 bs B G o _ _ _ ⟨hb, by omega, by omega, by omega⟩ ho
/-- a drawn book -/
structure Drawn (B : Bk) : Prop where
  ex : ∃ nr nv bs, BInv nr nv bs B ∧ B.recs.length = nr ∧ B.vars.length = nv ∧ 0 < nr ∧ 0 < nv
theorem book_raw {o : Ob} (ho : Rd o) : Wp (F__law_book X__law_take X__law_inside [.ref 0] [o]) (fun d st => ∃ B o' g, d = bookD B ∧ st = [o'] ++ g ∧ Rd o' ∧ Drawn B) NoX := by
  unfold F__law_book
  with_reducible refine wp_def (τ := [some (.ref 0), none, none, none, none, none, none, none]) ?hl ?ht ?_
  case hl => rfl
  case ht => rfl
  unfold d__law_book
  walk_at "w"
  refine take_w ho fun v1 o1 h1 ho1 => ?_
  walk_at "w"
  refine take_w ho1 fun v2 o2 h2 ho2 => ?_
  walk_at "w"
  have a1 := Int.emod_nonneg v1 (b := 3) (by omega)
  have b1 := Int.emod_lt_of_pos v1 (b := 3) (by omega)
  have a2 := Int.emod_nonneg v2 (b := 3) (by omega)
  have b2 := Int.emod_lt_of_pos v2 (b := 3) (by omega)
  obtain ⟨nr, hnr⟩ : ∃ nr : Nat, 1 + v1 % 3 = nr := ⟨(1 + v1 % 3).toNat, by omega⟩
  obtain ⟨nv, hnv⟩ : ∃ nv : Nat, 1 + v2 % 3 = nv := ⟨(1 + v2 % 3).toNat, by omega⟩
  rw [hnr, hnv]
  with_reducible refine wp_forN (P := fun i τ st' => ∃ (bs : List Nm) (B : Bk) (G : Sto) (o' : Ob) (x4 x5 x6 x7 : Option D), LInv nr nv i i bs B ∧ Rd o' ∧ τ = [some (.ref 0), some (.ref 1), some (.ref 2), some (.tup [.ref 3, .ref 4]), x4, x5, x6, x7] ∧ st' = Bst o' nr nv bs B G) ?h0 ?hs ?hq
  case h0 => exact ⟨[], ⟨[], []⟩, [], o2, _, _, _, _, ⟨⟨(fun q h => by cases h), Nat.zero_le _, Nat.zero_le _, Nat.zero_le _, ⟨by omega, by omega⟩, (fun i r h => by simp at h), (fun i r h => by simp at h)⟩, by simp, by simp, by simp⟩, ho2, rfl, rfl⟩
  case hs =>
    rintro i d τ st' hd ⟨bs, B, G, o', x4, x5, x6, x7, hL, ho', rfl, rfl⟩
    obtain ⟨rfl, hi⟩ := rng_ix hd
    rw [Int.zero_add]
    simp only [List.set_cons_succ, List.set_cons_zero]
    with_reducible refine book_l (by omega) (by omega) hL (by omega) ho' ?_
    intro bs B G o2 x5 x6 x7 hL ho2
    walk_at "w"
    exact ⟨bs, B, G, o2, _, _, _, _, hL, ho2, rfl, rfl⟩
  case hq =>
    rintro τ st' ⟨bs, B, G, o', x4, x5, x6, x7, hL, ho', rfl, rfl⟩
    rw [show (rng 0 3).length = 3 from by rw [rng_len]; rfl] at hL
    walk_at "w"
    obtain ⟨hb, g1, g2, _⟩ := hL
    exact ⟨B, o', _, rfl, rfl, ho', ⟨nr, nv, bs, hb, by omega, by omega, by omega, by omega⟩⟩
theorem rd_wf {o : Ob} {n : Nat} (h : Rd o) : o.wf n = true := by
  obtain ⟨row, k, rfl, _, _⟩ := h
  show ((D.lst (row.map .int)).wf n && (true && true)) = true
  rw [pl_wf (d := .lst (row.map .int)) (plDs_all.mpr fun d hd => by obtain ⟨z, _, rfl⟩ := List.mem_map.mp hd; rfl)]
  rfl
theorem book_d {o : Ob} (ho : Rd o) : ∃ B o', trimF (F__law_book X__law_take X__law_inside) [.ref 0] [o] = .ok (bookD B) [o'] ∧ Rd o' ∧ Drawn B := by
  have h : ∃ d st', F__law_book X__law_take X__law_inside [.ref 0] [o] = .ok d st' ∧ ∃ B o' g, d = bookD B ∧ st' = [o'] ++ g ∧ Rd o' ∧ Drawn B := by with_reducible exact wp_ex (book_raw ho)
  obtain ⟨d, st', e, B, o', g, h1, h2, ho', hD⟩ := h
  rw [h1, h2] at e
  refine ⟨B, o', ?_, ho', hD⟩
  have hk : Kept [o] [o'] := ⟨Nat.le_refl _, fun i ob hi => by
    cases i with
    | zero => cases hi; exact .inr (rd_wf ho')
    | succ i => simp at hi⟩
  have hw : (bookD B).wf ([o] : Sto).length = true := pl_wf (pl_book B)
  with_reducible exact trim_val (st' := [o']) e rfl hk hw
/-! ### what is drawn is a book -/
theorem Drawn.ok {B : Bk} (h : Drawn B) : B.ok := by
  obtain ⟨nr, nv, bs, hb, e1, e2, _, _⟩ := h.ex
  have h3 := hb.f3
  subst e1 e2
  refine ⟨by omega, by omega, fun row hr => ?_, fun ts ht => ?_⟩
  · obtain ⟨i, hi, e⟩ := List.getElem_of_mem hr
    obtain ⟨g1, g2⟩ := hb.rr i row (by rw [← e]; exact List.getElem?_eq_getElem hi)
    exact ⟨by omega, fun κ hκ => (g2 κ hκ).1⟩
  · obtain ⟨i, hi, e⟩ := List.getElem_of_mem ht
    obtain ⟨g0, g1, g2⟩ := hb.vv i ts (by rw [← e]; exact List.getElem?_eq_getElem hi)
    exact ⟨g0, by omega, fun row hr => ⟨by have := (g2 row hr).1; omega, fun κ hκ => ((g2 row hr).2 κ hκ).1⟩⟩
theorem Drawn.parts {B : Bk} (h : Drawn B) (row : Row) (hl : row.length ≤ 20) (hk : ∀ κ ∈ row, κ.ok B.recs.length B.vars.length ∧ κ.dep ≤ 3) : partsB B.recs.length B.vars.length (rowD row) = true := by
  show (decide ((row.map kdD).length ≤ 20) && (row.map kdD).all (dataB B.recs.length B.vars.length 12)) = true
  rw [List.length_map, decide_eq_true hl, Bool.true_and, List.all_eq_true]
  intro d hd
  obtain ⟨κ, hκ, rfl⟩ := List.mem_map.mp hd
  obtain ⟨g1, g2⟩ := hk κ hκ
  exact kd_data g1 (by omega)
theorem Drawn.form {B : Bk} (h : Drawn B) : Form (bookD B) := by
  obtain ⟨nr, nv, bs, hb, e1, e2, _, _⟩ := h.ex
  have h3 := hb.f3
  subst e1 e2
  refine ⟨_, _, rfl, shape_iff.mpr ⟨by rw [List.length_map]; omega, by rw [List.length_map]; omega, ?_, ?_⟩⟩
  · rw [List.length_map, List.length_map, List.all_eq_true]
    intro d hd
    obtain ⟨row, hr, rfl⟩ := List.mem_map.mp hd
    obtain ⟨i, hi, e⟩ := List.getElem_of_mem hr
    obtain ⟨g1, g2⟩ := hb.rr i row (by rw [← e]; exact List.getElem?_eq_getElem hi)
    exact h.parts row (by omega) fun κ hκ => ⟨(g2 κ hκ).1, (g2 κ hκ).2.1⟩
  · rw [List.length_map, List.length_map, List.all_eq_true]
    intro d hd
    obtain ⟨ts, ht, rfl⟩ := List.mem_map.mp hd
    obtain ⟨i, hi, e⟩ := List.getElem_of_mem ht
    obtain ⟨g0, g1, g2⟩ := hb.vv i ts (by rw [← e]; exact List.getElem?_eq_getElem hi)
    show (decide (1 ≤ (ts.map rowD).length) && decide ((ts.map rowD).length ≤ 20) && (ts.map rowD).all (partsB B.recs.length B.vars.length)) = true
    rw [List.length_map, decide_eq_true g0, decide_eq_true (show ts.length ≤ 20 by omega), Bool.true_and, Bool.true_and, List.all_eq_true]
    intro d hd
    obtain ⟨row, hr, rfl⟩ := List.mem_map.mp hd
    exact h.parts row (by have := (g2 row hr).1; omega) fun κ hκ => ⟨((g2 row hr).2 κ hκ).1, ((g2 row hr).2 κ hκ).2.1⟩
theorem Drawn.rows {B : Bk} (h : Drawn B) {q : Nm} (hq : B.has q) : rk q ≤ 5 ∧ (B.tags q).length ≤ 3 ∧ (q.1 = false → ∀ row ∈ B.tags q, row.length ≤ 3) ∧ (q.1 = true → ∀ row ∈ B.tags q, row.length ≤ 2) ∧ ∀ row ∈ B.tags q, ∀ κ ∈ row, ∀ q', isNm κ = some q' → rk q' < rk q := by
  obtain ⟨nr, nv, bs, hb, e1, e2, _, _⟩ := h.ex
  have h3 := hb.f3
  obtain ⟨v, n⟩ := q
  cases v with
  | false =>
    have hn : n < B.recs.length := hq
    obtain ⟨row, g1, g2, g3⟩ := idx_rec hn
    obtain ⟨k1, k2⟩ := hb.rr n row g1
    rw [g3]
    refine ⟨by show 2 * n + 0 ≤ 5; omega, by simp, fun _ r hr => ?_, (fun z => by cases z), fun r hr κ hκ q' hq' => ?_⟩
    · rw [List.mem_singleton.mp hr]; exact k1
    · rw [List.mem_singleton.mp hr] at hκ
      exact (k2 κ hκ).2.2 q' hq'
  | true =>
    have hn : n < B.vars.length := hq
    obtain ⟨ts, g1, g2, g3⟩ := idx_var hn
    obtain ⟨k0, k1, k2⟩ := hb.vv n ts g1
    rw [g3]
    exact ⟨by show 2 * n + 1 ≤ 5; omega, k1, (fun z => by cases z), fun _ r hr => (k2 r hr).1, fun r hr κ hκ q' hq' => ((k2 r hr).2 κ hκ).2.2 q' hq'⟩
theorem Drawn.ranked {B : Bk} (h : Drawn B) : Ranked B rk := fun q hq q' ⟨row, hr, hm⟩ => (h.rows hq).2.2.2.2 row hr _ hm q' rfl
def Bd : Nat → Int
  | 0 => 9
  | 1 => 19
  | 2 => 57
  | 3 => 115
  | 4 => 345
  | _ => 691
def Pd : Nat → Int
  | 0 => 3
  | r + 1 => Bd r
theorem bd_le : ∀ r, r ≤ 5 → ∀ j, j < r → Bd j ≤ Pd r := by decide
theorem pd_ge : ∀ r, r ≤ 5 → 3 ≤ Pd r := by decide
theorem bd_top : ∀ r, r ≤ 5 → Bd r ≤ 1000 := by decide
theorem sum_le {zs : List Int} {m : Int} {k : Nat} (hm : 0 ≤ m) (hk : zs.length ≤ k) (h : ∀ z ∈ zs, z ≤ m) : zs.sum ≤ k * m := by
  induction zs generalizing k with
  | nil => rw [List.sum_nil]; exact Int.mul_nonneg (by omega) hm
  | cons z zs ih =>
    rw [List.length_cons] at hk
    obtain ⟨k', rfl⟩ : ∃ k', k = k' + 1 := ⟨k - 1, by omega⟩
    have h1 := h z List.mem_cons_self
    have h2 := ih (k := k') (by omega) fun y hy => h y (List.mem_cons_of_mem _ hy)
    rw [List.sum_cons, show ((k' + 1 : Nat) : Int) * m = (k' : Int) * m + m by rw [Int.natCast_add, Int.add_mul]; simp]
    omega
theorem foldl_max_le : ∀ (zs : List Int) (a m : Int), a ≤ m → (∀ z ∈ zs, z ≤ m) → zs.foldl max a ≤ m
  | [], a, m, h, _ => h
  | z :: zs, a, m, h, hz => foldl_max_le zs (max a z) m (by have := hz z List.mem_cons_self; omega) fun y hy => hz y (List.mem_cons_of_mem _ hy)
theorem maxI_le {zs : List Int} {m : Int} (hm : 0 ≤ m) (h : ∀ z ∈ zs, z ≤ m) : maxI zs ≤ m := by
  cases zs with
  | nil => exact hm
  | cons z zs => exact foldl_max_le zs z m (h z List.mem_cons_self) fun y hy => h y (List.mem_cons_of_mem _ hy)
theorem Drawn.size {B : Bk} (h : Drawn B) {S : Nm → Int} (hS : SizeOf B S) : ∀ (r : Nat) (q : Nm), B.has q → rk q = r → S q ≤ Bd r := by
  intro r
  induction r using Nat.strongRecOn with
  | ind r ih =>
    intro q hq hr
    obtain ⟨h5, hl, hf, ht, he⟩ := h.rows hq
    have hpd : 3 ≤ Pd r := pd_ge r (by omega)
    have hfl : ∀ row ∈ B.tags q, ∀ κ ∈ row, flS S κ ≤ Pd r := fun row hrow κ hκ => by
      cases κ with
      | nm v n =>
        have hlt := he row hrow _ hκ (v, n) rfl
        have h1 := ih (rk (v, n)) (by omega) (v, n) ((Bk.tags_mem h.ok hq hrow).2 _ hκ) rfl
        have h2 := bd_le r (by omega) (rk (v, n)) (by omega)
        exact Int.le_trans h1 h2
      | int => exact Int.le_trans (show (1 : Int) ≤ 3 by decide) hpd
      | bool => exact Int.le_trans (show (1 : Int) ≤ 3 by decide) hpd
      | box k => exact Int.le_trans (show (1 : Int) ≤ 3 by decide) hpd
      | vec k => exact hpd
    rw [hS.eq q hq]
    obtain ⟨v, n⟩ := q
    cases v with
    | false =>
      have hn : n < B.recs.length := hq
      obtain ⟨row, g1, g2, g3⟩ := idx_rec hn
      rw [g3] at hf hfl ⊢
      have hsum : rowS S row ≤ ((3 : Nat) : Int) * Pd r := sum_le (by omega) (by rw [List.length_map]; exact hf rfl row (by simp)) fun z hz => by
        obtain ⟨κ, hκ, rfl⟩ := List.mem_map.mp hz
        exact hfl row (by simp) κ hκ
      show rowS S row ≤ Bd r
      have hr2 : r = 2 * n := by rw [← hr]; rfl
      have : ((3 : Nat) : Int) * Pd r ≤ Bd r := by
        have h5 : 2 * n + 0 ≤ 5 := h5
        have hn3 : n = 0 ∨ n = 1 ∨ n = 2 := by omega
        rcases hn3 with rfl | rfl | rfl <;> subst hr2 <;> decide
      omega
    | true =>
      have hm : maxI ((B.tags (true, n)).map (rowS S)) ≤ ((2 : Nat) : Int) * Pd r := maxI_le (Int.mul_nonneg (by omega) (by omega)) fun z hz => by
        obtain ⟨row, hrow, rfl⟩ := List.mem_map.mp hz
        exact sum_le (by omega) (by rw [List.length_map]; exact ht rfl row hrow) fun z hz => by
          obtain ⟨κ, hκ, rfl⟩ := List.mem_map.mp hz
          exact hfl row hrow κ hκ
      show 1 + maxI ((B.tags (true, n)).map (rowS S)) ≤ Bd r
      have hr2 : r = 2 * n + 1 := by rw [← hr]; rfl
      have : 1 + ((2 : Nat) : Int) * Pd r ≤ Bd r := by
        have h5 : 2 * n + 1 ≤ 5 := h5
        have hn3 : n = 0 ∨ n = 1 ∨ n = 2 := by omega
        rcases hn3 with rfl | rfl | rfl <;> subst hr2 <;> decide
      omega
theorem Drawn.isb {B : Bk} (h : Drawn B) : isbB B = true := by
  obtain ⟨S, hS⟩ := size_ex h.ok h.ranked
  rw [isb_size h.ok hS h.ranked, List.all_eq_true]
  intro q hq
  have hq2 := Bk.mem_all.mp hq
  have h1 := h.size hS (rk q) q hq2 rfl
  have h5 := (h.rows hq2).1
  have : Bd (rk q) ≤ 1000 := bd_top _ h5
  rw [decide_eq_true_eq]
  omega
end

section

local macro_rules | `(tactic| walk_at "x1") => `(tactic| first | (with_reducible refine isi_tup ?_) | (with_reducible refine isi_int ?_) | (with_reducible refine isi_nbl ?_) | (with_reducible refine isi_bl ?_) | (with_reducible refine isi_str ?_) | (with_reducible refine wq_lent ?_) | (with_reducible refine wq_lenl ?_) | (with_reducible refine wq_listt ?_))
/-! ### things, spoilt ones -/
mutual
def wdD : D → Nat
  | .tup ds => max ds.length (wdDs ds)
  | _ => 0
def wdDs : List D → Nat
  | [] => 0
  | d :: ds => max (wdD d) (wdDs ds)
end
theorem wdDs_all {ds : List D} {n : Nat} : wdDs ds ≤ n ↔ ∀ d ∈ ds, wdD d ≤ n := by
  induction ds with
  | nil => exact ⟨fun _ _ h => (List.not_mem_nil h).elim, fun _ => Nat.zero_le _⟩
  | cons d ds ih =>
    show max (wdD d) (wdDs ds) ≤ n ↔ _
    rw [Nat.max_le, ih]
    simp
structure Sp (p w : Nat) (d : D) : Prop where
  pl : plD d = true
  dp : dpD d ≤ p
  wd : wdD d ≤ w
theorem Sp.mono {p w p' w' : Nat} {d : D} (h : Sp p w d) (hp : p ≤ p') (hw : w ≤ w') : Sp p' w' d := ⟨h.pl, by have := h.dp; omega, by have := h.wd; omega⟩
theorem Sp.tup {p w : Nat} {ds : List D} (hl : ds.length ≤ w) (h : ∀ d ∈ ds, Sp p w d) : Sp (p + 1) w (.tup ds) :=
  ⟨plDs_all.mpr fun d hd => (h d hd).pl, Nat.succ_le_succ (dpDs_all.mpr fun d hd => (h d hd).dp), Nat.max_le.mpr ⟨hl, wdDs_all.mpr fun d hd => (h d hd).wd⟩⟩
theorem Sp.inv {p w : Nat} {ds : List D} (h : Sp p w (.tup ds)) : ∃ p', p = p' + 1 ∧ ds.length ≤ w ∧ ∀ d ∈ ds, Sp p' w d := by
  have h1 : dpDs ds + 1 ≤ p := h.dp
  obtain ⟨h2, h3⟩ := Nat.max_le.mp (show max ds.length (wdDs ds) ≤ w from h.wd)
  refine ⟨p - 1, by omega, h2, fun d hd => ⟨pl_tup h.pl d hd, ?_, wdDs_all.mp h3 d hd⟩⟩
  have := dpDs_all.mp (show dpDs ds ≤ p - 1 by omega) d hd
  exact this
theorem cutL_sub {α : Type} {xs : List α} {lo hi : Option Int} : (cutL xs lo hi).length ≤ xs.length ∧ ∀ x ∈ cutL xs lo hi, x ∈ xs := by
  unfold cutL
  exact ⟨by rw [List.length_take, List.length_drop]; omega, fun x hx => List.mem_of_mem_drop (List.mem_of_mem_take hx)⟩
theorem wq_cutT {ds : List D} {lo hi : Option Int} {st : Sto} {Q : D → Sto → Prop} {E : Exn → Sto → Prop} (q : Q (.tup (cutL ds lo hi)) st) : Wp (dCut (.tup ds) lo hi st) Q E := q
theorem wq_repT {ds : List D} {k : Int} {st : Sto} {Q : D → Sto → Prop} {E : Exn → Sto → Prop} (h : ds ≠ []) (h1 : 1 ≤ k) (h2 : k ≤ 16777216) (h3 : k.toNat * ds.length ≤ 16777216) (q : Q (.tup (List.replicate k.toNat ds).flatten) st) : Wp (dRepT (.tup ds) (.int k) st) Q E := by
  unfold dRepT
  dsimp only
  rw [if_pos ⟨h, h1, h2, h3⟩]
  exact q
theorem rep_mem {α : Type} {n : Nat} {ds : List α} : ((List.replicate n ds).flatten).length = n * ds.length ∧ ∀ x ∈ (List.replicate n ds).flatten, x ∈ ds := by
  refine ⟨?_, fun x hx => ?_⟩
  · induction n with
    | zero => simp
    | succ n ih => rw [List.replicate_succ, List.flatten_cons, List.length_append, ih, Nat.succ_mul]; omega
  · obtain ⟨l, h1, h2⟩ := List.mem_flatten.mp hx
    rw [(List.mem_replicate.mp h1).2] at h2
    exact h2
end

section

local macro_rules | `(tactic| walk_at "x1") => `(tactic| first | (with_reducible refine isi_tup ?_) | (with_reducible refine isi_int ?_) | (with_reducible refine isi_nbl ?_) | (with_reducible refine isi_bl ?_) | (with_reducible refine isi_str ?_) | (with_reducible refine wq_lent ?_) | (with_reducible refine wq_lenl ?_) | (with_reducible refine wq_listt ?_))
/-! ### deep kinds; great records -/
theorem Sp.str {p w : Nat} {s : Str} (h : PyData.strOk s = true) : Sp p w (.str s) := ⟨h, Nat.zero_le _, Nat.zero_le _⟩
theorem Sp.int {p w : Nat} {i : Int} : Sp p w (.int i) := ⟨rfl, Nat.zero_le _, Nat.zero_le _⟩
theorem Sp.pair {p w : Nat} {x y : D} (hw : 2 ≤ w) (hx : Sp p w x) (hy : Sp p w y) : Sp (p + 1) w (.tup [x, y]) := Sp.tup (by simpa using hw) fun d hd => by
  simp only [List.mem_cons, List.not_mem_nil, or_false] at hd
  rcases hd with rfl | rfl
  · exact hx
  · exact hy
theorem Sp.one {p w : Nat} {x : D} (hw : 1 ≤ w) (hx : Sp p w x) : Sp (p + 1) w (.tup [x]) := Sp.tup (by simpa using hw) fun d hd => by
  rw [List.mem_singleton.mp hd]; exact hx
theorem ok_word : ∀ s ∈ (["int", "bool", "box", "vec", "ref", "mut", "record", "variant"] : List Str), PyData.strOk s = true := by decide +kernel
end

section

local macro_rules | `(tactic| walk_at "x1") => `(tactic| first | (with_reducible refine isi_tup ?_) | (with_reducible refine isi_int ?_) | (with_reducible refine isi_nbl ?_) | (with_reducible refine isi_bl ?_) | (with_reducible refine isi_str ?_) | (with_reducible refine wq_lent ?_) | (with_reducible refine wq_lenl ?_) | (with_reducible refine wq_listt ?_))
/-! ### the law -/
theorem sp_kd : ∀ κ : Kd, Sp (κ.dep + 1) 2 (kdD κ)
  | .int => Sp.one (by omega) (Sp.str (ok_word _ (by decide)))
  | .bool => Sp.one (by omega) (Sp.str (ok_word _ (by decide)))
  | .box k => Sp.pair (p := k.dep + 1) (by omega) (Sp.str (ok_word _ (by decide))) (sp_kd k)
  | .vec k => Sp.pair (p := k.dep + 1) (by omega) (Sp.str (ok_word _ (by decide))) (sp_kd k)
  | .nm false n => Sp.pair (p := 0) (by omega) (Sp.str (ok_word "record" (by decide))) Sp.int
  | .nm true n => Sp.pair (p := 0) (by omega) (Sp.str (ok_word "variant" (by decide))) Sp.int
theorem Drawn.sp {B : Bk} (h : Drawn B) : Sp 8 3 (bookD B) := by
  obtain ⟨nr, nv, bs, hb, e1, e2, _, _⟩ := h.ex
  have h3 := hb.f3
  have row : ∀ (r : Row) (l : Nat), r.length ≤ l → l ≤ 3 → (∀ κ ∈ r, κ.dep ≤ 3) → Sp 5 3 (rowD r) := fun r l h1 h2 hd => Sp.tup (by rw [List.length_map]; omega) fun d hd' => by
    obtain ⟨κ, hκ, rfl⟩ := List.mem_map.mp hd'
    have := hd κ hκ
    exact (sp_kd κ).mono (by omega) (by omega)
  have hr : Sp 6 3 (.tup (B.recs.map rowD)) := Sp.tup (by rw [List.length_map]; omega) fun d hd => by
    obtain ⟨r, hr, rfl⟩ := List.mem_map.mp hd
    obtain ⟨i, hi, e⟩ := List.getElem_of_mem hr
    obtain ⟨g1, g2⟩ := hb.rr i r (by rw [← e]; exact List.getElem?_eq_getElem hi)
    exact row r 3 g1 (by omega) fun κ hκ => (g2 κ hκ).2.1
  have hv : Sp 7 3 (.tup (B.vars.map tagsD)) := Sp.tup (by rw [List.length_map]; omega) fun d hd => by
    obtain ⟨ts, ht, rfl⟩ := List.mem_map.mp hd
    obtain ⟨i, hi, e⟩ := List.getElem_of_mem ht
    obtain ⟨g0, g1, g2⟩ := hb.vv i ts (by rw [← e]; exact List.getElem?_eq_getElem hi)
    exact Sp.tup (by rw [List.length_map]; omega) fun d hd => by
      obtain ⟨r, hr, rfl⟩ := List.mem_map.mp hd
      exact row r 2 (g2 r hr).1 (by omega) fun κ hκ => ((g2 r hr).2 κ hκ).2.1
  exact Sp.pair (by omega) (hr.mono (by omega) (Nat.le_refl _)) hv
end

section

/-! ### sizes and places -/
theorem cutL_to {α : Type} {xs : List α} {k : Nat} (h : k ≤ xs.length) : cutL xs none (some (k : Int)) = xs.take k := by
  unfold cutL
  have e1 : HT.sIx xs.length 0 none = 0 := rfl
  have e2 : HT.sIx xs.length xs.length (some (k : Int)) = k := by
    unfold HT.sIx
    dsimp only
    split <;> omega
  rw [e1, e2, Nat.sub_zero, List.drop_zero]
theorem row_ok {B : Bk} (hB : B.ok) {S : Nm → Int} {ρ : Nm → Nat} (hS : SizeOf B S) (hρ : Ranked B ρ) {row : Row} (hk : ∀ κ ∈ row, κ.ok B.recs.length B.vars.length) : ∃ kn, rowF (namedF B 81) row [] = some (rowS S row, kn) := by
  have hall : B.all.length ≤ 80 := by have := hB.nr; have := hB.nv; rw [Bk.all_len]; omega
  have h0 : Kok B [] := ⟨List.nodup_nil, fun p hp => by cases hp⟩
  obtain ⟨zs, kn, t1, _⟩ := thread_tot (f := flatF (namedF B 81)) (P := fun kn2 => Kok B kn2) (as := row) (kn := []) (fun κ hκ kn2 s1 => by
    have hok := hk κ hκ
    cases κ with
    | nm v n =>
      obtain ⟨r, kn3, u1, u2, u3⟩ := named_tot hB 81 (v, n) kn2 hok s1 (by omega)
      exact ⟨r, kn3, u1, u2⟩
    | _ => exact ⟨_, kn2, rfl, s1⟩) h0
  obtain ⟨_, g2⟩ := thread_inv (P := fun kn2 => ∀ p i, valD kn2 p = some i → i = S p) (Rr := fun κ z => z = flS S κ) (fun κ hκ kn5 y kn6 hp5 hf => by
    cases κ with
    | nm v n =>
      obtain ⟨a1, a2⟩ := named_ok hB hS hρ 81 (v, n) kn5 y kn6 (hk _ hκ) (fun p i hpi => .inl (hp5 p i hpi)) hf
      refine ⟨fun p i hpi => ?_, a1⟩
      rcases a2 p i hpi with h | h
      · exact h
      · exact hp5 p i h
    | _ => cases hf; exact ⟨hp5, rfl⟩) (fun p i h => by cases h) t1
  have := g2.map_eq
  subst this
  refine ⟨kn, ?_⟩
  unfold rowF
  rw [t1]
  dsimp only
  unfold rowR rowS
  rw [if_neg]
  intro hm
  obtain ⟨κ, _, hκ⟩ := List.mem_map.mp hm
  have : 0 ≤ flS S κ := flS_nn hS.nn κ
  omega
theorem kind_ok {B : Bk} (hB : B.ok) {S : Nm → Int} {ρ : Nm → Nat} (hS : SizeOf B S) (hρ : Ranked B ρ) {κ : Kd} (hk : κ.ok B.recs.length B.vars.length) : ∃ kn, flatF (namedF B 81) κ [] = some (flS S κ, kn) := by
  have hall : B.all.length ≤ 80 := by have := hB.nr; have := hB.nv; rw [Bk.all_len]; omega
  have h0 : Kok B [] := ⟨List.nodup_nil, fun p hp => by cases hp⟩
  cases κ with
  | nm v n =>
    obtain ⟨r, kn3, u1, u2, u3⟩ := named_tot hB 81 (v, n) [] hk h0 (by simp; omega)
    obtain ⟨a1, a2⟩ := named_ok hB hS hρ 81 (v, n) [] r kn3 hk (fun p i h => by cases h) u1
    subst a1
    exact ⟨kn3, u1⟩
  | _ => exact ⟨[], rfl⟩
theorem size_w {B : Bk} (hB : B.ok) {S : Nm → Int} {ρ : Nm → Nat} (hS : SizeOf B S) (hρ : Ranked B ρ) {κ : Kd} (hk : κ.ok B.recs.length B.vars.length) {st : Sto} : X_size_of [bookD B, kdD κ] st = .ok (.int (flS S κ)) st := by
  obtain ⟨kn, e⟩ := kind_ok hB hS hρ hk
  have h2 := flat_w (st0 := st ++ [.dT []]) (m := st.length) (N := 259) (named_w hB (by simp) 81 259 (by omega)) κ [] _ kn hk e
  rw [Ks_nil, Ks_last] at h2
  refine trim_val (g := [.dT (encK kn)]) (wp_eq ?_) rfl (Kept.refl _) rfl
  unfold F_size_of
  walk_at "def"
  unfold d_size_of
  walk_at "w"
  exact wp_of h2 ⟨rfl, rfl⟩
theorem size1_w {b x : D} {s : Str} (hs : s ∈ yk_SIZES) (h1 : valD k_SIZES (.inr s) = some (.int 1)) {st : Sto} : X_size_of [b, .tup [.str s, x]] st = .ok (.int 1) st := by
  have h2 : ∀ (st : Sto) (k : Nat), R_flat_size (259 + 1) [b, .tup [.str s, x], .ref k] st = .ok (.int 1) st := fun st k => by
    rw [R_flat_size_succ]
    refine wp_eq ?_
    unfold F_flat_size
    walk_at "def"
    unfold d_flat_size
    walk_at "w"
    refine in_tab (s := "") ?_
    walk_at "w"
    refine ⟨_, rfl, .inl ⟨hs, ?_⟩⟩
    walk_at "w"
    refine tabK_mk h1 ?_
    walk_at "w"
    exact ⟨rfl, rfl⟩
  refine trim_val (g := [.dT []]) (wp_eq ?_) rfl (Kept.refl _) rfl
  unfold F_size_of
  walk_at "def"
  unfold d_size_of
  walk_at "w"
  exact wp_of (h2 _ _) ⟨rfl, rfl⟩
theorem wq_cutTo {ds : List D} {k : Nat} {st : Sto} {Q : D → Sto → Prop} {E : Exn → Sto → Prop} (h : k ≤ ds.length) (q : Q (.tup (ds.take k)) st) : Wp (dCut (.tup ds) none (some (k : Int)) st) Q E := by
  have e : dCut (.tup ds) none (some (k : Int)) st = .ok (.tup (ds.take k)) st := by
    show DL.R.ok (D.tup (cutL ds none (some (k : Int)))) st = _
    rw [cutL_to h]
  rw [e]; exact q
theorem sum_at {B : Bk} (hB : B.ok) {S : Nm → Int} {ρ : Nm → Nat} (hS : SizeOf B S) (hρ : Ranked B ρ) {row : Row} (hl : row.length ≤ 20) (hk : ∀ κ ∈ row, κ.ok B.recs.length B.vars.length) (st : Sto) :
    ∃ g, X_sum_of_sizes [bookD B, rowD row, .ref st.length] (st ++ [.dT []]) = .ok (.int (rowS S row)) (st ++ g) := by
  obtain ⟨kn, e⟩ := row_ok hB hS hρ hk
  have h2 := sum_w (st0 := st ++ [.dT []]) (m := st.length) (N := 258) (named_w hB (by simp) 81 258 (by omega)) row [] _ kn hl hk e
  rw [Ks_nil, Ks_last] at h2
  exact ⟨_, h2⟩
theorem field_w {B : Bk} (hB : B.ok) {S : Nm → Int} {ρ : Nm → Nat} (hS : SizeOf B S) (hρ : Ranked B ρ) {n i : Nat} {row : Row} (hn : B.recs[n]? = some row) (hi : i ≤ row.length) {st : Sto} :
    X_field_place [bookD B, .int n, .int i] st = .ok (.int (rowS S (row.take i))) st := by
  obtain ⟨l1, l2⟩ := hB.r row (List.mem_of_getElem? hn)
  obtain ⟨g, h2⟩ := sum_at hB hS hρ (row := row.take i) (by rw [List.length_take]; omega) (fun κ h => l2 κ (List.mem_of_mem_take h)) st
  have eb : bookD B = .tup [.tup (B.recs.map rowD), .tup (B.vars.map tagsD)] := rfl
  refine trim_val (g := g) (wp_eq ?_) rfl (Kept.refl _) rfl
  rw [eb] at *
  unfold F_field_place
  walk_at "def"
  unfold d_field_place
  walk_at "w"
  refine wq_ixt (ix_row (by rw [List.getElem?_map, hn]; rfl)) ?_
  unfold rowD at *
  walk_at "w"
  refine wq_cutTo (by rw [List.length_map]; exact hi) ?_
  rw [← List.map_take]
  walk_at "w"
  exact wp_of h2 ⟨rfl, rfl⟩
theorem part_w {B : Bk} (hB : B.ok) {S : Nm → Int} {ρ : Nm → Nat} (hS : SizeOf B S) (hρ : Ranked B ρ) {n t i : Nat} {ts : List Row} {row : Row} (hn : B.vars[n]? = some ts) (ht : ts[t]? = some row) (hi : i ≤ row.length) {st : Sto} :
    X_part_place [bookD B, .int n, .int t, .int i] st = .ok (.int (1 + rowS S (row.take i))) st := by
  obtain ⟨_, _, l0⟩ := hB.v ts (List.mem_of_getElem? hn)
  obtain ⟨l1, l2⟩ := l0 row (List.mem_of_getElem? ht)
  obtain ⟨g, h2⟩ := sum_at hB hS hρ (row := row.take i) (by rw [List.length_take]; omega) (fun κ h => l2 κ (List.mem_of_mem_take h)) st
  have eb : bookD B = .tup [.tup (B.recs.map rowD), .tup (B.vars.map tagsD)] := rfl
  refine trim_val (g := g) (wp_eq ?_) rfl (Kept.refl _) rfl
  rw [eb] at *
  unfold F_part_place
  walk_at "def"
  unfold d_part_place
  walk_at "w"
  refine wq_ixt (ix_row (by rw [List.getElem?_map, hn]; rfl)) ?_
  unfold tagsD at *
  walk_at "w"
  refine wq_ixt (ix_row (by rw [List.getElem?_map, ht]; rfl)) ?_
  unfold rowD at *
  walk_at "w"
  refine wq_cutTo (by rw [List.length_map]; exact hi) ?_
  rw [← List.map_take]
  walk_at "w"
  refine wp_of h2 ?_
  walk_at "w"
  exact ⟨rfl, rfl⟩
end

section

/-! ### all places -/
theorem places_w {B : Bk} (hB : B.ok) {S : Nm → Int} {cF cP cL : DF}
    (hF : ∀ (n i : Nat) (row : Row), B.recs[n]? = some row → i ≤ row.length → ∀ st, cF [bookD B, .int n, .int i] st = .ok (.int (rowS S (row.take i))) st)
    (hP : ∀ (n t i : Nat) (ts : List Row) (row : Row), B.vars[n]? = some ts → ts[t]? = some row → i ≤ row.length → ∀ st, cP [bookD B, .int n, .int t, .int i] st = .ok (.int (1 + rowS S (row.take i))) st)
    (hL : ∀ (κ : Kd), κ.ok B.recs.length B.vars.length → ∀ st, cL [bookD B, kdD κ] st = .ok (.int (flS S κ)) st) {st : Sto} : F__law_places_right cF cL cP [bookD B] st = .ok (.bl true) st := by
  have hnr := hB.nr
  have hnv := hB.nv
  have eb : bookD B = .tup [.tup (B.recs.map rowD), .tup (B.vars.map tagsD)] := rfl
  refine wp_eq ?_
  unfold F__law_places_right
  with_reducible refine wp_def (τ := [some (bookD B), none, none, none, none, none]) ?hl ?ht ?_
  case hl => rfl
  case ht => rfl
  unfold d__law_places_right
  rw [eb]
  walk_at "w"
  with_reducible refine wp_forN (P := fun i τ st' => ∃ (x1 x2 x3 x4 x5 : Option D), τ = [some (.tup [.tup (B.recs.map rowD), .tup (B.vars.map tagsD)]), x1, x2, x3, x4, x5] ∧ st' = st) ?h0 ?hs ?hq
  case h0 => exact ⟨_, _, _, _, _, rfl, rfl⟩
  case hs =>
    rintro n d τ st' hd ⟨x1, x2, x3, x4, x5, rfl, rfl⟩
    obtain ⟨hd, hn⟩ := rng_ix hd; rw [Int.zero_add] at hd
    rw [List.length_map] at hn
    obtain ⟨row, hr⟩ : ∃ row, B.recs[n]? = some row := ⟨_, List.getElem?_eq_getElem (by omega)⟩
    obtain ⟨l1, l2⟩ := hB.r row (List.mem_of_getElem? hr)
    subst hd
    simp only [List.set_cons_succ, List.set_cons_zero]
    unfold d__law_places_right_L2
    walk_at "w"
    refine wq_ixt (ix_row (by rw [List.getElem?_map, hr]; rfl)) ?_
    unfold rowD
    walk_at "w"
    rw [← show rowD = (fun r : Row => D.tup (r.map kdD)) from rfl]
    with_reducible refine wp_forN (P := fun i τ st'' => ∃ (x2 x3 x4 x5 : Option D), τ = [some (.tup [.tup (B.recs.map rowD), .tup (B.vars.map tagsD)]), some (.int n), x2, x3, x4, x5] ∧ st'' = st') ?h02 ?hs2 ?hq2
    case h02 => exact ⟨_, _, _, _, rfl, rfl⟩
    case hs2 =>
      rintro i d τ st' hd ⟨x2, x3, x4, x5, rfl, rfl⟩
      obtain ⟨hd, hi⟩ := rng_ix hd; rw [Int.zero_add] at hd
      rw [List.length_map] at hi
      subst hd
      simp only [List.set_cons_succ, List.set_cons_zero]
      unfold d__law_places_right_L1
      walk_at "w"
      rw [← eb]
      with_reducible refine wp_of (hF n i row hr (by omega) _) ?_
      rw [eb]
      walk_at "w"
      with_reducible refine wp_comp (σ := [some (.tup [.tup (B.recs.map rowD), .tup (B.vars.map tagsD)]), some (.int n), some (.int i), none, x4, x5]) ?hw ?_
      case hw => exact rfl
      walk_at "w"
      refine wq_ixt (ix_row (by rw [List.getElem?_map, hr]; rfl)) ?_
      unfold rowD
      walk_at "w"
      refine wq_cutTo (by rw [List.length_map]; omega) ?_
      rw [← List.map_take]
      rw [← show rowD = (fun r : Row => D.tup (r.map kdD)) from rfl]
      walk_at "w"
      refine wp_pureA kdD (fun κ => [some (.tup [.tup (B.recs.map rowD), .tup (B.vars.map tagsD)]), some (.int n), some (.int i), some (kdD κ), x4, x5]) (fun κ => .int (flS S κ)) (fun κ _ => rfl) (fun κ hκ => ?_) (by rw [List.length_take]; omega) ?_
      · refine wp_eq ?_
        unfold d__law_places_right_C1
        walk_at "w"
        rw [← eb]
        exact wp_of (hL κ (l2 κ (List.mem_of_mem_take hκ)) _) ⟨rfl, rfl⟩
      · walk_at "w"
        have := ints_map ((row.take i).map (flS S))
        rw [List.map_map] at this
        refine wq_sum this ?_
        walk_at "w"
        refine if_ndec (fun h => absurd rfl h) (fun _ => ?_)
        walk_at "w"
        exact ⟨_, _, _, _, rfl, rfl⟩
    case hq2 =>
      rintro τ st'' ⟨x2, x3, x4, x5, rfl, rfl⟩
      walk_at "w"
      exact ⟨_, _, _, _, _, rfl, rfl⟩
  case hq =>
    rintro τ st' ⟨x1, x2, x3, x4, x5, rfl, rfl⟩
    walk_at "w"
    with_reducible refine wp_forN (P := fun i τ st'' => ∃ (x1 x2 x3 x4 x5 : Option D), τ = [some (.tup [.tup (B.recs.map rowD), .tup (B.vars.map tagsD)]), x1, x2, x3, x4, x5] ∧ st'' = st') ?h03 ?hs3 ?hq3
    case h03 => exact ⟨_, _, _, _, _, rfl, rfl⟩
    case hq3 =>
      rintro τ st'' ⟨x1, x2, x3, x4, x5, rfl, rfl⟩
      walk_at "w"
      exact ⟨rfl, rfl⟩
    case hs3 =>
      rintro n d τ st'' hd ⟨x1, x2, x3, x4, x5, rfl, rfl⟩
      obtain ⟨hd, hn⟩ := rng_ix hd; rw [Int.zero_add] at hd
      rw [List.length_map] at hn
      obtain ⟨ts, ht⟩ : ∃ ts, B.vars[n]? = some ts := ⟨_, List.getElem?_eq_getElem (by omega)⟩
      obtain ⟨l0, l1, l2⟩ := hB.v ts (List.mem_of_getElem? ht)
      subst hd
      simp only [List.set_cons_succ, List.set_cons_zero]
      unfold d__law_places_right_L5
      walk_at "w"
      refine wq_ixt (ix_row (by rw [List.getElem?_map, ht]; rfl)) ?_
      unfold tagsD
      walk_at "w"
      rw [← show tagsD = (fun ts : List Row => D.tup (ts.map rowD)) from rfl]
      with_reducible refine wp_forN (P := fun i τ st3 => ∃ (x2 x3 x4 x5 : Option D), τ = [some (.tup [.tup (B.recs.map rowD), .tup (B.vars.map tagsD)]), some (.int n), x2, x3, x4, x5] ∧ st3 = st'') ?h04 ?hs4 ?hq4
      case h04 => exact ⟨_, _, _, _, rfl, rfl⟩
      case hq4 =>
        rintro τ st3 ⟨x2, x3, x4, x5, rfl, rfl⟩
        walk_at "w"
        exact ⟨_, _, _, _, _, rfl, rfl⟩
      case hs4 =>
        rintro t d τ st3 hd ⟨x2, x3, x4, x5, rfl, rfl⟩
        obtain ⟨hd, hti⟩ := rng_ix hd; rw [Int.zero_add] at hd
        rw [List.length_map] at hti
        obtain ⟨row, hr⟩ : ∃ row, ts[t]? = some row := ⟨_, List.getElem?_eq_getElem (by omega)⟩
        obtain ⟨g1, g2⟩ := l2 row (List.mem_of_getElem? hr)
        subst hd
        simp only [List.set_cons_succ, List.set_cons_zero]
        unfold d__law_places_right_L4
        walk_at "w"
        refine wq_ixt (ix_row (by rw [List.getElem?_map, ht]; rfl)) ?_
        unfold tagsD
        walk_at "w"
        rw [← show tagsD = (fun ts : List Row => D.tup (ts.map rowD)) from rfl]
        refine wq_ixt (ix_row (by rw [List.getElem?_map, hr]; rfl)) ?_
        unfold rowD
        walk_at "w"
        rw [← show rowD = (fun r : Row => D.tup (r.map kdD)) from rfl]
        with_reducible refine wp_forN (P := fun i τ st4 => ∃ (x2 x3 : Option D), τ = [some (.tup [.tup (B.recs.map rowD), .tup (B.vars.map tagsD)]), some (.int n), x2, x3, some (.int t), some (.tup (row.map kdD))] ∧ st4 = st3) ?h05 ?hs5 ?hq5
        case h05 => exact ⟨_, _, rfl, rfl⟩
        case hq5 =>
          rintro τ st4 ⟨x2, x3, rfl, rfl⟩
          walk_at "w"
          exact ⟨_, _, _, _, rfl, rfl⟩
        case hs5 =>
          rintro i d τ st4 hd ⟨x2, x3, rfl, rfl⟩
          obtain ⟨hd, hi⟩ := rng_ix hd; rw [Int.zero_add] at hd
          rw [List.length_map] at hi
          subst hd
          simp only [List.set_cons_succ, List.set_cons_zero]
          unfold d__law_places_right_L3
          walk_at "w"
          rw [← eb]
          with_reducible refine wp_of (hP n t i ts row ht hr (by omega) _) ?_
          rw [eb]
          walk_at "w"
          with_reducible refine wp_comp (σ := [some (.tup [.tup (B.recs.map rowD), .tup (B.vars.map tagsD)]), some (.int n), some (.int i), none, some (.int t), some (.tup (row.map kdD))]) ?hw3 ?_
          case hw3 => exact rfl
          walk_at "w"
          refine wq_cutTo (by rw [List.length_map]; omega) ?_
          rw [← List.map_take]
          walk_at "w"
          refine wp_pureA kdD (fun κ => [some (.tup [.tup (B.recs.map rowD), .tup (B.vars.map tagsD)]), some (.int n), some (.int i), some (kdD κ), some (.int t), some (.tup (row.map kdD))]) (fun κ => .int (flS S κ)) (fun κ _ => rfl) (fun κ hκ => ?_) (by rw [List.length_take]; omega) ?_
          · refine wp_eq ?_
            unfold d__law_places_right_C2
            walk_at "w"
            rw [← eb]
            exact wp_of (hL κ (g2 κ (List.mem_of_mem_take hκ)) _) ⟨rfl, rfl⟩
          · walk_at "w"
            have := ints_map ((row.take i).map (flS S))
            rw [List.map_map] at this
            refine wq_sum this ?_
            walk_at "w"
            refine if_ndec (fun h => absurd rfl h) (fun _ => ?_)
            walk_at "w"
            exact ⟨_, _, rfl, rfl⟩
theorem flatX_w {B : Bk} (hB : B.ok) {S : Nm → Int} {ρ : Nm → Nat} (hS : SizeOf B S) (hρ : Ranked B ρ) (hr : ∀ q, B.has q → ρ q ≤ 80) (κ : Kd) (hk : κ.ok B.recs.length B.vars.length) (st : Sto) : X__law_flat [bookD B, kdD κ] st = .ok (.int (flS S κ)) st :=
  flatL_w hB hS hρ 90 κ hk (by omega) fun v n e => by
    subst e
    have := hr (v, n) hk
    omega
theorem placesX_w {B : Bk} (hB : B.ok) {S : Nm → Int} {ρ : Nm → Nat} (hS : SizeOf B S) (hρ : Ranked B ρ) (hr : ∀ q, B.has q → ρ q ≤ 80) {st : Sto} : X__law_places_right [bookD B] st = .ok (.bl true) st :=
  places_w hB (fun _ _ _ h1 h2 _ => field_w hB hS hρ h1 h2) (fun _ _ _ _ _ h1 h2 h3 _ => part_w hB hS hρ h1 h2 h3) (flatX_w hB hS hρ hr)
end

section

local macro_rules | `(tactic| walk_at "x1") => `(tactic| first | (with_reducible refine isi_tup ?_) | (with_reducible refine isi_int ?_) | (with_reducible refine isi_nbl ?_) | (with_reducible refine isi_bl ?_) | (with_reducible refine isi_str ?_) | (with_reducible refine wq_lent ?_) | (with_reducible refine wq_lenl ?_) | (with_reducible refine wq_listt ?_))
/-! ### spoilt values -/
def things : List D := [.non, .bl true, .bl false, .int (-1), .int 0, .int 5, .int 4294967296, .str "box", .tup [], .tup [.str "box", .int 1], .tup [.str "vec", .tup []], .tup [.str "record", .tup []], .tup [.str "variant", .int 0, .tup []], .tup [.str "variant", .int 9, .tup []]]
theorem things_ok : things.all (fun d => plD d && decide (dpD d ≤ 2) && decide (wdD d ≤ 3)) = true := by decide +kernel
theorem thing_sp {d : D} (hd : d ∈ things) : Sp 2 3 d := by
  have h := List.all_eq_true.mp things_ok d hd
  rw [Bool.and_eq_true_iff, Bool.and_eq_true_iff, decide_eq_true_eq, decide_eq_true_eq] at h
  exact ⟨h.1.1, h.1.2, h.2⟩
theorem spoilt_w : ∀ (N k p w : Nat) (d : D) (o : Ob) (R : Sto) (Q : D → Sto → Prop) (E : Exn → Sto → Prop), k < N → Sp p w d → p ≤ 60 → 3 ≤ w → w ≤ 100000 → Rd o → (∀ r o', Sp (p + 2) (w + 1) r → Rd o' → Q r (o' :: R)) →
    Wp (R__law_spoilt N [.ref 0, d, .int k] (o :: R)) Q E := by
  intro N
  induction N with
  | zero => intro k p w d o R Q E h; omega
  | succ N ih =>
    intro k p w d o R Q E hk hd hp hw3 hw ho q
    rw [R__law_spoilt_succ]
    unfold F__law_spoilt
    walk_at "def"
    unfold d__law_spoilt
    walk_at "w"
    refine isi_ptup hd.pl ?_
    walk_at "w"
    refine if_nb (fun ht => ?_) (fun ht => ?_)
    · walk_at "w"
      refine take_w ho fun v o' h1 ho' => ?_
      walk_at "w"
      refine pickW (ds := things) h1 rfl (by decide) fun d hd => ?_
      walk_at "w"
      exact q d o' ((thing_sp hd).mono (by omega) (by omega)) ho'
    · obtain ⟨ds, rfl⟩ := isTupD_inv ht
      obtain ⟨p', rfl, hl, hds⟩ := hd.inv
      walk_at "w"
      refine wp_of (dq_nilT (fun d h => (hds d h).pl) (fun d h => by have := (hds d h).dp; omega)) ?_
      walk_at "w"
      rw [Bool.false_xor]
      refine if_b (fun he => ?_) (fun he => ?_)
      · walk_at "w"
        refine take_w ho fun v o' h1 ho' => ?_
        walk_at "w"
        refine pickW (ds := things) h1 rfl (by decide) fun d hd => ?_
        walk_at "w"
        exact q d o' ((thing_sp hd).mono (by omega) (by omega)) ho'
      · have hne : ds ≠ [] := fun e => by rw [e] at he; cases he
        have hpos : 1 ≤ ds.length := by
          cases ds with
          | nil => exact absurd rfl hne
          | cons _ _ => rw [List.length_cons]; omega
        walk_at "w"
        refine if_dec (fun hk0 => ?_) (fun hk0 => ?_)
        · walk_at "w"
          refine take_w ho fun v o' h1 ho' => ?_
          walk_at "w"
          refine pickW (ds := things) h1 rfl (by decide) fun d hd => ?_
          walk_at "w"
          exact q d o' ((thing_sp hd).mono (by omega) (by omega)) ho'
        · obtain ⟨k', rfl⟩ : ∃ k', k = k' + 1 := ⟨k - 1, by omega⟩
          walk_at "w"
          unfold d__law_spoilt_R1
          walk_at "w"
          refine take_w ho fun v o1 h1 ho1 => ?_
          walk_at "w"
          have a := Int.emod_nonneg v (b := (ds.length : Int) + 1) (by omega)
          have b := Int.emod_lt_of_pos v (b := (ds.length : Int) + 1) (by omega)
          obtain ⟨m, hm⟩ : ∃ m : Nat, v % ((ds.length : Int) + 1) = m := ⟨_, (Int.toNat_of_nonneg a).symm⟩
          rw [hm] at b ⊢
          refine if_dec (fun hlast => ?_) (fun hlast => ?_)
          · unfold d__law_spoilt_B1
            walk_at "w"
            refine wq_cutT ?_
            walk_at "w"
            refine wq_cutT ?_
            have c1 := cutL_sub (xs := ds) (lo := none) (hi := some (-1))
            have c2 := cutL_sub (xs := ds) (lo := some (-1)) (hi := none)
            have c3 : (cutL ds (some (-1)) none).length ≤ 1 := by
              unfold cutL
              rw [List.length_take, List.length_drop]
              have e1 : HT.sIx ds.length ds.length none = ds.length := rfl
              have e2 : ds.length - 1 ≤ HT.sIx ds.length 0 (some (-1)) := by
                unfold HT.sIx
                dsimp only
                split <;> omega
              omega
            refine wq_addt (by omega) ?_
            walk_at "w"
            refine take_w ho1 fun v2 o3 h3 ho3 => ?_
            walk_at "w"
            refine pickW h3 rfl (by decide) fun r hr => ?_
            walk_at "w"
            refine q r o3 ?_ ho3
            have up : ∀ x ∈ ds, Sp (p' + 2) (w + 1) x := fun x hx => (hds x hx).mono (by omega) (by omega)
            rw [show p' + 1 + 2 = (p' + 2) + 1 from rfl]
            simp only [List.mem_cons, List.not_mem_nil, or_false] at hr
            rcases hr with rfl | rfl
            · exact Sp.tup (by omega) fun x hx => up x (c1.2 x hx)
            · refine Sp.tup (by rw [List.length_append]; omega) fun x hx => ?_
              rcases List.mem_append.mp hx with hx | hx
              · exact up x hx
              · exact up x (c2.2 x hx)
          · walk_at "w"
            have hmlt : m < ds.length := by omega
            have hget := List.getElem?_eq_getElem hmlt
            have hmem := List.getElem_mem hmlt
            generalize ds[m] = x at hget hmem
            refine wq_cutT ?_
            walk_at "w"
            refine wq_ixt (ix_row hget) ?_
            walk_at "w"
            rw [show ((k' + 1 : Nat) : Int) - 1 = (k' : Int) by omega]
            refine ih k' p' w x o1 R _ _ (by omega) (hds x hmem) (by omega) hw3 hw ho1 fun r o2 hr ho2 => ?_
            walk_at "w"
            have c1 := cutL_sub (xs := ds) (lo := none) (hi := some (m : Int))
            have c2 := cutL_sub (xs := ds) (lo := some ((m : Int) + 1)) (hi := none)
            have c3 : (cutL ds none (some (m : Int))).length + (cutL ds (some ((m : Int) + 1)) none).length ≤ ds.length := by
              unfold cutL
              rw [List.length_take, List.length_drop, List.length_take, List.length_drop]
              have e1 : HT.sIx ds.length ds.length none = ds.length := rfl
              have e2 : HT.sIx ds.length ds.length (some (m : Int)) ≤ m := by
                unfold HT.sIx
                dsimp only
                split <;> omega
              have e3 : m ≤ HT.sIx ds.length 0 (some ((m : Int) + 1)) := by
                unfold HT.sIx
                dsimp only
                split <;> omega
              omega
            refine wq_addt (by simp only [List.length_cons, List.length_nil]; omega) ?_
            walk_at "w"
            refine wq_cutT ?_
            refine wq_addt (by rw [List.length_append]; simp only [List.length_cons, List.length_nil]; omega) ?_
            walk_at "w"
            refine q _ o2 ?_ ho2
            have up : ∀ x ∈ ds, Sp (p' + 2) (w + 1) x := fun x hx => (hds x hx).mono (by omega) (by omega)
            rw [show p' + 1 + 2 = (p' + 2) + 1 from rfl]
            refine Sp.tup (by rw [List.length_append, List.length_append]; simp only [List.length_cons, List.length_nil]; omega) fun y hy => ?_
            rcases List.mem_append.mp hy with hy | hy
            · rcases List.mem_append.mp hy with hy | hy
              · exact up y (c1.2 y hy)
              · rw [List.mem_singleton.mp hy]; exact hr
            · exact up y (c2.2 y hy)
end

section

theorem wp_zip {t : DA} {τ : En} {st : Sto} {Q : List D → Sto → Prop} {E : Exn → Sto → Prop} (h : Wp (t τ st) (fun ds st => ∃ a b, ds = [.tup a, .tup b] ∧ Q (zipD a b) st) E) : Wp (iZipD t τ st) Q E := by
  unfold iZipD
  refine wp_bind (h.to fun ds st ⟨a, b, e, q⟩ => ?_)
  subst e
  exact q
local macro_rules | `(tactic| walk_at "x1") => `(tactic| first | (with_reducible refine isi_tup ?_) | (with_reducible refine isi_int ?_) | (with_reducible refine isi_nbl ?_) | (with_reducible refine isi_bl ?_) | (with_reducible refine isi_str ?_) | (with_reducible refine wq_lent ?_) | (with_reducible refine wq_lenl ?_) | (with_reducible refine wp_zip ?_))
/-! ### values -/
def rowB (v : Kd → D → Bool) (row : List Kd) (d : D) : Bool := match d with
  | .tup ds => decide (ds.length = row.length) && (row.zip ds).all fun p => v p.1 p.2
  | _ => false
def vecB (p : D → Bool) (d : D) : Bool := match d with
  | .tup ds => ds.all p
  | _ => false
def two (w : Str) (p : D → Bool) (d : D) : Bool := match d with
  | .tup [.str s, x] => decide (s = w) && p x
  | _ => false
def natOf : D → Nat
  | .int i => i.toNat
  | _ => 0
def tri (w : Str) (ts : List Row) (p : Row → D → Bool) (d : D) : Bool := match d with
  | .tup [.str s, i, x] => decide (s = w) && (numB i ts.length && p (ts.getD (natOf i) []) x)
  | _ => false
def isBl : D → Bool
  | .bl _ => true
  | _ => false
def valB (B : Bk) : Nat → Kd → D → Bool
  | 0, _, _ => false
  | n + 1, κ, d => match κ with
    | .int => numB d 4294967296
    | .bool => isBl d
    | .box k => two "box" (valB B n k) d
    | .vec k => two "vec" (vecB (valB B n k)) d
    | .nm false k => two "record" (rowB (valB B n) (B.recs.getD k [])) d
    | .nm true k => tri "variant" (B.vars.getD k []) (rowB (valB B n)) d
section
variable {w : Str} {p : D → Bool} {ts : List Row} {q : Row → D → Bool} {d x i : D} {s : Str} {r : List D}
theorem two_no (h : wordB d = false) : two w p d = false := by
  unfold two
  split
  · cases h
  · rfl
theorem two_ne (h : s ≠ w) : two w p (.tup (.str s :: r)) = false := by
  unfold two
  split
  · rename_i e
    cases e
    rw [decide_eq_false h]; rfl
  · rfl
theorem two_len (h : ¬ (((D.str s :: r).length : Int) = 2)) : two w p (.tup (.str s :: r)) = false := by
  match r, h with
  | [], _ => rfl
  | [_], h2 => exact (h2 rfl).elim
  | _ :: _ :: _, _ => rfl
theorem two_ok : two w p (.tup [.str w, x]) = p x := by
  show (decide (w = w) && p x) = p x
  rw [decide_eq_true rfl]; rfl
theorem tri_no (h : wordB d = false) : tri w ts q d = false := by
  unfold tri
  split
  · cases h
  · rfl
theorem tri_ne (h : s ≠ w) : tri w ts q (.tup (.str s :: r)) = false := by
  unfold tri
  split
  · rename_i e
    cases e
    rw [decide_eq_false h]; rfl
  · rfl
theorem tri_len (h : ¬ (((D.str s :: r).length : Int) = 3)) : tri w ts q (.tup (.str s :: r)) = false := by
  match r, h with
  | [], _ => rfl
  | [_], _ => rfl
  | [_, _], h2 => exact (h2 rfl).elim
  | _ :: _ :: _ :: _, _ => rfl
theorem tri_ok : tri w ts q (.tup [.str w, i, x]) = (numB i ts.length && q (ts.getD (natOf i) []) x) := by
  show (decide (w = w) && _) = _
  rw [decide_eq_true rfl]; rfl
theorem len3 (h : (((D.str s :: r).length : Int) = 3)) : ∃ i x, r = [i, x] := by
  match r, h with
  | [], h2 => simp only [List.length_cons, List.length_nil] at h2; omega
  | [_], h2 => simp only [List.length_cons, List.length_nil] at h2; omega
  | [i, x], _ => exact ⟨i, x, rfl⟩
  | _ :: _ :: _ :: _, h2 => simp only [List.length_cons] at h2; omega
end
theorem isi_pbl {x : D} {st : Sto} {Q : D → Sto → Prop} {E : Exn → Sto → Prop} (h : plD x = true) (q : Q (.bl (isBl x)) st) : Wp (cIsi "bool" [x, .raw (.ty "bool")] st) Q E := by
  cases x with
  | tup _ => exact isi_f (m := "tuple") rfl rfl q
  | dic _ => cases h
  | ref _ => cases h
  | raw _ => cases h
  | non => exact isi_f (m := "NoneType") rfl rfl q
  | bl _ => exact isi_bl q
  | int _ => exact isi_f (m := "int") rfl rfl q
  | str _ => exact isi_f (m := "str") rfl rfl q
  | lst _ => exact isi_f (m := "list") rfl rfl q
  | fro _ => exact isi_f (m := "list") rfl rfl q
theorem zip_eq : ∀ (row : List Kd) (ds : List D), zipD (row.map kdD) ds = (row.zip ds).map fun p => .tup [kdD p.1, p.2]
  | [], ds => by cases ds <;> rfl
  | _ :: _, [] => rfl
  | κ :: row, d :: ds => by
    show D.tup [kdD κ, d] :: zipD (row.map kdD) ds = _
    rw [zip_eq row ds]; rfl
theorem rowB_no {v : Kd → D → Bool} {row : List Kd} {d : D} (h : isTupD d = false) : rowB v row d = false := by
  cases d with
  | tup _ => cases h
  | _ => rfl
theorem vecB_no {p : D → Bool} {d : D} (h : isTupD d = false) : vecB p d = false := by
  cases d with
  | tup _ => cases h
  | _ => rfl
theorem are_w {B : Bk} {v : Kd → D → Bool} {N : Nat} {row : Row} {d : D} {st : Sto} (hp : plD d = true) (hl : row.length ≤ 20) (H : ∀ ds, d = .tup ds → ∀ κ ∈ row, ∀ x ∈ ds, R_is_value N [bookD B, kdD κ, x] st = .ok (.bl (v κ x)) st) :
    R_are_values (N + 1) [bookD B, rowD row, d] st = .ok (.bl (rowB v row d)) st := by
  rw [R_are_values_succ]
  refine wp_eq ?_
  unfold F_are_values
  walk_at "def"
  unfold d_are_values
  walk_at "w"
  refine isi_ptup hp ?_
  walk_at "w"
  refine if_nb (fun ht => ?_) (fun ht => ?_)
  · walk_at "w"
    exact ⟨by rw [rowB_no ht], rfl⟩
  · obtain ⟨ds, rfl⟩ := isTupD_inv ht
    walk_at "w"
    unfold rowD
    walk_at "w"
    rw [List.length_map]
    have eB : rowB v row (.tup ds) = (decide (ds.length = row.length) && (row.zip ds).all fun p => v p.1 p.2) := rfl
    refine if_ndec (fun he => ?_) (fun he => ?_)
    · walk_at "w"
      refine ⟨?_, rfl⟩
      rw [eB, decide_eq_false (by omega)]; rfl
    · walk_at "w"
      refine wp_comp rfl ?_
      walk_at "w"
      refine ⟨_, _, rfl, ?_⟩
      rw [zip_eq]
      refine wp_pureA (fun p : Kd × D => D.tup [kdD p.1, p.2]) (fun p => [some (bookD B), some (.tup (row.map kdD)), some (.tup ds), some (kdD p.1), some p.2]) (fun p => .bl (v p.1 p.2)) (fun p _ => rfl) (fun p hp => ?_) (by rw [List.length_zip]; omega) ?_
      · refine wp_eq ?_
        unfold d_are_values_C1
        walk_at "w"
        obtain ⟨h1, h2⟩ := List.of_mem_zip hp
        exact wp_of (H ds rfl p.1 h1 p.2 h2) ⟨rfl, rfl⟩
      · walk_at "w"
        refine wq_all bools_map ?_
        walk_at "w"
        refine ⟨?_, rfl⟩
        rw [eB, decide_eq_true (by omega), all_get]; rfl
theorem isv_w {B : Bk} (hB : B.ok) : ∀ (n N p : Nat) (κ : Kd) (d : D) (st : Sto), κ.ok B.recs.length B.vars.length → Sp p 100000 d → p < n → 2 * n ≤ N → R_is_value N [bookD B, kdD κ, d] st = .ok (.bl (valB B n κ d)) st := by
  intro n
  have eb : bookD B = .tup [.tup (B.recs.map rowD), .tup (B.vars.map tagsD)] := rfl
  induction n with
  | zero => intro N p κ d st _ _ h; omega
  | succ n ih =>
    intro N p κ d st hk hd hpn hN
    obtain ⟨N', rfl⟩ : ∃ N', N = N' + 2 := ⟨N - 2, by omega⟩
    rw [show N' + 2 = (N' + 1) + 1 from rfl, R_is_value_succ]
    refine wp_eq ?_
    unfold F_is_value
    walk_at "def"
    unfold d_is_value
    cases κ with
    | int =>
      unfold kdD
      walk_at "w"
      refine if_dT rfl ?_
      walk_at "w"
      unfold k_WORD
      exact wp_of (num_w hd.pl) ⟨rfl, rfl⟩
    | bool =>
      unfold kdD
      walk_at "w"
      refine if_dF (by decide) ?_
      walk_at "w"
      unfold d_is_value_R6
      walk_at "w"
      refine if_dT rfl ?_
      walk_at "w"
      refine isi_pbl hd.pl ?_
      exact ⟨rfl, rfl⟩
    | box k =>
      have eV : valB B (n + 1) (.box k) d = two "box" (valB B n k) d := rfl
      rw [show kdD (.box k) = .tup [.str "box", kdD k] from rfl]
      walk_at "w"
      refine if_dF (by decide) ?_
      walk_at "w"
      unfold d_is_value_R6
      walk_at "w"
      refine if_dF (by decide) ?_
      walk_at "w"
      unfold d_is_value_R5
      walk_at "w"
      refine wp_of (word_w hd.pl) ?_
      walk_at "w"
      refine if_nb (fun hw => ?_) (fun hw => ?_)
      · walk_at "w"
        exact ⟨by rw [eV, two_no hw], rfl⟩
      · obtain ⟨s, r, rfl⟩ := wordB_inv hw
        obtain ⟨p1, rfl, _, hds⟩ := hd.inv
        have hs0 : PyData.strOk s = true := (hds (.str s) List.mem_cons_self).pl
        walk_at "w"
        refine if_ndec (fun he => ?_) (fun he => ?_)
        · walk_at "w"
          exact ⟨by rw [eV, two_ne he], rfl⟩
        · subst he
          walk_at "w"
          unfold d_is_value_R4
          walk_at "w"
          refine if_dF (by decide) ?_
          walk_at "w"
          unfold d_is_value_R3
          walk_at "w"
          refine if_ndec (fun h2 => ?_) (fun h2 => ?_)
          · walk_at "w"
            exact ⟨by rw [eV, two_len h2], rfl⟩
          · obtain ⟨x, rfl⟩ := len2 h2
            have hx := hds x (by simp)
            rw [two_ok] at eV
            walk_at "w"
            unfold d_is_value_R2
            walk_at "w"
            refine if_dF (by decide) ?_
            walk_at "w"
            unfold d_is_value_R1
            walk_at "w"
            refine if_dT rfl ?_
            walk_at "w"
            exact wp_of (ih (N' + 1) p1 k x _ hk hx (by omega) (by omega)) ⟨by rw [eV], rfl⟩
    | vec k =>
      have eV : valB B (n + 1) (.vec k) d = two "vec" (vecB (valB B n k)) d := rfl
      rw [show kdD (.vec k) = .tup [.str "vec", kdD k] from rfl]
      walk_at "w"
      refine if_dF (by decide) ?_
      walk_at "w"
      unfold d_is_value_R6
      walk_at "w"
      refine if_dF (by decide) ?_
      walk_at "w"
      unfold d_is_value_R5
      walk_at "w"
      refine wp_of (word_w hd.pl) ?_
      walk_at "w"
      refine if_nb (fun hw => ?_) (fun hw => ?_)
      · walk_at "w"
        exact ⟨by rw [eV, two_no hw], rfl⟩
      · obtain ⟨s, r, rfl⟩ := wordB_inv hw
        obtain ⟨p1, rfl, _, hds⟩ := hd.inv
        have hs0 : PyData.strOk s = true := (hds (.str s) List.mem_cons_self).pl
        walk_at "w"
        refine if_ndec (fun he => ?_) (fun he => ?_)
        · walk_at "w"
          exact ⟨by rw [eV, two_ne he], rfl⟩
        · subst he
          walk_at "w"
          unfold d_is_value_R4
          walk_at "w"
          refine if_dF (by decide) ?_
          walk_at "w"
          unfold d_is_value_R3
          walk_at "w"
          refine if_ndec (fun h2 => ?_) (fun h2 => ?_)
          · walk_at "w"
            exact ⟨by rw [eV, two_len h2], rfl⟩
          · obtain ⟨x, rfl⟩ := len2 h2
            have hx := hds x (by simp)
            rw [two_ok] at eV
            walk_at "w"
            unfold d_is_value_R2
            walk_at "w"
            refine if_dF (by decide) ?_
            walk_at "w"
            unfold d_is_value_R1
            walk_at "w"
            refine if_dF (by decide) ?_
            walk_at "w"
            refine isi_ptup hx.pl ?_
            walk_at "w"
            refine if_b (fun ht => ?_) (fun ht => ?_)
            · obtain ⟨ds, rfl⟩ := isTupD_inv ht
              obtain ⟨p2, rfl, hl2, hds2⟩ := hx.inv
              walk_at "w"
              refine wp_comp rfl ?_
              walk_at "w"
              refine wp_pure (fun y => .bl (valB B n k y)) (fun y => [some (bookD B), some (.tup [.str "vec", kdD k]), some (.tup [.str "vec", .tup ds]), some y]) (fun y _ => rfl) (fun y hy => ?_) (by omega) ?_
              · refine wp_eq ?_
                unfold d_is_value_C1
                walk_at "w"
                exact wp_of (ih (N' + 1) p2 k y _ hk (hds2 y hy) (by omega) (by omega)) ⟨rfl, rfl⟩
              · walk_at "w"
                refine all_map ?_
                walk_at "w"
                exact ⟨by rw [eV]; rfl, rfl⟩
            · exact ⟨by rw [eV, vecB_no ht], rfl⟩
    | nm v m =>
      cases v with
      | false =>
        obtain ⟨row, h1, h2, h3⟩ := idx_rec (B := B) (n := m) hk
        have hg : B.recs.getD m [] = row := by rw [List.getD_eq_getElem?_getD, h1]; rfl
        obtain ⟨hl, hrk⟩ := hB.r row h2
        have eV : valB B (n + 1) (.nm false m) d = two "record" (rowB (valB B n) (B.recs.getD m [])) d := rfl
        rw [hg] at eV
        rw [show kdD (.nm false m) = .tup [.str "record", .int m] from rfl, eb]
        walk_at "w"
        refine if_dF (by decide) ?_
        walk_at "w"
        unfold d_is_value_R6
        walk_at "w"
        refine if_dF (by decide) ?_
        walk_at "w"
        unfold d_is_value_R5
        walk_at "w"
        refine wp_of (word_w hd.pl) ?_
        walk_at "w"
        refine if_nb (fun hw => ?_) (fun hw => ?_)
        · walk_at "w"
          exact ⟨by rw [eV, two_no hw], rfl⟩
        · obtain ⟨s, r, rfl⟩ := wordB_inv hw
          obtain ⟨p1, rfl, _, hds⟩ := hd.inv
          have hs0 : PyData.strOk s = true := (hds (.str s) List.mem_cons_self).pl
          walk_at "w"
          refine if_ndec (fun he => ?_) (fun he => ?_)
          · walk_at "w"
            exact ⟨by rw [eV, two_ne he], rfl⟩
          · subst he
            walk_at "w"
            unfold d_is_value_R4
            walk_at "w"
            refine if_dF (by decide) ?_
            walk_at "w"
            unfold d_is_value_R3
            walk_at "w"
            refine if_ndec (fun h2 => ?_) (fun h2 => ?_)
            · walk_at "w"
              exact ⟨by rw [eV, two_len h2], rfl⟩
            · obtain ⟨x, rfl⟩ := len2 h2
              have hx := hds x (by simp)
              rw [two_ok] at eV
              walk_at "w"
              unfold d_is_value_R2
              walk_at "w"
              refine if_dT rfl ?_
              unfold d_is_value_B2
              walk_at "w"
              refine wq_ixt (ix_row (by rw [List.getElem?_map, h1]; rfl)) ?_
              walk_at "w"
              rw [← eb]
              refine wp_of (are_w (v := valB B n) hx.pl hl fun ds e κ hκ y hy => ?_) ⟨by rw [eV], rfl⟩
              subst e
              obtain ⟨p2, rfl, hl2, hds2⟩ := hx.inv
              exact ih N' p2 κ y _ (hrk κ hκ) (hds2 y hy) (by omega) (by omega)
      | true =>
        obtain ⟨ts, h1, h2, h3⟩ := idx_var (B := B) (n := m) hk
        have hg : B.vars.getD m [] = ts := by rw [List.getD_eq_getElem?_getD, h1]; rfl
        obtain ⟨hl0, hl1, hts⟩ := hB.v ts h2
        have eV : valB B (n + 1) (.nm true m) d = tri "variant" (B.vars.getD m []) (rowB (valB B n)) d := rfl
        rw [hg] at eV
        rw [show kdD (.nm true m) = .tup [.str "variant", .int m] from rfl, eb]
        walk_at "w"
        refine if_dF (by decide) ?_
        walk_at "w"
        unfold d_is_value_R6
        walk_at "w"
        refine if_dF (by decide) ?_
        walk_at "w"
        unfold d_is_value_R5
        walk_at "w"
        refine wp_of (word_w hd.pl) ?_
        walk_at "w"
        refine if_nb (fun hw => ?_) (fun hw => ?_)
        · walk_at "w"
          exact ⟨by rw [eV, tri_no hw], rfl⟩
        · obtain ⟨s, r, rfl⟩ := wordB_inv hw
          obtain ⟨p1, rfl, _, hds⟩ := hd.inv
          have hs0 : PyData.strOk s = true := (hds (.str s) List.mem_cons_self).pl
          walk_at "w"
          refine if_ndec (fun he => ?_) (fun he => ?_)
          · walk_at "w"
            exact ⟨by rw [eV, tri_ne he], rfl⟩
          · subst he
            walk_at "w"
            unfold d_is_value_R4
            walk_at "w"
            refine if_dT rfl ?_
            unfold d_is_value_B1
            walk_at "w"
            refine if_ndec (fun h4 => ?_) (fun h4 => ?_)
            · walk_at "w"
              exact ⟨by rw [eV, tri_len h4], rfl⟩
            · obtain ⟨i, x, rfl⟩ := len3 h4
              have hi := hds i (by simp)
              have hx := hds x (by simp)
              rw [tri_ok] at eV
              walk_at "w"
              refine wq_ixt (ix_row (by rw [List.getElem?_map, h1]; rfl)) ?_
              unfold tagsD
              walk_at "w"
              rw [List.length_map]
              refine wp_of (num_w hi.pl) ?_
              walk_at "w"
              refine if_nb (fun hn => ?_) (fun hn => ?_)
              · walk_at "w"
                exact ⟨by rw [eV, hn]; rfl, rfl⟩
              · obtain ⟨j, rfl, hj⟩ := numB_inv hn
                rw [hn] at eV
                have hj : j < ts.length := by omega
                have g1 := List.getElem?_eq_getElem hj
                have g2 : ts.getD (natOf (.int (j : Int))) [] = ts[j] := by
                  show ts.getD ((j : Int).toNat) [] = _
                  rw [Int.toNat_natCast, List.getD_eq_getElem?_getD, g1]; rfl
                obtain ⟨hl3, hrk⟩ := hts ts[j] (List.getElem_mem hj)
                rw [g2] at eV
                generalize ts[j] = row at g1 hl3 hrk eV
                walk_at "w"
                refine wq_ixt (ix_row (by rw [List.getElem?_map, h1]; rfl)) ?_
                dsimp only
                walk_at "w"
                refine wq_ixt (ix_row (by rw [List.getElem?_map, g1]; rfl)) ?_
                walk_at "w"
                rw [← show tagsD = (fun ts : List Row => D.tup (ts.map rowD)) from rfl, ← eb]
                refine wp_of (are_w (v := valB B n) hx.pl hl3 fun ds e κ hκ y hy => ?_) ⟨by rw [eV]; rfl, rfl⟩
                subst e
                obtain ⟨p2, rfl, hl2, hds2⟩ := hx.inv
                exact ih N' p2 κ y _ (hrk κ hκ) (hds2 y hy) (by omega) (by omega)
end

section

local macro_rules | `(tactic| walk_at "x1") => `(tactic| first | (with_reducible refine isi_tup ?_) | (with_reducible refine isi_int ?_) | (with_reducible refine isi_nbl ?_) | (with_reducible refine isi_bl ?_) | (with_reducible refine isi_str ?_) | (with_reducible refine wq_lent ?_) | (with_reducible refine wq_lenl ?_) | (with_reducible refine wp_zip ?_))
/-! ### the law's own is_value -/
theorem rng_nat (k : Nat) : rng 0 (k : Int) = (List.range k).map fun n => D.int (n : Nat) := by
  apply List.ext_getElem?
  intro i
  rw [List.getElem?_map]
  by_cases h : i < k
  · rw [rng_get (by omega), List.getElem?_range h, Int.zero_add]; rfl
  · rw [List.getElem?_eq_none (by rw [rng_len]; omega), List.getElem?_eq_none (by rw [List.length_range]; omega)]
    rfl
theorem getD_of {α : Type} {l : List α} {n : Nat} {x d : α} (h : l[n]? = some x) : l.getD n d = x := by rw [List.getD_eq_getElem?_getD, h]; rfl
theorem idx_all {v : Kd → D → Bool} {row : List Kd} {ds : List D} (h : ds.length = row.length) :
    (((List.range row.length).filter fun n => !(v (row.getD n .int) (ds.getD n .non))).map fun n => D.int (n : Nat)).isEmpty = (row.zip ds).all fun p => v p.1 p.2 := by
  rw [Bool.eq_iff_iff, List.isEmpty_iff, List.map_eq_nil_iff, List.filter_eq_nil_iff, List.all_eq_true]
  refine ⟨fun H p hp => ?_, fun H n hn => ?_⟩
  · obtain ⟨n, hn, e⟩ := List.getElem_of_mem hp
    rw [List.length_zip] at hn
    have h1 := H n (List.mem_range.mpr (by omega))
    rw [List.getElem_zip] at e
    rw [getD_of (List.getElem?_eq_getElem (show n < row.length by omega)), getD_of (List.getElem?_eq_getElem (show n < ds.length by omega))] at h1
    subst e
    revert h1
    cases v row[n] ds[n] <;> simp
  · have hn := List.mem_range.mp hn
    rw [getD_of (List.getElem?_eq_getElem hn), getD_of (List.getElem?_eq_getElem (show n < ds.length by omega))]
    have h2 := H (row[n], ds[n]) (by
      have : (row.zip ds)[n]'(by rw [List.length_zip]; omega) = (row[n], ds[n]) := List.getElem_zip
      rw [← this]; exact List.getElem_mem _)
    rw [h2]; decide
theorem lall_w {B : Bk} {v : Kd → D → Bool} {N : Nat} {row : List Kd} {d : D} {st : Sto} (hp : plD d = true) (hl : row.length ≤ 100000) (H : ∀ ds, d = .tup ds → ∀ κ ∈ row, ∀ x ∈ ds, R__law_is_value N [bookD B, kdD κ, x] st = .ok (.bl (v κ x)) st) :
    R__law_all_are (N + 1) [bookD B, rowD row, d] st = .ok (.bl (rowB v row d)) st := by
  rw [R__law_all_are_succ]
  refine wp_eq ?_
  unfold F__law_all_are
  with_reducible refine wp_def (τ := [some (bookD B), some (rowD row), some d, none]) ?hl ?ht ?_
  case hl => rfl
  case ht => rfl
  unfold d__law_all_are
  walk_at "w"
  refine isi_ptup hp ?_
  walk_at "w"
  refine if_nb (fun ht => ?_) (fun ht => ?_)
  · walk_at "w"
    exact ⟨by rw [rowB_no ht], rfl⟩
  · obtain ⟨ds, rfl⟩ := isTupD_inv ht
    walk_at "w"
    unfold rowD
    walk_at "w"
    rw [List.length_map]
    have eB : rowB v row (.tup ds) = (decide (ds.length = row.length) && (row.zip ds).all fun p => v p.1 p.2) := rfl
    with_reducible refine if_ndec (fun he => ?_) (fun he => ?_)
    · walk_at "w"
      refine ⟨?_, rfl⟩
      rw [eB, decide_eq_false (by omega)]; rfl
    · walk_at "w"
      with_reducible refine wp_comp (σ := [some (bookD B), some (.tup (row.map kdD)), some (.tup ds), none]) ?hw ?_
      case hw => exact rfl
      walk_at "w"
      rw [List.length_map]
      have hlen : ds.length = row.length := by omega
      rw [rng_nat]
      refine wp_filt (fun n : Nat => D.int (n : Nat)) (fun n => [some (bookD B), some (.tup (row.map kdD)), some (.tup ds), some (.int (n : Nat))]) (fun n => !(v (row.getD n .int) (ds.getD n .non))) (fun n _ => rfl) (fun n hn => ?_) (fun n _ => rfl) (by rw [List.length_range]; omega) ?_
      · have hn := List.mem_range.mp hn
        have g1 := List.getElem?_eq_getElem hn
        have g2 := List.getElem?_eq_getElem (show n < ds.length by omega)
        rw [getD_of g1, getD_of g2]
        have m1 := List.getElem_mem hn
        have m2 := List.getElem_mem (show n < ds.length by omega)
        generalize row[n] = κ at g1 m1
        generalize ds[n] = x at g2 m2
        refine wp_eq ?_
        unfold d__law_all_are_Q1
        walk_at "w"
        refine wq_ixt (ix_row (by rw [List.getElem?_map, g1]; rfl)) ?_
        walk_at "w"
        refine wq_ixt (ix_row g2) ?_
        walk_at "w"
        refine wp_of (H ds rfl κ m1 x m2) ?_
        walk_at "w"
        exact ⟨rfl, rfl⟩
      · walk_at "w"
        refine wp_of (dq_nilL (fun d hd => ?_) (fun d hd => ?_)) ?_
        · obtain ⟨n, _, rfl⟩ := List.mem_map.mp hd; rfl
        · obtain ⟨n, _, rfl⟩ := List.mem_map.mp hd; exact Nat.zero_le _
        · walk_at "w"
          refine ⟨?_, rfl⟩
          rw [eB, decide_eq_true hlen, Bool.false_xor, idx_all hlen]; rfl
theorem isi_word {x : D} {r : List D} {st : Sto} {Q : D → Sto → Prop} {E : Exn → Sto → Prop} (h : plD x = true) (q : Q (.bl (wordB (.tup (x :: r)))) st) : Wp (cIsi "str" [x, .raw (.ty "str")] st) Q E := by
  refine isi_pstr h ?_
  cases x <;> exact q
theorem rep_one {d : D} : ∀ k : Nat, (List.replicate k [d]).flatten = List.replicate k d
  | 0 => rfl
  | k + 1 => by rw [List.replicate_succ, List.flatten_cons, rep_one k]; rfl
theorem wq_rep0 {d : D} {k : Nat} {st : Sto} {Q : D → Sto → Prop} {E : Exn → Sto → Prop} (h : k ≤ 100000) (q : Q (.tup (List.replicate k d)) st) : Wp (dRepT0 (.tup [d]) (.int (k : Int)) st) Q E := by
  have e : dRepT0 (.tup [d]) (.int (k : Int)) st = .ok (.tup (List.replicate k d)) st := by
    unfold dRepT0
    dsimp only
    rw [if_pos ⟨by simp, by omega, by omega, by simp only [List.length_cons, List.length_nil]; omega⟩, Int.toNat_natCast]
    rw [rep_one]
  rw [e]; exact q
theorem zip_rep {v : Kd → D → Bool} {κ : Kd} : ∀ ds : List D, ((List.replicate ds.length κ).zip ds).all (fun p => v p.1 p.2) = ds.all (v κ)
  | [] => rfl
  | d :: ds => by
    rw [List.length_cons, List.replicate_succ, List.zip_cons_cons, List.all_cons, List.all_cons, zip_rep ds]
theorem rowB_rep {v : Kd → D → Bool} {κ : Kd} {ds : List D} : rowB v (List.replicate ds.length κ) (.tup ds) = vecB (v κ) (.tup ds) := by
  show (decide (ds.length = (List.replicate ds.length κ).length) && _) = ds.all (v κ)
  rw [List.length_replicate, decide_eq_true rfl, zip_rep]; rfl
theorem notW {d : D} (h : isTupD d = false) : wordB d = false := by
  cases d with
  | tup _ => cases h
  | _ => rfl
theorem lisv_w {B : Bk} (hB : B.ok) : ∀ (n N p : Nat) (κ : Kd) (d : D) (st : Sto), κ.ok B.recs.length B.vars.length → Sp p 100000 d → p < n → p ≤ 64 → 2 * n ≤ N → R__law_is_value N [bookD B, kdD κ, d] st = .ok (.bl (valB B n κ d)) st := by
  intro n
  have eb : bookD B = .tup [.tup (B.recs.map rowD), .tup (B.vars.map tagsD)] := rfl
  induction n with
  | zero => intro N p κ d st _ _ h; omega
  | succ n ih =>
    intro N p κ d st hk hd hpn hp64 hN
    obtain ⟨N', rfl⟩ : ∃ N', N = N' + 2 := ⟨N - 2, by omega⟩
    rw [show N' + 2 = (N' + 1) + 1 from rfl, R__law_is_value_succ]
    refine wp_eq ?_
    unfold F__law_is_value
    walk_at "def"
    unfold d__law_is_value
    cases κ with
    | int =>
      unfold kdD
      walk_at "w"
      refine if_dT rfl ?_
      unfold d__law_is_value_B1
      have eV : valB B (n + 1) .int d = numB d 4294967296 := rfl
      have hpl := hd.pl
      rw [eV]
      cases d with
      | int i =>
        have eN : numB (.int i) 4294967296 = (decide (0 ≤ i) && decide (i < 4294967296)) := rfl
        walk_at "w"
        refine if_dec (fun h0 => ?_) (fun h0 => ?_)
        · walk_at "w"
          exact ⟨by rw [eN, decide_eq_true h0]; rfl, rfl⟩
        · exact ⟨by rw [eN, decide_eq_false h0]; rfl, rfl⟩
      | bl b =>
        walk_at "w"
        refine isi_t (m := "bool") rfl rfl ?_
        walk_at "w"
        exact ⟨rfl, rfl⟩
      | dic _ => cases hpl
      | ref _ => cases hpl
      | raw _ => cases hpl
      | non =>
        walk_at "w"
        refine isi_f (m := "NoneType") rfl rfl ?_
        walk_at "w"
        exact ⟨rfl, rfl⟩
      | str _ =>
        walk_at "w"
        refine isi_f (m := "str") rfl rfl ?_
        walk_at "w"
        exact ⟨rfl, rfl⟩
      | tup _ =>
        walk_at "w"
        refine isi_f (m := "tuple") rfl rfl ?_
        walk_at "w"
        exact ⟨rfl, rfl⟩
      | lst _ =>
        walk_at "w"
        refine isi_f (m := "list") rfl rfl ?_
        walk_at "w"
        exact ⟨rfl, rfl⟩
      | fro _ =>
        walk_at "w"
        refine isi_f (m := "list") rfl rfl ?_
        walk_at "w"
        exact ⟨rfl, rfl⟩
    | bool =>
      unfold kdD
      walk_at "w"
      refine if_dF (by decide) ?_
      walk_at "w"
      unfold d__law_is_value_R6
      walk_at "w"
      refine if_dT rfl ?_
      walk_at "w"
      refine isi_pbl hd.pl ?_
      exact ⟨rfl, rfl⟩
    | box k =>
      have eV : valB B (n + 1) (.box k) d = two "box" (valB B n k) d := rfl
      rw [show kdD (.box k) = .tup [.str "box", kdD k] from rfl]
      walk_at "w"
      refine if_dF (by decide) ?_
      walk_at "w"
      unfold d__law_is_value_R6
      walk_at "w"
      refine if_dF (by decide) ?_
      walk_at "w"
      unfold d__law_is_value_R5
      walk_at "w"
      refine isi_ptup hd.pl ?_
      walk_at "w"
      refine if_nb (fun ht => ?_) (fun ht => ?_)
      · walk_at "w"
        exact ⟨by rw [eV, two_no (notW ht)], rfl⟩
      · obtain ⟨ds, rfl⟩ := isTupD_inv ht
        obtain ⟨p1, rfl, _, hds⟩ := hd.inv
        walk_at "w"
        refine wp_of (dq_nilT (fun d h => (hds d h).pl) (fun d h => by have := (hds d h).dp; omega)) ?_
        walk_at "w"
        rw [Bool.false_xor]
        cases ds with
        | nil =>
          refine if_t ?_
          walk_at "w"
          exact ⟨by rw [eV, two_no rfl], rfl⟩
        | cons y r =>
          refine if_f ?_
          walk_at "w"
          refine isi_word (r := r) (hds y List.mem_cons_self).pl ?_
          walk_at "w"
          refine if_nb (fun hw => ?_) (fun hw => ?_)
          · walk_at "w"
            exact ⟨by rw [eV, two_no hw], rfl⟩
          · obtain ⟨s, r', e⟩ := wordB_inv hw
            cases e
            have hs0 : PyData.strOk s = true := (hds (.str s) List.mem_cons_self).pl
            walk_at "w"
            refine if_ndec (fun he => ?_) (fun he => ?_)
            · walk_at "w"
              exact ⟨by rw [eV, two_ne he], rfl⟩
            · subst he
              walk_at "w"
              unfold d__law_is_value_R4
              walk_at "w"
              refine if_dF (by decide) ?_
              walk_at "w"
              unfold d__law_is_value_R3
              walk_at "w"
              refine if_ndec (fun h2 => ?_) (fun h2 => ?_)
              · walk_at "w"
                exact ⟨by rw [eV, two_len h2], rfl⟩
              · obtain ⟨x, rfl⟩ := len2 h2
                have hx := hds x (by simp)
                rw [two_ok] at eV
                walk_at "w"
                unfold d__law_is_value_R2
                walk_at "w"
                refine if_dF (by decide) ?_
                walk_at "w"
                unfold d__law_is_value_R1
                walk_at "w"
                refine if_dT rfl ?_
                walk_at "w"
                exact wp_of (ih (N' + 1) p1 k x _ hk hx (by omega) (by omega) (by omega)) ⟨by rw [eV], rfl⟩
    | vec k =>
      have eV : valB B (n + 1) (.vec k) d = two "vec" (vecB (valB B n k)) d := rfl
      rw [show kdD (.vec k) = .tup [.str "vec", kdD k] from rfl]
      walk_at "w"
      refine if_dF (by decide) ?_
      walk_at "w"
      unfold d__law_is_value_R6
      walk_at "w"
      refine if_dF (by decide) ?_
      walk_at "w"
      unfold d__law_is_value_R5
      walk_at "w"
      refine isi_ptup hd.pl ?_
      walk_at "w"
      refine if_nb (fun ht => ?_) (fun ht => ?_)
      · walk_at "w"
        exact ⟨by rw [eV, two_no (notW ht)], rfl⟩
      · obtain ⟨ds, rfl⟩ := isTupD_inv ht
        obtain ⟨p1, rfl, _, hds⟩ := hd.inv
        walk_at "w"
        refine wp_of (dq_nilT (fun d h => (hds d h).pl) (fun d h => by have := (hds d h).dp; omega)) ?_
        walk_at "w"
        rw [Bool.false_xor]
        cases ds with
        | nil =>
          refine if_t ?_
          walk_at "w"
          exact ⟨by rw [eV, two_no rfl], rfl⟩
        | cons y r =>
          refine if_f ?_
          walk_at "w"
          refine isi_word (r := r) (hds y List.mem_cons_self).pl ?_
          walk_at "w"
          refine if_nb (fun hw => ?_) (fun hw => ?_)
          · walk_at "w"
            exact ⟨by rw [eV, two_no hw], rfl⟩
          · obtain ⟨s, r', e⟩ := wordB_inv hw
            cases e
            have hs0 : PyData.strOk s = true := (hds (.str s) List.mem_cons_self).pl
            walk_at "w"
            refine if_ndec (fun he => ?_) (fun he => ?_)
            · walk_at "w"
              exact ⟨by rw [eV, two_ne he], rfl⟩
            · subst he
              walk_at "w"
              unfold d__law_is_value_R4
              walk_at "w"
              refine if_dF (by decide) ?_
              walk_at "w"
              unfold d__law_is_value_R3
              walk_at "w"
              refine if_ndec (fun h2 => ?_) (fun h2 => ?_)
              · walk_at "w"
                exact ⟨by rw [eV, two_len h2], rfl⟩
              · obtain ⟨x, rfl⟩ := len2 h2
                have hx := hds x (by simp)
                rw [two_ok] at eV
                walk_at "w"
                unfold d__law_is_value_R2
                walk_at "w"
                refine if_dF (by decide) ?_
                walk_at "w"
                unfold d__law_is_value_R1
                walk_at "w"
                refine if_dF (by decide) ?_
                walk_at "w"
                refine isi_ptup hx.pl ?_
                walk_at "w"
                refine if_b (fun ht => ?_) (fun ht => ?_)
                · obtain ⟨ds, rfl⟩ := isTupD_inv ht
                  obtain ⟨p2, rfl, hl2, hds2⟩ := hx.inv
                  walk_at "w"
                  refine wq_rep0 hl2 ?_
                  walk_at "w"
                  rw [show D.tup (List.replicate ds.length (kdD k)) = rowD (List.replicate ds.length k) from by unfold rowD; rw [List.map_replicate]]
                  refine wp_of (lall_w (v := valB B n) hx.pl (by rw [List.length_replicate]; exact hl2) fun ds' e κ hκ y hy => ?_) ⟨by rw [eV, rowB_rep], rfl⟩
                  cases e
                  rw [(List.mem_replicate.mp hκ).2]
                  exact ih N' p2 k y _ hk (hds2 y hy) (by omega) (by omega) (by omega)
                · exact ⟨by rw [eV, vecB_no ht], rfl⟩
    | nm v m =>
      cases v with
      | false =>
        obtain ⟨row, h1, h2, h3⟩ := idx_rec (B := B) (n := m) hk
        have hg : B.recs.getD m [] = row := by rw [List.getD_eq_getElem?_getD, h1]; rfl
        obtain ⟨hl, hrk⟩ := hB.r row h2
        have eV : valB B (n + 1) (.nm false m) d = two "record" (rowB (valB B n) (B.recs.getD m [])) d := rfl
        rw [hg] at eV
        rw [show kdD (.nm false m) = .tup [.str "record", .int m] from rfl, eb]
        walk_at "w"
        refine if_dF (by decide) ?_
        walk_at "w"
        unfold d__law_is_value_R6
        walk_at "w"
        refine if_dF (by decide) ?_
        walk_at "w"
        unfold d__law_is_value_R5
        walk_at "w"
        refine isi_ptup hd.pl ?_
        walk_at "w"
        refine if_nb (fun ht => ?_) (fun ht => ?_)
        · walk_at "w"
          exact ⟨by rw [eV, two_no (notW ht)], rfl⟩
        · obtain ⟨ds, rfl⟩ := isTupD_inv ht
          obtain ⟨p1, rfl, _, hds⟩ := hd.inv
          walk_at "w"
          refine wp_of (dq_nilT (fun d h => (hds d h).pl) (fun d h => by have := (hds d h).dp; omega)) ?_
          walk_at "w"
          rw [Bool.false_xor]
          cases ds with
          | nil =>
            refine if_t ?_
            walk_at "w"
            exact ⟨by rw [eV, two_no rfl], rfl⟩
          | cons y r =>
            refine if_f ?_
            walk_at "w"
            refine isi_word (r := r) (hds y List.mem_cons_self).pl ?_
            walk_at "w"
            refine if_nb (fun hw => ?_) (fun hw => ?_)
            · walk_at "w"
              exact ⟨by rw [eV, two_no hw], rfl⟩
            · obtain ⟨s, r', e⟩ := wordB_inv hw
              cases e
              have hs0 : PyData.strOk s = true := (hds (.str s) List.mem_cons_self).pl
              walk_at "w"
              refine if_ndec (fun he => ?_) (fun he => ?_)
              · walk_at "w"
                exact ⟨by rw [eV, two_ne he], rfl⟩
              · subst he
                walk_at "w"
                unfold d__law_is_value_R4
                walk_at "w"
                refine if_dF (by decide) ?_
                walk_at "w"
                unfold d__law_is_value_R3
                walk_at "w"
                refine if_ndec (fun h2 => ?_) (fun h2 => ?_)
                · walk_at "w"
                  exact ⟨by rw [eV, two_len h2], rfl⟩
                · obtain ⟨x, rfl⟩ := len2 h2
                  have hx := hds x (by simp)
                  rw [two_ok] at eV
                  walk_at "w"
                  unfold d__law_is_value_R2
                  walk_at "w"
                  refine if_dT rfl ?_
                  unfold d__law_is_value_B3
                  walk_at "w"
                  refine wq_ixt (ix_row (by rw [List.getElem?_map, h1]; rfl)) ?_
                  walk_at "w"
                  rw [← eb]
                  refine wp_of (lall_w (v := valB B n) hx.pl (by omega) fun ds e κ hκ y hy => ?_) ⟨by rw [eV], rfl⟩
                  subst e
                  obtain ⟨p2, rfl, hl2, hds2⟩ := hx.inv
                  exact ih N' p2 κ y _ (hrk κ hκ) (hds2 y hy) (by omega) (by omega) (by omega)
      | true =>
        obtain ⟨ts, h1, h2, h3⟩ := idx_var (B := B) (n := m) hk
        have hg : B.vars.getD m [] = ts := by rw [List.getD_eq_getElem?_getD, h1]; rfl
        obtain ⟨hl0, hl1, hts⟩ := hB.v ts h2
        have eV : valB B (n + 1) (.nm true m) d = tri "variant" (B.vars.getD m []) (rowB (valB B n)) d := rfl
        rw [hg] at eV
        rw [show kdD (.nm true m) = .tup [.str "variant", .int m] from rfl, eb]
        walk_at "w"
        refine if_dF (by decide) ?_
        walk_at "w"
        unfold d__law_is_value_R6
        walk_at "w"
        refine if_dF (by decide) ?_
        walk_at "w"
        unfold d__law_is_value_R5
        walk_at "w"
        refine isi_ptup hd.pl ?_
        walk_at "w"
        refine if_nb (fun ht => ?_) (fun ht => ?_)
        · walk_at "w"
          exact ⟨by rw [eV, tri_no (notW ht)], rfl⟩
        · obtain ⟨ds, rfl⟩ := isTupD_inv ht
          obtain ⟨p1, rfl, _, hds⟩ := hd.inv
          walk_at "w"
          refine wp_of (dq_nilT (fun d h => (hds d h).pl) (fun d h => by have := (hds d h).dp; omega)) ?_
          walk_at "w"
          rw [Bool.false_xor]
          cases ds with
          | nil =>
            refine if_t ?_
            walk_at "w"
            exact ⟨by rw [eV, tri_no rfl], rfl⟩
          | cons y r =>
            refine if_f ?_
            walk_at "w"
            refine isi_word (r := r) (hds y List.mem_cons_self).pl ?_
            walk_at "w"
            refine if_nb (fun hw => ?_) (fun hw => ?_)
            · walk_at "w"
              exact ⟨by rw [eV, tri_no hw], rfl⟩
            · obtain ⟨s, r', e⟩ := wordB_inv hw
              cases e
              have hs0 : PyData.strOk s = true := (hds (.str s) List.mem_cons_self).pl
              walk_at "w"
              refine if_ndec (fun he => ?_) (fun he => ?_)
              · walk_at "w"
                exact ⟨by rw [eV, tri_ne he], rfl⟩
              · subst he
                walk_at "w"
                unfold d__law_is_value_R4
                walk_at "w"
                refine if_dT rfl ?_
                unfold d__law_is_value_B2
                walk_at "w"
                refine wq_ixt (ix_row (by rw [List.getElem?_map, h1]; rfl)) ?_
                unfold tagsD
                walk_at "w"
                rw [← show tagsD = (fun ts : List Row => D.tup (ts.map rowD)) from rfl]
                refine if_ndec (fun h4 => ?_) (fun h4 => ?_)
                · walk_at "w"
                  exact ⟨by rw [eV, tri_len h4], rfl⟩
                · obtain ⟨i, x, rfl⟩ := len3 h4
                  have hi := hds i (by simp)
                  have hx := hds x (by simp)
                  have hil := hi.pl
                  rw [tri_ok] at eV
                  walk_at "w"
                  cases i with
                  | int i =>
                    have eN : numB (.int i) ts.length = (decide (0 ≤ i) && decide (i < ts.length)) := rfl
                    walk_at "w"
                    refine if_ndec (fun h0 => ?_) (fun h0 => ?_)
                    · walk_at "w"
                      exact ⟨by rw [eV, eN, decide_eq_false h0]; rfl, rfl⟩
                    · obtain ⟨j, rfl⟩ : ∃ j : Nat, i = j := ⟨i.toNat, (Int.toNat_of_nonneg h0).symm⟩
                      walk_at "w"
                      rw [List.length_map]
                      refine if_dec (fun h5 => ?_) (fun h5 => ?_)
                      · walk_at "w"
                        exact ⟨by rw [eV, eN, decide_eq_false (show ¬ (j : Int) < ts.length by omega), Bool.and_false]; rfl, rfl⟩
                      · rw [eN, decide_eq_true h0, decide_eq_true (show (j : Int) < ts.length by omega)] at eV
                        have hj : j < ts.length := by omega
                        have g1 := List.getElem?_eq_getElem hj
                        have g2 : ts.getD (natOf (.int (j : Int))) [] = ts[j] := by
                          show ts.getD ((j : Int).toNat) [] = _
                          rw [Int.toNat_natCast, List.getD_eq_getElem?_getD, g1]; rfl
                        obtain ⟨hl3, hrk⟩ := hts ts[j] (List.getElem_mem hj)
                        rw [g2] at eV
                        generalize ts[j] = row at g1 hl3 hrk eV
                        walk_at "w"
                        refine wq_ixt (ix_row (by rw [List.getElem?_map, g1]; rfl)) ?_
                        walk_at "w"
                        rw [← eb]
                        refine wp_of (lall_w (v := valB B n) hx.pl (by omega) fun ds e κ hκ y hy => ?_) ⟨by rw [eV]; rfl, rfl⟩
                        subst e
                        obtain ⟨p2, rfl, hl2, hds2⟩ := hx.inv
                        exact ih N' p2 κ y _ (hrk κ hκ) (hds2 y hy) (by omega) (by omega) (by omega)
                  | bl b =>
                    refine isi_t (m := "bool") rfl rfl ?_
                    walk_at "w"
                    exact ⟨by rw [eV]; rfl, rfl⟩
                  | dic _ => cases hil
                  | ref _ => cases hil
                  | raw _ => cases hil
                  | non =>
                    refine isi_f (m := "NoneType") rfl rfl ?_
                    walk_at "w"
                    exact ⟨by rw [eV]; rfl, rfl⟩
                  | str _ =>
                    refine isi_f (m := "str") rfl rfl ?_
                    walk_at "w"
                    exact ⟨by rw [eV]; rfl, rfl⟩
                  | tup _ =>
                    refine isi_f (m := "tuple") rfl rfl ?_
                    walk_at "w"
                    exact ⟨by rw [eV]; rfl, rfl⟩
                  | lst _ =>
                    refine isi_f (m := "list") rfl rfl ?_
                    walk_at "w"
                    exact ⟨by rw [eV]; rfl, rfl⟩
                  | fro _ =>
                    refine isi_f (m := "list") rfl rfl ?_
                    walk_at "w"
                    exact ⟨by rw [eV]; rfl, rfl⟩
end

section

local macro_rules | `(tactic| walk_at "x1") => `(tactic| first | (with_reducible refine isi_tup ?_) | (with_reducible refine isi_int ?_) | (with_reducible refine isi_nbl ?_) | (with_reducible refine isi_bl ?_) | (with_reducible refine isi_str ?_) | (with_reducible refine wq_lent ?_) | (with_reducible refine wq_lenl ?_) | (with_reducible refine wq_listt ?_))
/-! ### finite kinds -/
def inS (κ : Kd) (S : List Nm) : Bool := match isNm κ with
  | some q => decide (q ∈ S)
  | none => false
theorem eqv_kd {κ : Kd} (h : isNm κ = none) (q : Nm) : PyData.eqv (pyD (nmD q)) (pyD (kdD κ)) = false := by
  obtain ⟨v, n⟩ := q
  cases κ with
  | int => cases v <;> rfl
  | bool => cases v <;> rfl
  | box k =>
    have h1 : PyData.eqv (.str (nmS v)) (.str "box") = false := by cases v <;> decide
    show (PyData.eqv (.str (nmS v)) (.str "box") && _) = false
    rw [h1]; rfl
  | vec k =>
    have h1 : PyData.eqv (.str (nmS v)) (.str "vec") = false := by cases v <;> decide
    show (PyData.eqv (.str (nmS v)) (.str "vec") && _) = false
    rw [h1]; rfl
  | nm v n => cases h
theorem dp_kd (κ : Kd) : dpD (kdD κ) ≤ κ.dep + 1 := (sp_kd κ).dp
theorem in_kd {κ : Kd} {L : List Nm} {st : Sto} {Q : D → Sto → Prop} {E : Exn → Sto → Prop} (hd : κ.dep ≤ 10) (k : Q (.bl (inS κ L)) st) : Wp (dInA false (kdD κ) (.lst (L.map nmD)) st) Q E := by
  cases hk : isNm κ with
  | some q =>
    have e : kdD κ = nmD q := by
      cases κ with
      | nm v n => cases hk; rfl
      | _ => cases hk
    rw [e]
    refine in_nms ?_
    unfold inS at k
    rw [hk] at k
    exact k
  | none =>
    have e : dInA false (kdD κ) (.lst (L.map nmD)) st = .ok (.bl false) st := by
      have h1 : topPy (.lst (L.map nmD)) st = some (.list (pyDs (L.map nmD))) := topPy_pl (d := .lst (L.map nmD)) (plDs_all.mpr (pl_nms L))
      have h2 := (toPy_pl (pl_kd κ)).1
      have s1 := shaped_pl (pl_kd κ) (by have := dp_kd κ; omega)
      have s2 := shaped_pl (d := .lst (L.map nmD)) (plDs_all.mpr (pl_nms L)) (Nat.succ_le_succ (dpDs_all.mpr (dp_nms L)))
      have h3 : ((pyDs (L.map nmD)).any fun z => PyData.eqv z (pyD (kdD κ))) = false := by
        rw [pyDs_map, List.map_map, List.any_map, List.any_eq_false]
        intro y hy
        show ¬ PyData.eqv (pyD (nmD y)) (pyD (kdD κ)) = true
        rw [eqv_kd hk]
        decide
      have hf : flatD (kdD κ) = false := by cases κ <;> rfl
      obtain ⟨xs, ex⟩ : ∃ xs, kdD κ = .tup xs := by cases κ <;> exact ⟨_, rfl⟩
      rw [ex] at h2 s1 h3 hf ⊢
      show (if (flatD (.tup xs) && (L.map nmD).all flatD) = true then _ else (match toPy (.tup xs), topPy (.lst (L.map nmD)) st with
        | some p, some (.list qs) => if (SeqAt.shaped p && SeqAt.shaped (.list qs)) = true then R.ok (D.bl (false ^^ qs.any fun z => PyData.eqv z p)) st else .bad
        | _, _ => .bad)) = _
      rw [if_neg (show ¬ (flatD (.tup xs) && (L.map nmD).all flatD) = true from fun h => by rw [hf] at h; cases h), h1, h2]
      show (if (SeqAt.shaped (pyD (.tup xs)) && SeqAt.shaped (pyD (.lst (L.map nmD)))) = true then R.ok (D.bl (false ^^ (pyDs (L.map nmD)).any fun z => PyData.eqv z (pyD (.tup xs)))) st else .bad) = _
      rw [s1, s2, h3, Bool.false_xor]
      rfl
    unfold inS at k
    rw [hk] at k
    rw [e]; exact k
def row0 (B : Bk) (q : Nm) : Row := (B.tags q).headD []
def finF (B : Bk) : Nat → Kd → List Nm → Bool
  | 0, _, _ => false
  | f + 1, κ, S => match κ with
    | .box k => finF B f k S
    | .nm v n => if (v, n) ∈ S then false else (row0 B (v, n)).all fun κ' => finF B f κ' (S ++ [(v, n)])
    | _ => true
theorem fin_mono {B : Bk} : ∀ {f g : Nat} {κ : Kd} {S T : List Nm}, f ≤ g → (∀ q ∈ T, q ∈ S) → finF B f κ S = true → finF B g κ T = true
  | 0, _, _, _, _, _, _, h => by cases h
  | f + 1, 0, _, _, _, hg, _, _ => by omega
  | f + 1, g + 1, κ, S, T, hg, hs, h => by
    cases κ with
    | box k => exact fin_mono (f := f) (g := g) (by omega) hs h
    | nm v n =>
      have h : (if (v, n) ∈ S then false else (row0 B (v, n)).all fun κ' => finF B f κ' (S ++ [(v, n)])) = true := h
      show (if (v, n) ∈ T then false else (row0 B (v, n)).all fun κ' => finF B g κ' (T ++ [(v, n)])) = true
      by_cases hm : (v, n) ∈ S
      · rw [if_pos hm] at h; cases h
      · rw [if_neg hm] at h
        rw [if_neg fun z => hm (hs _ z), List.all_eq_true]
        intro κ' hκ
        refine fin_mono (f := f) (g := g) (by omega) (fun q hq => ?_) (List.all_eq_true.mp h κ' hκ)
        rcases List.mem_append.mp hq with hq | hq
        · exact List.mem_append_left _ (hs q hq)
        · exact List.mem_append_right _ hq
    | int => rfl
    | bool => rfl
    | vec k => rfl
theorem fin_nm {B : Bk} {f : Nat} {v : Bool} {n : Nat} {S : List Nm} (h : finF B (f + 1) (.nm v n) S = true) : (v, n) ∉ S ∧ ∀ κ' ∈ row0 B (v, n), finF B f κ' (S ++ [(v, n)]) = true := by
  have h : (if (v, n) ∈ S then false else (row0 B (v, n)).all fun κ' => finF B f κ' (S ++ [(v, n)])) = true := h
  by_cases hm : (v, n) ∈ S
  · rw [if_pos hm] at h; cases h
  · rw [if_neg hm] at h
    exact ⟨hm, List.all_eq_true.mp h⟩
/-- what every drawn book gives -/
theorem Drawn.small {B : Bk} (h : Drawn B) : B.all.length ≤ 6 ∧ ∀ q, B.has q → ∀ row ∈ B.tags q, row.length ≤ 3 ∧ ∀ κ ∈ row, κ.ok B.recs.length B.vars.length ∧ κ.dep ≤ 3 := by
  obtain ⟨nr, nv, bs, hb, e1, e2, _, _⟩ := h.ex
  have h3 := hb.f3
  refine ⟨by rw [Bk.all_len]; omega, fun q hq row hr => ?_⟩
  have hok := (Bk.tags_mem h.ok hq hr).2
  obtain ⟨v, n⟩ := q
  cases v with
  | false =>
    have hn : n < B.recs.length := hq
    obtain ⟨row', g1, g2, g3⟩ := idx_rec hn
    obtain ⟨k1, k2⟩ := hb.rr n row' g1
    rw [g3] at hr
    have hr := List.mem_singleton.mp hr
    subst hr
    exact ⟨k1, fun κ hκ => ⟨hok κ hκ, (k2 κ hκ).2.1⟩⟩
  | true =>
    have hn : n < B.vars.length := hq
    obtain ⟨ts, g1, g2, g3⟩ := idx_var hn
    obtain ⟨k0, k1, k2⟩ := hb.vv n ts g1
    rw [g3] at hr
    have := (k2 row hr).1
    exact ⟨by omega, fun κ hκ => ⟨hok κ hκ, ((k2 row hr).2 κ hκ).2.1⟩⟩
theorem row0_mem {B : Bk} (hB : B.ok) {q : Nm} (hq : B.has q) : row0 B q ∈ B.tags q := by
  have h := (Bk.tags_len hB hq).2
  unfold row0
  cases e : B.tags q with
  | nil => exact absurd e h
  | cons a b => exact List.mem_cons_self
theorem seen_lt {B : Bk} (h : Drawn B) {S : List Nm} {q : Nm} (hS : S.Nodup) (hh : ∀ p ∈ S, B.has p) (hq : B.has q) (hm : q ∉ S) : S.length < 6 ∧ (S ++ [q]).Nodup ∧ (∀ p ∈ S ++ [q], B.has p) := by
  have hn : (S ++ [q]).Nodup := List.nodup_append.mpr ⟨hS, by simp, fun a ha b hb => by
    rw [List.mem_singleton.mp hb]; exact fun e => hm (e ▸ ha)⟩
  have hp : ∀ p ∈ S ++ [q], B.has p := fun p hp => by
    rcases List.mem_append.mp hp with hp | hp
    · exact hh p hp
    · rw [List.mem_singleton.mp hp]; exact hq
  have h1 := nodup_le hn fun p h => Bk.mem_all.mpr (hp p h)
  rw [List.length_append] at h1
  have := h.small.1
  simp only [List.length_cons, List.length_nil] at h1
  exact ⟨by omega, hn, hp⟩
theorem all_filter {α : Type} {p : α → Bool} {l : List α} : (l.filter fun a => !p a).isEmpty = l.all p := by
  have h := isEmpty_filter (p := fun a => !p a) (l := l)
  have h2 : l.any (fun a => !p a) = !l.all p := by
    induction l with
    | nil => rfl
    | cons a l ih => rw [List.any_cons, List.all_cons, ih (isEmpty_filter), Bool.not_and]
  rw [h2] at h
  cases hb : (l.filter fun a => !p a).isEmpty <;> cases hc : l.all p <;> rw [hb, hc] at h <;> first | rfl | cases h
theorem fin_w {B : Bk} (hD : Drawn B) {st : Sto} : ∀ (f N : Nat) (κ : Kd) (S : List Nm), f ≤ N → κ.ok B.recs.length B.vars.length → κ.dep ≤ 8 → S.Nodup → (∀ q ∈ S, B.has q) → κ.dep + 1 + (6 - S.length) * 5 ≤ f →
    R__law_finite N [bookD B, kdD κ, .lst (S.map nmD)] st = .ok (.bl (finF B f κ S)) st := by
  intro f
  have eb : bookD B = .tup [.tup (B.recs.map rowD), .tup (B.vars.map tagsD)] := rfl
  induction f with
  | zero => intro N κ S _ _ _ _ _ h; omega
  | succ f ih =>
    intro N κ S hN hk hd hS hh hf
    obtain ⟨N', rfl⟩ : ∃ N', N = N' + 1 := ⟨N - 1, by omega⟩
    rw [R__law_finite_succ]
    refine wp_eq ?_
    unfold F__law_finite
    walk_at "def"
    unfold d__law_finite
    walk_at "w"
    refine in_kd (by omega) ?_
    walk_at "w"
    cases κ with
    | int =>
      refine if_f ?_
      unfold kdD d__law_finite_R3
      walk_at "w"
      refine if_dF (by decide) ?_
      walk_at "w"
      unfold d__law_finite_R2
      walk_at "w"
      refine if_dF (by decide) ?_
      walk_at "w"
      unfold d__law_finite_R1
      walk_at "w"
      refine if_dF (by decide) ?_
      walk_at "w"
      exact ⟨rfl, rfl⟩
    | bool =>
      refine if_f ?_
      unfold kdD d__law_finite_R3
      walk_at "w"
      refine if_dF (by decide) ?_
      walk_at "w"
      unfold d__law_finite_R2
      walk_at "w"
      refine if_dF (by decide) ?_
      walk_at "w"
      unfold d__law_finite_R1
      walk_at "w"
      refine if_dF (by decide) ?_
      walk_at "w"
      exact ⟨rfl, rfl⟩
    | vec k =>
      refine if_f ?_
      rw [show kdD (.vec k) = .tup [.str "vec", kdD k] from rfl]
      unfold d__law_finite_R3
      walk_at "w"
      refine if_dF (by decide) ?_
      walk_at "w"
      unfold d__law_finite_R2
      walk_at "w"
      refine if_dF (by decide) ?_
      walk_at "w"
      unfold d__law_finite_R1
      walk_at "w"
      refine if_dF (by decide) ?_
      walk_at "w"
      exact ⟨rfl, rfl⟩
    | box k =>
      refine if_f ?_
      have hd' : k.dep + 1 ≤ 8 := hd
      have hf' : k.dep + 1 + 1 + (6 - S.length) * 5 ≤ f + 1 := hf
      rw [show kdD (.box k) = .tup [.str "box", kdD k] from rfl]
      unfold d__law_finite_R3
      walk_at "w"
      refine if_dT rfl ?_
      walk_at "w"
      exact wp_of (ih N' k S (by omega) hk (by omega) hS hh (by omega)) ⟨rfl, rfl⟩
    | nm v n =>
      have hq : B.has (v, n) := hk
      have eF : finF B (f + 1) (.nm v n) S = if (v, n) ∈ S then false else (row0 B (v, n)).all fun κ' => finF B f κ' (S ++ [(v, n)]) := rfl
      show if decide ((v, n) ∈ S) = true then _ else _
      refine if_dec (fun hm => ?_) (fun hm => ?_)
      · walk_at "w"
        exact ⟨by rw [eF, if_pos hm], rfl⟩
      · rw [if_neg hm] at eF
        obtain ⟨hl, hn1, hn2⟩ := seen_lt hD hS hh hq hm
        have hr0 := row0_mem hD.ok hq
        obtain ⟨r1, r2⟩ := hD.small.2 _ hq _ hr0
        have sub : ∀ κ' ∈ row0 B (v, n), ∀ st', st' = st → R__law_finite N' [bookD B, kdD κ', .lst ((S ++ [(v, n)]).map nmD)] st' = .ok (.bl (finF B f κ' (S ++ [(v, n)]))) st' := fun κ' hκ st' e => by
          subst e
          have := (r2 κ' hκ).2
          refine ih N' κ' (S ++ [(v, n)]) (by omega) (r2 κ' hκ).1 (by omega) hn1 hn2 ?_
          rw [List.length_append]
          simp only [List.length_cons, List.length_nil]
          have : (Kd.nm v n).dep = 0 := rfl
          omega
        cases v with
        | false =>
          obtain ⟨row, h1, h2, h3⟩ := idx_rec (B := B) (n := n) hk
          have e0 : row0 B (false, n) = row := by unfold row0; rw [h3]; rfl
          rw [e0] at sub r1 r2 eF
          rw [show kdD (.nm false n) = .tup [.str "record", .int n] from rfl, eb]
          unfold d__law_finite_R3
          walk_at "w"
          refine if_dF (by decide) ?_
          walk_at "w"
          unfold d__law_finite_R2
          walk_at "w"
          refine if_dT rfl ?_
          unfold d__law_finite_B1
          walk_at "w"
          with_reducible refine wp_comp (σ := [some (.tup [.tup (B.recs.map rowD), .tup (B.vars.map tagsD)]), some (.tup [.str "record", .int n]), some (.lst (S.map nmD)), none]) ?hw ?_
          case hw => exact rfl
          walk_at "w"
          refine wq_ixt (ix_row (by rw [List.getElem?_map, h1]; rfl)) ?_
          unfold rowD
          walk_at "w"
          rw [← show rowD = (fun r : Row => D.tup (r.map kdD)) from rfl]
          refine wp_filt kdD (fun κ => [some (.tup [.tup (B.recs.map rowD), .tup (B.vars.map tagsD)]), some (.tup [.str "record", .int n]), some (.lst (S.map nmD)), some (kdD κ)]) (fun κ => !(finF B f κ (S ++ [(false, n)]))) (fun κ _ => rfl) (fun κ hκ => ?_) (fun κ _ => rfl) (by omega) ?_
          · refine wp_eq ?_
            unfold d__law_finite_Q1
            walk_at "w"
            refine wq_addl (by rw [List.length_map]; simp only [List.length_cons, List.length_nil]; omega) ?_
            rw [← eb, show S.map nmD ++ [D.tup [.str "record", .int n]] = (S ++ [(false, n)]).map nmD from by rw [List.map_append]; rfl]
            walk_at "w"
            refine wp_of (sub κ hκ _ rfl) ?_
            walk_at "w"
            exact ⟨rfl, rfl⟩
          · walk_at "w"
            refine wp_of (dq_nilL (fun d hd => ?_) (fun d hd => ?_)) ?_
            · obtain ⟨κ, _, rfl⟩ := List.mem_map.mp hd; exact pl_kd κ
            · obtain ⟨κ, hκ, rfl⟩ := List.mem_map.mp hd
              have := (r2 κ (List.mem_filter.mp hκ).1).2
              have := dp_kd κ
              omega
            · walk_at "w"
              refine ⟨?_, rfl⟩
              rw [eF, Bool.false_xor, List.isEmpty_map, all_filter]
        | true =>
          obtain ⟨ts, h1, h2, h3⟩ := idx_var (B := B) (n := n) hk
          have hl0 := (hD.ok.v ts h2).1
          obtain ⟨row, h4⟩ : ∃ row, ts[0]? = some row := ⟨_, List.getElem?_eq_getElem (by omega)⟩
          have e0 : row0 B (true, n) = row := by
            unfold row0
            rw [h3]
            cases ts with
            | nil => cases h4
            | cons a b => cases h4; rfl
          rw [e0] at sub r1 r2 eF
          rw [show kdD (.nm true n) = .tup [.str "variant", .int n] from rfl, eb]
          unfold d__law_finite_R3
          walk_at "w"
          refine if_dF (by decide) ?_
          walk_at "w"
          unfold d__law_finite_R2
          walk_at "w"
          refine if_dF (by decide) ?_
          walk_at "w"
          unfold d__law_finite_R1
          walk_at "w"
          refine if_dT rfl ?_
          unfold d__law_finite_B2
          walk_at "w"
          with_reducible refine wp_comp (σ := [some (.tup [.tup (B.recs.map rowD), .tup (B.vars.map tagsD)]), some (.tup [.str "variant", .int n]), some (.lst (S.map nmD)), none]) ?hw2 ?_
          case hw2 => exact rfl
          walk_at "w"
          refine wq_ixt (ix_row (by rw [List.getElem?_map, h1]; rfl)) ?_
          unfold tagsD
          walk_at "w"
          rw [← show tagsD = (fun ts : List Row => D.tup (ts.map rowD)) from rfl]
          refine wq_ixt (show atI _ ((0 : Nat) : Int) = _ from ix_row (by rw [List.getElem?_map, h4]; rfl)) ?_
          unfold rowD
          walk_at "w"
          rw [← show rowD = (fun r : Row => D.tup (r.map kdD)) from rfl]
          refine wp_filt kdD (fun κ => [some (.tup [.tup (B.recs.map rowD), .tup (B.vars.map tagsD)]), some (.tup [.str "variant", .int n]), some (.lst (S.map nmD)), some (kdD κ)]) (fun κ => !(finF B f κ (S ++ [(true, n)]))) (fun κ _ => rfl) (fun κ hκ => ?_) (fun κ _ => rfl) (by omega) ?_
          · refine wp_eq ?_
            unfold d__law_finite_Q2
            walk_at "w"
            refine wq_addl (by rw [List.length_map]; simp only [List.length_cons, List.length_nil]; omega) ?_
            rw [← eb, show S.map nmD ++ [D.tup [.str "variant", .int n]] = (S ++ [(true, n)]).map nmD from by rw [List.map_append]; rfl]
            walk_at "w"
            refine wp_of (sub κ hκ _ rfl) ?_
            walk_at "w"
            exact ⟨rfl, rfl⟩
          · walk_at "w"
            refine wp_of (dq_nilL (fun d hd => ?_) (fun d hd => ?_)) ?_
            · obtain ⟨κ, _, rfl⟩ := List.mem_map.mp hd; exact pl_kd κ
            · obtain ⟨κ, hκ, rfl⟩ := List.mem_map.mp hd
              have := (r2 κ (List.mem_filter.mp hκ).1).2
              have := dp_kd κ
              omega
            · walk_at "w"
              refine ⟨?_, rfl⟩
              rw [eF, Bool.false_xor, List.isEmpty_map, all_filter]
theorem finX_w {B : Bk} (hD : Drawn B) {κ : Kd} (hk : κ.ok B.recs.length B.vars.length) (hd : κ.dep ≤ 8) {st : Sto} : X__law_finite [bookD B, kdD κ, .lst []] st = .ok (.bl (finF B 40 κ [])) st :=
  fin_w hD 40 60 κ [] (by omega) hk hd List.nodup_nil (fun q h => by cases h) (by simp only [List.length_nil]; omega)
end

section

local macro_rules | `(tactic| walk_at "x1") => `(tactic| first | (with_reducible refine isi_tup ?_) | (with_reducible refine isi_int ?_) | (with_reducible refine isi_nbl ?_) | (with_reducible refine isi_bl ?_) | (with_reducible refine isi_str ?_) | (with_reducible refine wq_lent ?_) | (with_reducible refine wq_lenl ?_) | (with_reducible refine wq_listt ?_))
/-! ### drawing values -/
def Gd (B : Bk) (f p : Nat) (κ : Kd) (d : D) : Prop := (∀ n, f ≤ n → valB B n κ d = true) ∧ Sp p 3 d
theorem Gd.mono {B : Bk} {f p f' p' : Nat} {κ : Kd} {d : D} (h : Gd B f p κ d) (hf : f ≤ f') (hp : p ≤ p') : Gd B f' p' κ d := ⟨fun n hn => h.1 n (by omega), h.2.mono hp (Nat.le_refl _)⟩
theorem All2.snoc {α β : Type} {R : α → β → Prop} {a : α} {b : β} : ∀ {as : List α} {bs : List β}, All2 R as bs → R a b → All2 R (as ++ [a]) (bs ++ [b])
  | _, _, .nil, h => .cons h .nil
  | _, _, .cons h t, h2 => .cons h (t.snoc h2)
theorem All2.mono {α β : Type} {R T : α → β → Prop} (f : ∀ a b, R a b → T a b) : ∀ {as : List α} {bs : List β}, All2 R as bs → All2 T as bs
  | _, _, .nil => .nil
  | _, _, .cons h t => .cons (f _ _ h) (t.mono f)
theorem All2.len {α β : Type} {R : α → β → Prop} : ∀ {as : List α} {bs : List β}, All2 R as bs → bs.length = as.length
  | _, _, .nil => rfl
  | _, _, .cons _ t => by rw [List.length_cons, List.length_cons, t.len]
theorem All2.mem {α β : Type} {R : α → β → Prop} : ∀ {as : List α} {bs : List β}, All2 R as bs → ∀ b ∈ bs, ∃ a ∈ as, R a b
  | _, _, .nil, _, h => (List.not_mem_nil h).elim
  | _, _, .cons h t, b, hb => by
    rcases List.mem_cons.mp hb with rfl | hb
    · exact ⟨_, List.mem_cons_self, h⟩
    · obtain ⟨a, h1, h2⟩ := t.mem b hb
      exact ⟨a, List.mem_cons_of_mem _ h1, h2⟩
theorem all2_zip {v : Kd → D → Bool} : ∀ {row : List Kd} {ds : List D}, All2 (fun κ d => v κ d = true) row ds → ((row.zip ds).all fun p => v p.1 p.2) = true
  | _, _, .nil => rfl
  | _, _, .cons h t => by rw [List.zip_cons_cons, List.all_cons, all2_zip t, h]; rfl
theorem all2_row {v : Kd → D → Bool} {row : List Kd} {ds : List D} (h : All2 (fun κ d => v κ d = true) row ds) : rowB v row (.tup ds) = true := by
  show (decide (ds.length = row.length) && _) = true
  rw [decide_eq_true h.len, all2_zip h]; rfl
theorem gd_rows {B : Bk} {f p : Nat} {row : Row} {ds : List D} (h : All2 (Gd B f p) row ds) (hl : row.length ≤ 3) : (∀ n, f ≤ n → rowB (valB B n) row (.tup ds) = true) ∧ Sp (p + 1) 3 (.tup ds) :=
  ⟨fun n hn => all2_row (h.mono fun κ d g => g.1 n hn), Sp.tup (by rw [h.len]; exact hl) fun d hd => by
    obtain ⟨κ, _, g⟩ := h.mem d hd
    exact g.2⟩
theorem gd_rec {B : Bk} {f p n : Nat} {row : Row} {ds : List D} (hn : B.recs[n]? = some row) (h : All2 (Gd B f p) row ds) (hl : row.length ≤ 3) : Gd B (f + 1) (p + 2) (.nm false n) (.tup [.str "record", .tup ds]) := by
  obtain ⟨h1, h2⟩ := gd_rows h hl
  refine ⟨fun m hm => ?_, Sp.pair (by omega) (Sp.str (ok_word _ (by decide))) h2⟩
  obtain ⟨m, rfl⟩ : ∃ m', m = m' + 1 := ⟨m - 1, by omega⟩
  have eV : ∀ d, valB B (m + 1) (.nm false n) d = two "record" (rowB (valB B m) (B.recs.getD n [])) d := fun _ => rfl
  rw [eV, two_ok, List.getD_eq_getElem?_getD, hn]
  exact h1 m (by omega)
theorem gd_var {B : Bk} {f p n t : Nat} {ts : List Row} {row : Row} {ds : List D} (hn : B.vars[n]? = some ts) (ht : ts[t]? = some row) (h : All2 (Gd B f p) row ds) (hl : row.length ≤ 3) : Gd B (f + 1) (p + 2) (.nm true n) (.tup [.str "variant", .int t, .tup ds]) := by
  obtain ⟨h1, h2⟩ := gd_rows h hl
  refine ⟨fun m hm => ?_, Sp.tup (by simp) fun d hd => ?_⟩
  · obtain ⟨m, rfl⟩ : ∃ m', m = m' + 1 := ⟨m - 1, by omega⟩
    have hlt := (List.getElem?_eq_some_iff.mp ht).1
    have eV : ∀ d, valB B (m + 1) (.nm true n) d = tri "variant" (B.vars.getD n []) (rowB (valB B m)) d := fun _ => rfl
    have e1 : B.vars.getD n [] = ts := by rw [List.getD_eq_getElem?_getD, hn]; rfl
    have e2 : ts.getD (natOf (.int (t : Int))) [] = row := by
      show ts.getD ((t : Int).toNat) [] = _
      rw [Int.toNat_natCast, List.getD_eq_getElem?_getD, ht]; rfl
    have e3 : numB (.int (t : Int)) ts.length = true := by
      show (decide (0 ≤ (t : Int)) && decide ((t : Int) < ts.length)) = true
      rw [decide_eq_true (by omega), decide_eq_true (by omega)]; rfl
    rw [eV, tri_ok, e1, e2, e3, h1 m (by omega)]; rfl
  · simp only [List.mem_cons, List.not_mem_nil, or_false] at hd
    rcases hd with rfl | rfl | rfl
    · exact Sp.str (ok_word _ (by decide))
    · exact Sp.int
    · exact h2
theorem gd_box {B : Bk} {f p : Nat} {k : Kd} {d : D} (h : Gd B f p k d) : Gd B (f + 1) (p + 1) (.box k) (.tup [.str "box", d]) := by
  refine ⟨fun m hm => ?_, Sp.pair (by omega) (Sp.str (ok_word _ (by decide))) h.2⟩
  obtain ⟨m, rfl⟩ : ∃ m', m = m' + 1 := ⟨m - 1, by omega⟩
  have eV : ∀ d, valB B (m + 1) (.box k) d = two "box" (valB B m k) d := fun _ => rfl
  rw [eV, two_ok]
  exact h.1 m (by omega)
theorem gd_vec {B : Bk} {f p : Nat} {k : Kd} {ds : List D} (hl : ds.length ≤ 3) (h : ∀ d ∈ ds, Gd B f p k d) : Gd B (f + 1) (p + 2) (.vec k) (.tup [.str "vec", .tup ds]) := by
  refine ⟨fun m hm => ?_, Sp.pair (by omega) (Sp.str (ok_word _ (by decide))) (Sp.tup hl fun d hd => (h d hd).2)⟩
  obtain ⟨m, rfl⟩ : ∃ m', m = m' + 1 := ⟨m - 1, by omega⟩
  have eV : ∀ d, valB B (m + 1) (.vec k) d = two "vec" (vecB (valB B m k)) d := fun _ => rfl
  rw [eV, two_ok]
  exact List.all_eq_true.mpr fun d hd => (h d hd).1 m (by omega)
theorem vals_d {G : Kd → D → Prop} {row : Row} {te : DE} {g : Kd → En} {σ : En} {o : Ob} {R : Sto} {Q : List D → Sto → Prop} {E : Exn → Sto → Prop} (hl : row.length ≤ 3) (hp : ∀ κ, (Tgt.one 4).put (kdD κ) σ = some (g κ))
    (he : ∀ κ ∈ row, ∀ o, Rd o → Wp (te (g κ) (o :: R)) (fun d st => ∃ o', G κ d ∧ Rd o' ∧ st = o' :: R) NoX) (ho : Rd o) (q : ∀ ds o', All2 G row ds → Rd o' → Q ds (o' :: R)) : Wp (compL (.one 4) dYes te σ (row.map kdD) [] (o :: R)) Q E := by
  refine wp_compL (P := fun i acc st' => ∃ o', All2 G (row.take i) acc ∧ Rd o' ∧ st' = o' :: R) ⟨o, .nil, ho, rfl⟩ (by rw [List.length_map]; omega) ?_ ?_
  · rintro i d acc st' hd ⟨o', h1, ho', rfl⟩
    rw [List.getElem?_map] at hd
    cases hr : row[i]? with
    | none => rw [hr] at hd; cases hd
    | some κ =>
      rw [hr] at hd
      cases hd
      refine ⟨_, hp κ, ?_⟩
      unfold dYes
      walk_at "w"
      refine (he κ (List.mem_of_getElem? hr) o' ho').to fun d st ⟨o2, h2, ho2, e⟩ => ?_
      subst e
      exact ⟨o2, by rw [List.take_succ, hr]; exact h1.snoc h2, ho2, rfl⟩
  · rintro out st' ⟨o', h1, ho', rfl⟩
    rw [List.length_map, List.take_length] at h1
    exact q out o' h1 ho'
theorem vecs_d {G : D → Prop} {k : Int} {te : DE} {g : D → En} {σ : En} {o : Ob} {R : Sto} {Q : List D → Sto → Prop} {E : Exn → Sto → Prop} (hl : k ≤ 3) (hp : ∀ d, (Tgt.one 7).put d σ = some (g d))
    (he : 0 < k → ∀ d o, Rd o → Wp (te (g d) (o :: R)) (fun d st => ∃ o', G d ∧ Rd o' ∧ st = o' :: R) NoX) (ho : Rd o) (q : ∀ ds o', ds.length ≤ 3 → (∀ d ∈ ds, G d) → Rd o' → Q ds (o' :: R)) : Wp (compL (.one 7) dYes te σ (rng 0 k) [] (o :: R)) Q E := by
  refine wp_compL (P := fun i acc st' => ∃ o', acc.length = i ∧ (∀ d ∈ acc, G d) ∧ Rd o' ∧ st' = o' :: R) ⟨o, rfl, (fun d h => by cases h), ho, rfl⟩ (by rw [rng_len]; omega) ?_ ?_
  · rintro i d acc st' hd ⟨o', h0, h1, ho', rfl⟩
    have hi := (rng_ix hd).2
    refine ⟨_, hp d, ?_⟩
    unfold dYes
    walk_at "w"
    refine (he (by omega) d o' ho').to fun d st ⟨o2, h2, ho2, e⟩ => ?_
    subst e
    refine ⟨o2, by rw [List.length_append, h0]; rfl, fun x hx => ?_, ho2, rfl⟩
    rcases List.mem_append.mp hx with hx | hx
    · exact h1 x hx
    · rw [List.mem_singleton.mp hx]; exact h2
  · rintro out st' ⟨o', h0, h1, ho', rfl⟩
    rw [rng_len] at h0
    exact q out o' (by omega) h1 ho'
section
variable {B : Bk} {R : Sto} {N : Nat} {z : Int} {o : Ob}
theorem val_int (ho : Rd o) : Wp (R__law_value (N + 1) [.ref 0, bookD B, kdD .int, .int z] (o :: R)) (fun d st => ∃ o', Gd B 1 0 .int d ∧ Rd o' ∧ st = o' :: R) NoX := by
  rw [R__law_value_succ]
  unfold F__law_value
  walk_at "def"
  unfold d__law_value kdD
  walk_at "w"
  refine if_dT rfl ?_
  unfold d__law_value_B1
  walk_at "w"
  refine take_w ho fun v o1 h1 ho1 => ?_
  walk_at "w"
  refine pickW h1 rfl (by decide) fun d hd => ?_
  walk_at "w"
  refine ⟨o1, ⟨fun n hn => ?_, ?_⟩, ho1, rfl⟩
  · obtain ⟨m, rfl⟩ : ∃ m', n = m' + 1 := ⟨n - 1, by omega⟩
    show numB d 4294967296 = true
    simp only [List.mem_cons, List.not_mem_nil, or_false] at hd
    rcases hd with rfl | rfl | rfl | rfl | rfl <;> decide
  · simp only [List.mem_cons, List.not_mem_nil, or_false] at hd
    rcases hd with rfl | rfl | rfl | rfl | rfl <;> exact Sp.int
theorem val_bool (ho : Rd o) : Wp (R__law_value (N + 1) [.ref 0, bookD B, kdD .bool, .int z] (o :: R)) (fun d st => ∃ o', Gd B 1 0 .bool d ∧ Rd o' ∧ st = o' :: R) NoX := by
  rw [R__law_value_succ]
  unfold F__law_value
  walk_at "def"
  unfold d__law_value kdD
  walk_at "w"
  refine if_dF (by decide) ?_
  walk_at "w"
  unfold d__law_value_R5
  walk_at "w"
  refine if_dT rfl ?_
  walk_at "w"
  refine take_w ho fun v o1 h1 ho1 => ?_
  walk_at "w"
  refine ⟨o1, ⟨fun n hn => ?_, ?_⟩, ho1, rfl⟩
  · obtain ⟨m, rfl⟩ : ∃ m', n = m' + 1 := ⟨n - 1, by omega⟩
    rfl
  · exact ⟨rfl, Nat.zero_le _, Nat.zero_le _⟩
theorem val_box {f p : Nat} {k : Kd} (ho : Rd o) (ih : Wp (R__law_value N [.ref 0, bookD B, kdD k, .int (z - 1)] (o :: R)) (fun d st => ∃ o', Gd B f p k d ∧ Rd o' ∧ st = o' :: R) NoX) :
    Wp (R__law_value (N + 1) [.ref 0, bookD B, kdD (.box k), .int z] (o :: R)) (fun d st => ∃ o', Gd B (f + 1) (p + 1) (.box k) d ∧ Rd o' ∧ st = o' :: R) NoX := by
  rw [R__law_value_succ]
  unfold F__law_value
  walk_at "def"
  unfold d__law_value
  rw [show kdD (.box k) = .tup [.str "box", kdD k] from rfl]
  walk_at "w"
  refine if_dF (by decide) ?_
  walk_at "w"
  unfold d__law_value_R5
  walk_at "w"
  refine if_dF (by decide) ?_
  walk_at "w"
  unfold d__law_value_R4
  walk_at "w"
  refine if_dF (by decide) ?_
  walk_at "w"
  unfold d__law_value_R3
  walk_at "w"
  refine if_dF (by decide) ?_
  walk_at "w"
  unfold d__law_value_R2
  walk_at "w"
  refine if_dT rfl ?_
  unfold d__law_value_B5
  walk_at "w"
  refine ih.toN ?_
  rintro d st ⟨o', h1, ho', rfl⟩
  walk_at "w"
  exact ⟨o', gd_box h1, ho', rfl⟩
theorem val_rec {f p n : Nat} {row : Row} (hn : B.recs[n]? = some row) (hl : row.length ≤ 3) (ho : Rd o) (ih : ∀ κ ∈ row, ∀ o, Rd o → Wp (R__law_value N [.ref 0, bookD B, kdD κ, .int (z - 1)] (o :: R)) (fun d st => ∃ o', Gd B f p κ d ∧ Rd o' ∧ st = o' :: R) NoX) :
    Wp (R__law_value (N + 1) [.ref 0, bookD B, kdD (.nm false n), .int z] (o :: R)) (fun d st => ∃ o', Gd B (f + 1) (p + 2) (.nm false n) d ∧ Rd o' ∧ st = o' :: R) NoX := by
  have eb : bookD B = .tup [.tup (B.recs.map rowD), .tup (B.vars.map tagsD)] := rfl
  rw [R__law_value_succ]
  unfold F__law_value
  walk_at "def"
  unfold d__law_value
  rw [show kdD (.nm false n) = .tup [.str "record", .int n] from rfl, eb]
  walk_at "w"
  refine if_dF (by decide) ?_
  walk_at "w"
  unfold d__law_value_R5
  walk_at "w"
  refine if_dF (by decide) ?_
  walk_at "w"
  unfold d__law_value_R4
  walk_at "w"
  refine if_dT rfl ?_
  unfold d__law_value_B2
  walk_at "w"
  with_reducible refine wp_comp (σ := [some (.ref 0), some (.tup [.tup (B.recs.map rowD), .tup (B.vars.map tagsD)]), some (.tup [.str "record", .int n]), some (.int z), none, none, none, none]) ?hw ?_
  case hw => exact rfl
  walk_at "w"
  refine wq_ixt (ix_row (by rw [List.getElem?_map, hn]; rfl)) ?_
  unfold rowD
  walk_at "w"
  rw [← show rowD = (fun r : Row => D.tup (r.map kdD)) from rfl]
  refine vals_d (G := Gd B f p) (g := fun κ => [some (.ref 0), some (.tup [.tup (B.recs.map rowD), .tup (B.vars.map tagsD)]), some (.tup [.str "record", .int n]), some (.int z), some (kdD κ), none, none, none]) hl (fun κ => rfl) (fun κ hκ o ho => ?_) ho fun ds o' h1 ho' => ?_
  · unfold d__law_value_C1
    walk_at "w"
    rw [← eb]
    exact ih κ hκ o ho
  · walk_at "w"
    exact ⟨o', gd_rec hn h1 hl, ho', rfl⟩
def vTail (c1 c2 c3 : DF) : DS := dRet (dTup (dCons (dC (.str "variant")) (dCons (dVar 5) (dCons (dApp cTuple (dCons (dComp (iAny (dBin dIxA (dBin dIxA (dBin dIxA (dVar 1) (dC (.int 1))) (dBin dIxA (dVar 2) (dC (.int 1)))) (dVar 5))) (.one 4) (dYes) (d__law_value_C3 c1 c2 c3) [4]) (dNil))) (dNil)))))
theorem b4_eq (c1 c2 c3 : DF) : d__law_value_B4 c1 c2 c3 = dSeq (dAsg (dC (.int 0)) (gN 5)) (dSeq (dIfS (dTst (dBin (dGtI) (dVar 3) (dC (.int 0)))) (d__law_value_B3 c1 c2 c3) (dNext)) (vTail c1 c2 c3)) := rfl
theorem var_tail {f p n t : Nat} {ts : List Row} {row : Row} {x4 : Option D} {Q : Fl × En → Sto → Prop} {E : Exn → Sto → Prop} (hn : B.vars[n]? = some ts) (ht : ts[t]? = some row) (hl : row.length ≤ 3) (ho : Rd o) (ih : ∀ κ ∈ row, ∀ o, Rd o → Wp (R__law_value N [.ref 0, bookD B, kdD κ, .int (z - 1)] (o :: R)) (fun d st => ∃ o', Gd B f p κ d ∧ Rd o' ∧ st = o' :: R) NoX)
    (q : ∀ d τ o', Gd B (f + 1) (p + 2) (.nm true n) d → Rd o' → Q (.rt d, τ) (o' :: R)) : Wp (vTail X__law_take (R__law_value N) X__law_finite [some (.ref 0), some (bookD B), some (kdD (.nm true n)), some (.int z), x4, some (.int t), none, none] (o :: R)) Q E := by
  have eb : bookD B = .tup [.tup (B.recs.map rowD), .tup (B.vars.map tagsD)] := rfl
  rw [show kdD (.nm true n) = .tup [.str "variant", .int n] from rfl, eb]
  unfold vTail
  walk_at "w"
  with_reducible refine wp_comp (σ := [some (.ref 0), some (.tup [.tup (B.recs.map rowD), .tup (B.vars.map tagsD)]), some (.tup [.str "variant", .int n]), some (.int z), none, some (.int t), none, none]) ?hw ?_
  case hw => exact rfl
  walk_at "w"
  refine wq_ixt (ix_row (by rw [List.getElem?_map, hn]; rfl)) ?_
  unfold tagsD
  walk_at "w"
  rw [← show tagsD = (fun ts : List Row => D.tup (ts.map rowD)) from rfl]
  refine wq_ixt (ix_row (by rw [List.getElem?_map, ht]; rfl)) ?_
  unfold rowD
  walk_at "w"
  rw [← show rowD = (fun r : Row => D.tup (r.map kdD)) from rfl]
  refine vals_d (G := Gd B f p) (g := fun κ => [some (.ref 0), some (.tup [.tup (B.recs.map rowD), .tup (B.vars.map tagsD)]), some (.tup [.str "variant", .int n]), some (.int z), some (kdD κ), some (.int t), none, none]) hl (fun κ => rfl) (fun κ hκ o ho => ?_) ho fun ds o' h1 ho' => ?_
  · unfold d__law_value_C3
    walk_at "w"
    rw [← eb]
    exact ih κ hκ o ho
  · walk_at "w"
    exact q _ _ o' (gd_var hn ht h1 hl) ho'
end
end

section

local macro_rules | `(tactic| walk_at "x1") => `(tactic| first | (with_reducible refine isi_tup ?_) | (with_reducible refine isi_int ?_) | (with_reducible refine isi_nbl ?_) | (with_reducible refine isi_bl ?_) | (with_reducible refine isi_str ?_) | (with_reducible refine wq_lent ?_) | (with_reducible refine wq_lenl ?_) | (with_reducible refine wq_listt ?_))
section
variable {B : Bk} {R : Sto} {N : Nat} {z : Int} {o : Ob}
def wTail (c1 c2 c3 : DF) : DS := dRet (dTup (dCons (dC (.str "vec")) (dCons (dApp cTuple (dCons (dComp (iRng1D (dCons (dVar 6) (dNil))) (.one 7) (dYes) (d__law_value_C4 c1 c2 c3) [7]) (dNil))) (dNil))))
theorem r1_eq (c1 c2 c3 : DF) : d__law_value_R1 c1 c2 c3 = dSeq (dAsg (dC (.int 0)) (gN 6)) (dSeq (dIfS (dAndT (dTst (dBin (dGtI) (dVar 3) (dC (.int 0)))) (dTru (dApp c3 (dCons (dVar 1) (dCons (dBin dIxA (dVar 2) (dC (.int 1))) (dCons (dLst (dNil)) (dNil))))))) (dAsg (dBin dMod (dApp c1 (dCons (dVar 0) (dNil))) (dC (.int 3))) (gN 6)) (dNext)) (wTail c1 c2 c3)) := rfl
theorem vec_tail {f p : Nat} {k : Kd} {m : Int} {Q : Fl × En → Sto → Prop} {E : Exn → Sto → Prop} (hm0 : 0 ≤ m) (hm : m ≤ 2) (ho : Rd o) (ih : 0 < m → ∀ o, Rd o → Wp (R__law_value N [.ref 0, bookD B, kdD k, .int (z - 1)] (o :: R)) (fun d st => ∃ o', Gd B f p k d ∧ Rd o' ∧ st = o' :: R) NoX)
    (q : ∀ d τ o', Gd B (f + 1) (p + 2) (.vec k) d → Rd o' → Q (.rt d, τ) (o' :: R)) : Wp (wTail X__law_take (R__law_value N) X__law_finite [some (.ref 0), some (bookD B), some (.tup [.str "vec", kdD k]), some (.int z), none, none, some (.int m), none] (o :: R)) Q E := by
  unfold wTail
  walk_at "w"
  with_reducible refine wp_comp (σ := [some (.ref 0), some (bookD B), some (.tup [.str "vec", kdD k]), some (.int z), none, none, some (.int m), none]) ?hw ?_
  case hw => exact rfl
  walk_at "w"
  refine vecs_d (G := Gd B f p k) (g := fun d => [some (.ref 0), some (bookD B), some (.tup [.str "vec", kdD k]), some (.int z), none, none, some (.int m), some d]) (by omega) (fun d => rfl) (fun h0 d o ho => ?_) ho fun ds o' hl h1 ho' => ?_
  · unfold d__law_value_C4
    walk_at "w"
    exact ih h0 o ho
  · walk_at "w"
    exact q _ _ o' (gd_vec hl h1) ho'
theorem val_vec (hD : Drawn B) {f p : Nat} {k : Kd} (hk : k.ok B.recs.length B.vars.length) (hd : k.dep ≤ 8) (ho : Rd o) (ih : 0 < z → finF B 40 k [] = true → ∀ o, Rd o → Wp (R__law_value N [.ref 0, bookD B, kdD k, .int (z - 1)] (o :: R)) (fun d st => ∃ o', Gd B f p k d ∧ Rd o' ∧ st = o' :: R) NoX) :
    Wp (R__law_value (N + 1) [.ref 0, bookD B, kdD (.vec k), .int z] (o :: R)) (fun d st => ∃ o', Gd B (f + 1) (p + 2) (.vec k) d ∧ Rd o' ∧ st = o' :: R) NoX := by
  rw [R__law_value_succ]
  unfold F__law_value
  walk_at "def"
  unfold d__law_value
  rw [show kdD (.vec k) = .tup [.str "vec", kdD k] from rfl]
  walk_at "w"
  refine if_dF (by decide) ?_
  walk_at "w"
  unfold d__law_value_R5
  walk_at "w"
  refine if_dF (by decide) ?_
  walk_at "w"
  unfold d__law_value_R4
  walk_at "w"
  refine if_dF (by decide) ?_
  walk_at "w"
  unfold d__law_value_R3
  walk_at "w"
  refine if_dF (by decide) ?_
  walk_at "w"
  unfold d__law_value_R2
  walk_at "w"
  refine if_dF (by decide) ?_
  rw [r1_eq]
  walk_at "w"
  refine if_dec (fun hz => ?_) (fun hz => ?_)
  · walk_at "w"
    with_reducible refine wp_of (finX_w hD hk hd) ?_
    walk_at "w"
    refine if_b (fun hf => ?_) (fun hf => ?_)
    · walk_at "w"
      refine take_w ho fun v o1 h1 ho1 => ?_
      walk_at "w"
      have a := Int.emod_nonneg v (b := 3) (by omega)
      have b := Int.emod_lt_of_pos v (b := 3) (by omega)
      refine vec_tail (f := f) (p := p) a (by omega) ho1 (fun _ => ih hz hf) fun d τ o' h1 ho' => ?_
      walk_at "w"
      exact ⟨o', h1, ho', rfl⟩
    · walk_at "w"
      refine vec_tail (f := f) (p := p) (by omega) (by omega) ho (fun h => by omega) fun d τ o' h1 ho' => ?_
      walk_at "w"
      exact ⟨o', h1, ho', rfl⟩
  · refine if_f ?_
    walk_at "w"
    refine vec_tail (f := f) (p := p) (by omega) (by omega) ho (fun h => by omega) fun d τ o' h1 ho' => ?_
    walk_at "w"
    exact ⟨o', h1, ho', rfl⟩
theorem row0_var {n : Nat} {ts : List Row} (hB : B.ok) (hn : B.vars[n]? = some ts) : ts[0]? = some (row0 B (true, n)) := by
  have h1 := (hB.v ts (List.mem_of_getElem? hn)).1
  have e : B.tags (true, n) = ts := by
    show B.vars.getD n [] = ts
    rw [List.getD_eq_getElem?_getD, hn]; rfl
  unfold row0
  rw [e]
  cases ts with
  | nil => simp at h1
  | cons a b => rfl
theorem val_var (hD : Drawn B) {f p n : Nat} {ts : List Row} (hn : B.vars[n]? = some ts) (ho : Rd o)
    (ih0 : ∀ κ ∈ row0 B (true, n), ∀ o, Rd o → Wp (R__law_value N [.ref 0, bookD B, kdD κ, .int (z - 1)] (o :: R)) (fun d st => ∃ o', Gd B f p κ d ∧ Rd o' ∧ st = o' :: R) NoX)
    (ih1 : 0 < z → ∀ row ∈ ts, ∀ κ ∈ row, finF B 40 κ [] = true → ∀ o, Rd o → Wp (R__law_value N [.ref 0, bookD B, kdD κ, .int (z - 1)] (o :: R)) (fun d st => ∃ o', Gd B f p κ d ∧ Rd o' ∧ st = o' :: R) NoX) :
    Wp (R__law_value (N + 1) [.ref 0, bookD B, kdD (.nm true n), .int z] (o :: R)) (fun d st => ∃ o', Gd B (f + 1) (p + 2) (.nm true n) d ∧ Rd o' ∧ st = o' :: R) NoX := by
  have eb : bookD B = .tup [.tup (B.recs.map rowD), .tup (B.vars.map tagsD)] := rfl
  have ek : kdD (.nm true n) = .tup [.str "variant", .int n] := rfl
  have hlt := (List.getElem?_eq_some_iff.mp hn).1
  have hq : B.has (true, n) := hlt
  have hts : B.tags (true, n) = ts := by
    show B.vars.getD n [] = ts
    rw [List.getD_eq_getElem?_getD, hn]; rfl
  obtain ⟨hl0, hl20, _⟩ := hD.ok.v ts (List.mem_of_getElem? hn)
  have sm := hD.small.2 _ hq
  rw [hts] at sm
  have h00 := row0_var hD.ok hn
  have hl00 := (sm _ (List.mem_of_getElem? h00)).1
  rw [R__law_value_succ]
  unfold F__law_value
  walk_at "def"
  unfold d__law_value
  rw [ek, eb]
  walk_at "w"
  refine if_dF (by decide) ?_
  walk_at "w"
  unfold d__law_value_R5
  walk_at "w"
  refine if_dF (by decide) ?_
  walk_at "w"
  unfold d__law_value_R4
  walk_at "w"
  refine if_dF (by decide) ?_
  walk_at "w"
  unfold d__law_value_R3
  walk_at "w"
  refine if_dT rfl ?_
  rw [b4_eq]
  walk_at "w"
  have fin0 : ∀ (o : Ob) (x4 : Option D), Rd o → Wp (vTail X__law_take (R__law_value N) X__law_finite [some (.ref 0), some (.tup [.tup (B.recs.map rowD), .tup (B.vars.map tagsD)]), some (.tup [.str "variant", .int n]), some (.int z), x4, some (.int 0), none, none] (o :: R))
      (seqK (d__law_value_R2 X__law_take (R__law_value N) X__law_finite) (finK (fun d st => ∃ o', Gd B (f + 1) (p + 2) (.nm true n) d ∧ Rd o' ∧ st = o' :: R) NoX) NoX) NoX := fun o x4 ho => by
    refine var_tail (f := f) (p := p) (n := n) (t := 0) hn h00 hl00 ho ih0 fun d τ o' h1 ho' => ?_
    walk_at "w"
    exact ⟨o', h1, ho', rfl⟩
  refine if_dec (fun hz => ?_) (fun hz => ?_)
  · unfold d__law_value_B3
    walk_at "w"
    refine take_w ho fun v o1 h1 ho1 => ?_
    walk_at "w"
    refine wq_ixt (ix_row (by rw [List.getElem?_map, hn]; rfl)) ?_
    unfold tagsD
    walk_at "w"
    rw [← show tagsD = (fun ts : List Row => D.tup (ts.map rowD)) from rfl]
    rw [List.length_map]
    have a := Int.emod_nonneg v (b := (ts.length : Int)) (by omega)
    have b := Int.emod_lt_of_pos v (b := (ts.length : Int)) (by omega)
    refine wq_mod (by omega) ?_
    obtain ⟨t, ht⟩ : ∃ t : Nat, v % (ts.length : Int) = t := ⟨_, (Int.toNat_of_nonneg a).symm⟩
    rw [ht] at b ⊢
    obtain ⟨row, hr⟩ : ∃ row, ts[t]? = some row := ⟨_, List.getElem?_eq_getElem (by omega)⟩
    have hrm := List.mem_of_getElem? hr
    obtain ⟨s1, s2⟩ := sm row hrm
    walk_at "w"
    with_reducible refine wp_comp (σ := [some (.ref 0), some (.tup [.tup (B.recs.map rowD), .tup (B.vars.map tagsD)]), some (.tup [.str "variant", .int n]), some (.int z), none, some (.int t), none, none]) ?hw ?_
    case hw => exact rfl
    walk_at "w"
    refine wq_ixt (ix_row (by rw [List.getElem?_map, hn]; rfl)) ?_
    unfold tagsD
    walk_at "w"
    rw [← show tagsD = (fun ts : List Row => D.tup (ts.map rowD)) from rfl]
    refine wq_ixt (ix_row (by rw [List.getElem?_map, hr]; rfl)) ?_
    unfold rowD
    walk_at "w"
    rw [← show rowD = (fun r : Row => D.tup (r.map kdD)) from rfl]
    refine wp_filt kdD (fun κ => [some (.ref 0), some (.tup [.tup (B.recs.map rowD), .tup (B.vars.map tagsD)]), some (.tup [.str "variant", .int n]), some (.int z), some (kdD κ), some (.int t), none, none]) (fun κ => !(finF B 40 κ [])) (fun κ _ => rfl) (fun κ hκ => ?_) (fun κ _ => rfl) (by omega) ?_
    · refine wp_eq ?_
      unfold d__law_value_Q1
      walk_at "w"
      rw [← eb]
      have := (s2 κ hκ).2
      with_reducible refine wp_of (finX_w hD (s2 κ hκ).1 (by omega)) ?_
      walk_at "w"
      exact ⟨rfl, rfl⟩
    · walk_at "w"
      refine wp_of (dq_nilL (fun d hd => ?_) (fun d hd => ?_)) ?_
      · obtain ⟨κ, _, rfl⟩ := List.mem_map.mp hd; exact pl_kd κ
      · obtain ⟨κ, hκ, rfl⟩ := List.mem_map.mp hd
        have := (s2 κ (List.mem_filter.mp hκ).1).2
        have := dp_kd κ
        omega
      · walk_at "w"
        rw [Bool.true_xor, List.isEmpty_map, all_filter]
        refine if_nb (fun hall => ?_) (fun hall => ?_)
        · walk_at "w"
          exact fin0 o1 _ ho1
        · walk_at "w"
          refine var_tail (f := f) (p := p) (n := n) (t := t) hn hr s1 ho1 (fun κ hκ => ih1 hz row hrm κ hκ (List.all_eq_true.mp hall κ hκ)) fun d τ o' h1 ho' => ?_
          walk_at "w"
          exact ⟨o', h1, ho', rfl⟩
  · walk_at "w"
    exact fin0 o _ ho
end
theorem val0 {B : Bk} (hD : Drawn B) {R : Sto} : ∀ (f N : Nat) (κ : Kd) (S : List Nm) (z : Int) (o : Ob), f ≤ N → finF B f κ S = true → κ.ok B.recs.length B.vars.length → κ.dep ≤ 8 → S.Nodup → (∀ q ∈ S, B.has q) → z ≤ 0 → Rd o →
    Wp (R__law_value N [.ref 0, bookD B, kdD κ, .int z] (o :: R)) (fun d st => ∃ o', Gd B f (κ.dep + 2 + (6 - S.length) * 5) κ d ∧ Rd o' ∧ st = o' :: R) NoX := by
  intro f
  induction f with
  | zero => intro N κ S z o _ h; cases h
  | succ f ih =>
    intro N κ S z o hN hf hk hd hS hh hz ho
    obtain ⟨N', rfl⟩ : ∃ N', N = N' + 1 := ⟨N - 1, by omega⟩
    cases κ with
    | int => exact (val_int ho).to fun d st ⟨o', h, ho', e⟩ => ⟨o', h.mono (by omega) (by omega), ho', e⟩
    | bool => exact (val_bool ho).to fun d st ⟨o', h, ho', e⟩ => ⟨o', h.mono (by omega) (by omega), ho', e⟩
    | box k =>
      have hd' : k.dep + 1 ≤ 8 := hd
      have e0 : (Kd.box k).dep = k.dep + 1 := rfl
      exact (val_box ho (ih N' k S (z - 1) o (by omega) hf hk (by omega) hS hh (by omega) ho)).to fun d st ⟨o', h, ho', e⟩ => ⟨o', h.mono (by omega) (by omega), ho', e⟩
    | vec k =>
      have hd' : k.dep + 1 ≤ 8 := hd
      exact (val_vec (N := N') (z := z) (R := R) hD (f := f) (p := 0) (k := k) hk (by omega) ho (fun h => by omega)).to fun d st ⟨o', h, ho', e⟩ => ⟨o', h.mono (by omega) (by omega), ho', e⟩
    | nm v n =>
      obtain ⟨f1, f2⟩ := fin_nm hf
      have hq : B.has (v, n) := hk
      obtain ⟨hl, hn1, hn2⟩ := seen_lt hD hS hh hq f1
      obtain ⟨r1, r2⟩ := hD.small.2 _ hq _ (row0_mem hD.ok hq)
      have sub : ∀ κ ∈ row0 B (v, n), ∀ o, Rd o → Wp (R__law_value N' [.ref 0, bookD B, kdD κ, .int (z - 1)] (o :: R)) (fun d st => ∃ o', Gd B f (5 + (5 - S.length) * 5) κ d ∧ Rd o' ∧ st = o' :: R) NoX := fun κ hκ o ho => by
        obtain ⟨k1, k2⟩ := r2 κ hκ
        refine (ih N' κ (S ++ [(v, n)]) (z - 1) o (by omega) (f2 κ hκ) k1 (by omega) hn1 hn2 (by omega) ho).to fun d st ⟨o', h, ho', e⟩ => ⟨o', h.mono (Nat.le_refl _) ?_, ho', e⟩
        rw [List.length_append]
        simp only [List.length_cons, List.length_nil]
        omega
      have e0 : (Kd.nm v n).dep = 0 := rfl
      cases v with
      | false =>
        obtain ⟨row, h1, h2, h3⟩ := idx_rec (B := B) (n := n) hk
        have er : row0 B (false, n) = row := by unfold row0; rw [h3]; rfl
        rw [er] at sub r1
        exact (val_rec h1 r1 ho sub).to fun d st ⟨o', h, ho', e⟩ => ⟨o', h.mono (by omega) (by omega), ho', e⟩
      | true =>
        obtain ⟨ts, h1, h2, h3⟩ := idx_var (B := B) (n := n) hk
        exact (val_var hD h1 ho sub (fun h => by omega)).to fun d st ⟨o', h, ho', e⟩ => ⟨o', h.mono (by omega) (by omega), ho', e⟩
theorem val1 {B : Bk} (hD : Drawn B) {R : Sto} : ∀ (z N : Nat) (κ : Kd) (o : Ob), 40 + z ≤ N → finF B 40 κ [] = true → κ.ok B.recs.length B.vars.length → κ.dep ≤ 3 → Rd o →
    Wp (R__law_value N [.ref 0, bookD B, kdD κ, .int (z : Nat)] (o :: R)) (fun d st => ∃ o', Gd B (40 + z) (35 + 2 * z) κ d ∧ Rd o' ∧ st = o' :: R) NoX := by
  intro z
  induction z with
  | zero =>
    intro N κ o hN hf hk hd ho
    refine (val0 hD 40 N κ [] ((0 : Nat) : Int) o (by omega) hf hk (by omega) List.nodup_nil (fun q h => by cases h) (by omega) ho).to fun d st ⟨o', h, ho', e⟩ => ⟨o', h.mono (by omega) ?_, ho', e⟩
    simp only [List.length_nil]
    omega
  | succ z ih =>
    intro N κ o hN hf hk hd ho
    obtain ⟨N', rfl⟩ : ∃ N', N = N' + 1 := ⟨N - 1, by omega⟩
    have ez : ((z + 1 : Nat) : Int) - 1 = (z : Nat) := by omega
    have nul : ∀ {f g : Nat} {κ : Kd} {S : List Nm}, f ≤ g → finF B f κ S = true → finF B g κ [] = true := fun hfg h => fin_mono hfg (fun q h => by cases h) h
    cases κ with
    | int => exact (val_int ho).to fun d st ⟨o', h, ho', e⟩ => ⟨o', h.mono (by omega) (by omega), ho', e⟩
    | bool => exact (val_bool ho).to fun d st ⟨o', h, ho', e⟩ => ⟨o', h.mono (by omega) (by omega), ho', e⟩
    | box k =>
      have hd' : k.dep + 1 ≤ 3 := hd
      have hf : finF B 39 k [] = true := hf
      have g := ih N' k o (by omega) (nul (by omega) hf) hk (by omega) ho
      rw [← ez] at g
      exact (val_box ho g).to fun d st ⟨o', h, ho', e⟩ => ⟨o', h.mono (by omega) (by omega), ho', e⟩
    | vec k =>
      have hd' : k.dep + 1 ≤ 3 := hd
      exact (val_vec (N := N') (z := ((z + 1 : Nat) : Int)) (R := R) hD (f := 40 + z) (p := 35 + 2 * z) (k := k) hk (by omega) ho (fun _ hf o ho => by
        have g := ih N' k o (by omega) hf hk (by omega) ho
        rw [← ez] at g
        exact g)).to fun d st ⟨o', h, ho', e⟩ => ⟨o', h.mono (by omega) (by omega), ho', e⟩
    | nm v n =>
      obtain ⟨f1, f2⟩ := fin_nm hf
      have hq : B.has (v, n) := hk
      obtain ⟨r1, r2⟩ := hD.small.2 _ hq _ (row0_mem hD.ok hq)
      have sub : ∀ κ ∈ row0 B (v, n), ∀ o, Rd o → Wp (R__law_value N' [.ref 0, bookD B, kdD κ, .int (((z + 1 : Nat) : Int) - 1)] (o :: R)) (fun d st => ∃ o', Gd B (40 + z) (35 + 2 * z) κ d ∧ Rd o' ∧ st = o' :: R) NoX := fun κ hκ o ho => by
        obtain ⟨k1, k2⟩ := r2 κ hκ
        rw [ez]
        exact ih N' κ o (by omega) (nul (by omega) (f2 κ hκ)) k1 k2 ho
      cases v with
      | false =>
        obtain ⟨row, h1, h2, h3⟩ := idx_rec (B := B) (n := n) hk
        have er : row0 B (false, n) = row := by unfold row0; rw [h3]; rfl
        rw [er] at sub r1
        exact (val_rec h1 r1 ho sub).to fun d st ⟨o', h, ho', e⟩ => ⟨o', h.mono (by omega) (by omega), ho', e⟩
      | true =>
        obtain ⟨ts, h1, h2, h3⟩ := idx_var (B := B) (n := n) hk
        have sm := hD.small.2 _ hq
        rw [h3] at sm
        exact (val_var hD h1 ho sub (fun _ row hr κ hκ hf o ho => by
          obtain ⟨k1, k2⟩ := (sm row hr).2 κ hκ
          rw [ez]
          exact ih N' κ o (by omega) hf k1 k2 ho)).to fun d st ⟨o', h, ho', e⟩ => ⟨o', h.mono (by omega) (by omega), ho', e⟩
end

section

local macro_rules | `(tactic| walk_at "x1") => `(tactic| first | (with_reducible refine isi_tup ?_) | (with_reducible refine isi_int ?_) | (with_reducible refine isi_nbl ?_) | (with_reducible refine isi_bl ?_) | (with_reducible refine isi_str ?_) | (with_reducible refine wq_lent ?_) | (with_reducible refine wq_lenl ?_) | (with_reducible refine wq_listt ?_))
/-! ### the law -/
theorem wq_ist {st : Sto} {Q : D → Sto → Prop} {E : Exn → Sto → Prop} (q : Q (.bl false) st) : Wp (dIs true (.bl true) (.bl true) st) Q E := q
theorem wq_neb {b : Bool} {st : Sto} {Q : D → Sto → Prop} {E : Exn → Sto → Prop} (q : Q (.bl false) st) : Wp (dEq true (.bl b) (.bl b) st) Q E := by
  cases b <;> exact q
theorem law_m {ns : List Int} {c1 c2 c3 c4 c5 c6 c7 c8 c9 c10 c12 : DF} {o o1 : Ob} {B : Bk} {sz : Kd → Int} {fn : Kd → Bool} {va : Kd → D → Bool} (ho1 : Rd o1)
    (e1 : c1 [.fro (ns.map .int)] [] = .ok (.ref 0) [o]) (e2 : c2 [.ref 0] [o] = .ok (bookD B) [o1]) (e3 : ∀ st, c3 [bookD B] st = .ok (.bl true) st)
    (e4 : ∀ o, Rd o → Wp (c4 [.ref 0, .ref 1, .int 3] [o, cntO B.recs.length B.vars.length]) (fun d st => ∃ κ o', d = kdD κ ∧ κ.ok B.recs.length B.vars.length ∧ κ.dep ≤ 3 ∧ Rd o' ∧ st = [o', cntO B.recs.length B.vars.length]) NoX)
    (e5 : ∀ κ, κ.ok B.recs.length B.vars.length → ∀ st, c5 [bookD B, kdD κ] st = .ok (.int (sz κ)) st)
    (e5r : ∀ d st, c5 [bookD B, .tup [.str "ref", d]] st = .ok (.int 1) st) (e5m : ∀ d st, c5 [bookD B, .tup [.str "mut", d]] st = .ok (.int 1) st)
    (e6 : ∀ κ, κ.ok B.recs.length B.vars.length → ∀ st, c6 [bookD B, kdD κ] st = .ok (.int (sz κ)) st)
    (e7 : ∀ κ, κ.ok B.recs.length B.vars.length → κ.dep ≤ 3 → ∀ st, c7 [bookD B, kdD κ, .lst []] st = .ok (.bl (fn κ)) st)
    (e8 : ∀ κ o, fn κ = true → κ.ok B.recs.length B.vars.length → κ.dep ≤ 3 → Rd o → Wp (c8 [.ref 0, bookD B, kdD κ, .int 5] [o, cntO B.recs.length B.vars.length]) (fun d st => ∃ o', va κ d = true ∧ Sp 45 3 d ∧ Rd o' ∧ st = [o', cntO B.recs.length B.vars.length]) NoX)
    (e9 : ∀ κ d st, κ.ok B.recs.length B.vars.length → Sp 60 100000 d → c9 [bookD B, kdD κ, d] st = .ok (.bl (va κ d)) st)
    (e12 : ∀ κ d st, κ.ok B.recs.length B.vars.length → Sp 60 100000 d → c12 [bookD B, kdD κ, d] st = .ok (.bl (va κ d)) st)
    (e10 : ∀ (k p w : Nat) (d : D) (o : Ob) (R : Sto) (Q : D → Sto → Prop) (E : Exn → Sto → Prop), k < 60 → Sp p w d → p ≤ 60 → 3 ≤ w → w ≤ 100000 → Rd o → (∀ r o', Sp (p + 2) (w + 1) r → Rd o' → Q r (o' :: R)) →
      Wp (c10 [.ref 0, d, .int k] (o :: R)) Q E) :
    Wp (F_law c1 c2 c3 c4 c5 c6 c7 c8 c9 c10 X__law_take c12 [.fro (ns.map .int)] []) (fun d _ => d = .bl true) NoX := by
  have eb : bookD B = .tup [.tup (B.recs.map rowD), .tup (B.vars.map tagsD)] := rfl
  unfold F_law
  with_reducible refine wp_def (τ := [some (.fro (ns.map .int)), none, none, none, none, none, none, none, none]) ?hl ?ht ?_
  case hl => rfl
  case ht => rfl
  unfold d_law
  walk_at "w"
  with_reducible refine wp_of e1 ?_
  walk_at "w"
  with_reducible refine wp_of e2 ?_
  rw [eb]
  walk_at "w"
  rw [List.length_map, List.length_map, ← eb]
  rw [show ∀ a b : Int, [o1] ++ [Ob.dK [(.inr "record", .int a), (.inr "variant", .int b)]] = [o1, Ob.dK [(.inr "record", .int a), (.inr "variant", .int b)]] from fun _ _ => rfl]
  rw [← show cntO B.recs.length B.vars.length = Ob.dK [(.inr "record", .int B.recs.length), (.inr "variant", .int B.vars.length)] from rfl]
  with_reducible refine wp_of (e3 _) ?_
  walk_at "w"
  unfold d_law_R1
  generalize cntO B.recs.length B.vars.length = C at e4 e8 ⊢
  walk_at "w"
  with_reducible refine wp_forN (P := fun i τ st' => ∃ (o' : Ob) (x4 x5 x6 x7 x8 : Option D), Rd o' ∧ τ = [some (.fro (ns.map .int)), some (.ref 0), some (bookD B), some (.ref 1), x4, x5, x6, x7, x8] ∧ st' = [o', C]) ?h0 ?hs ?hq
  case h0 => exact ⟨o1, _, _, _, _, _, ho1, rfl, rfl⟩
  case hq =>
    rintro τ st' ⟨o', x4, x5, x6, x7, x8, ho', rfl, rfl⟩
    walk_at "w"
    with_reducible rfl
  case hs =>
    rintro i d τ st' hd ⟨o', x4, x5, x6, x7, x8, ho', rfl, rfl⟩
    simp only [List.set_cons_succ, List.set_cons_zero]
    unfold d_law_L2
    walk_at "w"
    with_reducible refine Wp.toN (e4 o' ho') ?_
    rintro dk st ⟨κ, o2, rfl, hk, hd3, ho2, rfl⟩
    walk_at "w"
    with_reducible refine wp_of (e5 κ hk _) ?_
    walk_at "w"
    with_reducible refine wp_of (e6 κ hk _) ?_
    walk_at "w"
    with_reducible refine if_ndec (fun h => absurd rfl h) (fun _ => ?_)
    walk_at "w"
    with_reducible refine wp_of (e5r _ _) ?_
    walk_at "w"
    with_reducible refine if_ndec (fun h => absurd rfl h) (fun _ => ?_)
    walk_at "w"
    with_reducible refine wp_of (e5m _ _) ?_
    walk_at "w"
    with_reducible refine if_ndec (fun h => absurd rfl h) (fun _ => ?_)
    walk_at "w"
    with_reducible refine wp_of (e7 κ hk hd3 _) ?_
    walk_at "w"
    with_reducible refine if_b (fun hf => ?_) (fun hf => ?_)
    · unfold d_law_B1
      walk_at "w"
      with_reducible refine Wp.toN (e8 κ o2 hf hk hd3 ho2) ?_
      rintro v st ⟨o3, hv, hsp, ho3, rfl⟩
      walk_at "w"
      with_reducible refine wp_of (e9 κ v _ hk (hsp.mono (by omega) (by omega))) ?_
      rw [hv]
      walk_at "w"
      with_reducible refine wq_ist ?_
      walk_at "w"
      with_reducible refine wp_forN (P := fun j τ st' => ∃ (r : D) (o' : Ob) (x7 x8 : Option D), Sp (45 + 2 * j) (3 + j) r ∧ Rd o' ∧ τ = [some (.fro (ns.map .int)), some (.ref 0), some (bookD B), some (.ref 1), some d, some (kdD κ), some r, x7, x8] ∧ st' = [o', C]) ?h02 ?hs2 ?hq2
      case h02 => exact ⟨v, o3, _, _, hsp, ho3, rfl, rfl⟩
      case hq2 =>
        rintro τ st' ⟨r, o4, x7, x8, hr, ho4, rfl, rfl⟩
        walk_at "w"
        exact ⟨o4, _, _, _, _, _, ho4, rfl, rfl⟩
      case hs2 =>
        rintro j d2 τ st' hd2 ⟨r, o4, x7, x8, hr, ho4, rfl, rfl⟩
        have hj := (rng_ix hd2).2
        simp only [List.set_cons_succ, List.set_cons_zero]
        unfold d_law_L1
        walk_at "w"
        refine take_w (R := [C]) ho4 fun v2 o5 h5 ho5 => ?_
        walk_at "w"
        have a5 := Int.emod_nonneg v2 (b := 4) (by omega)
        have b5 := Int.emod_lt_of_pos v2 (b := 4) (by omega)
        obtain ⟨n, hn⟩ : ∃ n : Nat, 1 + v2 % 4 = n := ⟨(1 + v2 % 4).toNat, by omega⟩
        rw [hn]
        refine e10 n (45 + 2 * j) (3 + j) r o5 [C] _ _ (by omega) hr (by omega) (by omega) (by omega) ho5 fun r2 o6 hr2 ho6 => ?_
        walk_at "w"
        with_reducible refine wp_of (e9 κ r2 _ hk (hr2.mono (by omega) (by omega))) ?_
        walk_at "w"
        with_reducible refine wp_of (e12 κ r2 _ hk (hr2.mono (by omega) (by omega))) ?_
        walk_at "w"
        with_reducible refine wq_neb ?_
        walk_at "w"
        exact ⟨r2, o6, _, _, hr2.mono (by omega) (by omega), ho6, rfl, rfl⟩
    · walk_at "w"
      exact ⟨o2, _, _, _, _, _, ho2, rfl, rfl⟩
theorem fin_ok {F : DF} {ds : List D} (h : Wp (F ds []) (fun d _ => d = .bl true) NoX) : ∃ st, F ds [] = .ok (.bl true) st := by
  obtain ⟨d, st, e, h2⟩ := wp_ex h
  exact ⟨st, by rw [e, h2]⟩
theorem law_n {ns : List Int} {c1 c2 c3 c4 c5 c6 c7 c8 c9 c10 c12 : DF}
    (e1 : ∃ o, c1 [.fro (ns.map .int)] [] = .ok (.ref 0) [o] ∧ Rd o) (e2 : ∀ {o : Ob}, Rd o → ∃ B o', c2 [.ref 0] [o] = .ok (bookD B) [o'] ∧ Rd o' ∧ Drawn B)
    (e3 : ∀ {B : Bk}, Drawn B → ∃ (sz : Kd → Int) (fn : Kd → Bool) (va : Kd → D → Bool), (∀ st, c3 [bookD B] st = .ok (.bl true) st) ∧
      (∀ o, Rd o → Wp (c4 [.ref 0, .ref 1, .int 3] [o, cntO B.recs.length B.vars.length]) (fun d st => ∃ κ o', d = kdD κ ∧ κ.ok B.recs.length B.vars.length ∧ κ.dep ≤ 3 ∧ Rd o' ∧ st = [o', cntO B.recs.length B.vars.length]) NoX) ∧
      (∀ κ, κ.ok B.recs.length B.vars.length → ∀ st, c5 [bookD B, kdD κ] st = .ok (.int (sz κ)) st) ∧
      (∀ d st, c5 [bookD B, .tup [.str "ref", d]] st = .ok (.int 1) st) ∧ (∀ d st, c5 [bookD B, .tup [.str "mut", d]] st = .ok (.int 1) st) ∧
      (∀ κ, κ.ok B.recs.length B.vars.length → ∀ st, c6 [bookD B, kdD κ] st = .ok (.int (sz κ)) st) ∧
      (∀ κ, κ.ok B.recs.length B.vars.length → κ.dep ≤ 3 → ∀ st, c7 [bookD B, kdD κ, .lst []] st = .ok (.bl (fn κ)) st) ∧
      (∀ κ o, fn κ = true → κ.ok B.recs.length B.vars.length → κ.dep ≤ 3 → Rd o → Wp (c8 [.ref 0, bookD B, kdD κ, .int 5] [o, cntO B.recs.length B.vars.length]) (fun d st => ∃ o', va κ d = true ∧ Sp 45 3 d ∧ Rd o' ∧ st = [o', cntO B.recs.length B.vars.length]) NoX) ∧
      (∀ κ d st, κ.ok B.recs.length B.vars.length → Sp 60 100000 d → c9 [bookD B, kdD κ, d] st = .ok (.bl (va κ d)) st) ∧
      (∀ κ d st, κ.ok B.recs.length B.vars.length → Sp 60 100000 d → c12 [bookD B, kdD κ, d] st = .ok (.bl (va κ d)) st))
    (e10 : ∀ (k p w : Nat) (d : D) (o : Ob) (R : Sto) (Q : D → Sto → Prop) (E : Exn → Sto → Prop), k < 60 → Sp p w d → p ≤ 60 → 3 ≤ w → w ≤ 100000 → Rd o → (∀ r o', Sp (p + 2) (w + 1) r → Rd o' → Q r (o' :: R)) →
      Wp (c10 [.ref 0, d, .int k] (o :: R)) Q E) :
    ∃ st, F_law c1 c2 c3 c4 c5 c6 c7 c8 c9 c10 X__law_take c12 [.fro (ns.map .int)] [] = .ok (.bl true) st := by
  obtain ⟨o, f1, ho⟩ := e1
  obtain ⟨B, o1, f2, ho1, hD⟩ := e2 ho
  obtain ⟨sz, fn, va, g3, g4, g5, g5r, g5m, g6, g7, g8, g9, g12⟩ := e3 hD
  exact fin_ok (law_m ho1 f1 f2 g3 g4 g5 g5r g5m g6 g7 g8 g9 g12 e10)
theorem t2 {o : Ob} (ho : Rd o) : ∃ B o', X__law_book [.ref 0] [o] = .ok (bookD B) [o'] ∧ Rd o' ∧ Drawn B := book_d ho
theorem t10 (k p w : Nat) (d : D) (o : Ob) (R : Sto) (Q : D → Sto → Prop) (E : Exn → Sto → Prop) (h1 : k < 60) (h2 : Sp p w d) (h3 : p ≤ 60) (h3b : 3 ≤ w) (h4 : w ≤ 100000) (h5 : Rd o) (h6 : ∀ r o', Sp (p + 2) (w + 1) r → Rd o' → Q r (o' :: R)) :
    Wp (X__law_spoilt [.ref 0, d, .int k] (o :: R)) Q E := spoilt_w 60 k p w d o R Q E h1 h2 h3 h3b h4 h5 h6
theorem t4 {B : Bk} (hD : Drawn B) (o : Ob) (ho : Rd o) : Wp (X__law_data [.ref 0, .ref 1, .int 3] [o, cntO B.recs.length B.vars.length]) (fun d st => ∃ κ o', d = kdD κ ∧ κ.ok B.recs.length B.vars.length ∧ κ.dep ≤ 3 ∧ Rd o' ∧ st = [o', cntO B.recs.length B.vars.length]) NoX := by
  obtain ⟨nr, nv, bs, hb, a1, a2, h1, h2⟩ := hD.ex
  subst a1
  subst a2
  exact data_d h1 h2 60 3 o (by omega) ho
theorem t8 {B : Bk} (hD : Drawn B) (κ : Kd) (o : Ob) (hf : finF B 40 κ [] = true) (hk : κ.ok B.recs.length B.vars.length) (hd : κ.dep ≤ 3) (ho : Rd o) : Wp (X__law_value [.ref 0, bookD B, kdD κ, .int 5] [o, cntO B.recs.length B.vars.length]) (fun d st => ∃ o', valB B 64 κ d = true ∧ Sp 45 3 d ∧ Rd o' ∧ st = [o', cntO B.recs.length B.vars.length]) NoX :=
  (val1 hD (R := [cntO B.recs.length B.vars.length]) 5 60 κ o (by omega) hf hk hd ho).to fun d st ⟨o', h, ho', e⟩ => ⟨o', h.1 64 (by omega), h.2, ho', e⟩
theorem t9 {B : Bk} (hD : Drawn B) (κ : Kd) (d : D) (st : Sto) (hk : κ.ok B.recs.length B.vars.length) (hs : Sp 60 100000 d) : X_is_value [bookD B, kdD κ, d] st = .ok (.bl (valB B 64 κ d)) st := isv_w hD.ok 64 140 60 κ d st hk hs (by omega) (by omega)
theorem t12 {B : Bk} (hD : Drawn B) (κ : Kd) (d : D) (st : Sto) (hk : κ.ok B.recs.length B.vars.length) (hs : Sp 60 100000 d) : X__law_is_value [bookD B, kdD κ, d] st = .ok (.bl (valB B 64 κ d)) st := lisv_w hD.ok 64 140 60 κ d st hk hs (by omega) (by omega) (by omega)
theorem t3a : ("ref" : Str) ∈ yk_SIZES := by decide
theorem t3b : valD k_SIZES (.inr ("ref" : Str)) = some (.int 1) := rfl
theorem t3c : ("mut" : Str) ∈ yk_SIZES := by decide
theorem t3d : valD k_SIZES (.inr ("mut" : Str)) = some (.int 1) := rfl
theorem t3e : 3 ≤ 8 := by decide
theorem t3 {B : Bk} (hD : Drawn B) : ∃ (sz : Kd → Int) (fn : Kd → Bool) (va : Kd → D → Bool), (∀ st, X__law_places_right [bookD B] st = .ok (.bl true) st) ∧
      (∀ o, Rd o → Wp (X__law_data [.ref 0, .ref 1, .int 3] [o, cntO B.recs.length B.vars.length]) (fun d st => ∃ κ o', d = kdD κ ∧ κ.ok B.recs.length B.vars.length ∧ κ.dep ≤ 3 ∧ Rd o' ∧ st = [o', cntO B.recs.length B.vars.length]) NoX) ∧
      (∀ κ, κ.ok B.recs.length B.vars.length → ∀ st, X_size_of [bookD B, kdD κ] st = .ok (.int (sz κ)) st) ∧
      (∀ d st, X_size_of [bookD B, .tup [.str "ref", d]] st = .ok (.int 1) st) ∧ (∀ d st, X_size_of [bookD B, .tup [.str "mut", d]] st = .ok (.int 1) st) ∧
      (∀ κ, κ.ok B.recs.length B.vars.length → ∀ st, X__law_flat [bookD B, kdD κ] st = .ok (.int (sz κ)) st) ∧
      (∀ κ, κ.ok B.recs.length B.vars.length → κ.dep ≤ 3 → ∀ st, X__law_finite [bookD B, kdD κ, .lst []] st = .ok (.bl (fn κ)) st) ∧
      (∀ κ o, fn κ = true → κ.ok B.recs.length B.vars.length → κ.dep ≤ 3 → Rd o → Wp (X__law_value [.ref 0, bookD B, kdD κ, .int 5] [o, cntO B.recs.length B.vars.length]) (fun d st => ∃ o', va κ d = true ∧ Sp 45 3 d ∧ Rd o' ∧ st = [o', cntO B.recs.length B.vars.length]) NoX) ∧
      (∀ κ d st, κ.ok B.recs.length B.vars.length → Sp 60 100000 d → X_is_value [bookD B, kdD κ, d] st = .ok (.bl (va κ d)) st) ∧
      (∀ κ d st, κ.ok B.recs.length B.vars.length → Sp 60 100000 d → X__law_is_value [bookD B, kdD κ, d] st = .ok (.bl (va κ d)) st) := by
  have hB := hD.ok
  have hR := hD.ranked
  obtain ⟨S, hS⟩ := size_ex hB hR
  have hr : ∀ q, B.has q → rk q ≤ 80 := fun q hq => by have := (hD.rows hq).1; omega
  with_reducible exact ⟨flS S, fun κ => finF B 40 κ [], fun κ d => valB B 64 κ d, fun st => placesX_w hB hS hR hr, fun o ho => t4 hD o ho, fun κ hk st => size_w hB hS hR hk,
    fun d st => size1_w t3a t3b, fun d st => size1_w t3c t3d, fun κ hk st => flatX_w hB hS hR hr κ hk st, fun κ hk hd st => finX_w hD hk (Nat.le_trans hd t3e), fun κ o hf hk hd ho => t8 hD κ o hf hk hd ho, fun κ d st hk hs => t9 hD κ d st hk hs, fun κ d st hk hs => t12 hD κ d st hk hs⟩
theorem law_x {ns : List Int} (hn : ns.length ≤ 63) : ∃ st, F_law X__law_start X__law_book X__law_places_right X__law_data X_size_of X__law_flat X__law_finite X__law_value X_is_value X__law_spoilt X__law_take X__law_is_value [.fro (ns.map .int)] [] = .ok (.bl true) st := by
  have a1 := start_w hn
  with_reducible exact law_n a1 t2 t3 t10
noncomputable abbrev LF : DF := F_law X__law_start X__law_book X__law_places_right X__law_data X_size_of X__law_flat X__law_finite X__law_value X_is_value X__law_spoilt X__law_take X__law_is_value
theorem law_ok : LawOk LF := fun ns hn _ => by
  with_reducible exact law_x hn
end

end K41

namespace K41
open PySem PySem.Spec PyProof.Rows L2 DL
theorem all_mk {P : Program} {w : World} {K : PySem.W.Frag} {h : Heap} {mg : Str → Option Value} {fa : Addr} (X : K.In h) (G : h.Ns mainGlobals mg) (hfa : mg "law" = some (.ref fa))
    {f_is_number : Addr} {od_is_number an_is_number : Option Addr} {sl_is_number : Array (Option Value)} {oc_is_number kV_is_number dc_is_number pm_is_number cd_is_number ct_is_number : Value}
    {f_has_word : Addr} {od_has_word an_has_word : Option Addr} {sl_has_word : Array (Option Value)} {oc_has_word kV_has_word dc_has_word pm_has_word cd_has_word ct_has_word : Value}
    {f_named_size : Addr} {od_named_size an_named_size : Option Addr} {sl_named_size : Array (Option Value)} {oc_named_size kV_named_size dc_named_size pm_named_size cd_named_size ct_named_size : Value}
    {f_flat_size : Addr} {od_flat_size an_flat_size : Option Addr} {sl_flat_size : Array (Option Value)} {oc_flat_size kV_flat_size dc_flat_size pm_flat_size cd_flat_size ct_flat_size : Value}
    {f_sum_of_sizes : Addr} {od_sum_of_sizes an_sum_of_sizes : Option Addr} {sl_sum_of_sizes : Array (Option Value)} {oc_sum_of_sizes kV_sum_of_sizes dc_sum_of_sizes pm_sum_of_sizes cd_sum_of_sizes ct_sum_of_sizes : Value}
    {f_size_of : Addr} {od_size_of an_size_of : Option Addr} {sl_size_of : Array (Option Value)} {oc_size_of kV_size_of dc_size_of pm_size_of cd_size_of ct_size_of : Value}
    {f_field_place : Addr} {od_field_place an_field_place : Option Addr} {sl_field_place : Array (Option Value)} {oc_field_place kV_field_place dc_field_place pm_field_place cd_field_place ct_field_place : Value}
    {f_part_place : Addr} {od_part_place an_part_place : Option Addr} {sl_part_place : Array (Option Value)} {oc_part_place kV_part_place dc_part_place pm_part_place cd_part_place ct_part_place : Value}
    {f_are_values : Addr} {od_are_values an_are_values : Option Addr} {sl_are_values : Array (Option Value)} {oc_are_values kV_are_values dc_are_values pm_are_values cd_are_values ct_are_values : Value}
    {f_is_value : Addr} {od_is_value an_is_value : Option Addr} {sl_is_value : Array (Option Value)} {oc_is_value kV_is_value dc_is_value pm_is_value cd_is_value ct_is_value : Value}
    {f__law_draws : Addr} {od__law_draws an__law_draws : Option Addr} {sl__law_draws : Array (Option Value)} {oc__law_draws kV__law_draws dc__law_draws pm__law_draws cd__law_draws ct__law_draws : Value}
    {f__law_take : Addr} {od__law_take an__law_take : Option Addr} {sl__law_take : Array (Option Value)} {oc__law_take kV__law_take dc__law_take pm__law_take cd__law_take ct__law_take : Value}
    {f__law_start : Addr} {od__law_start an__law_start : Option Addr} {sl__law_start : Array (Option Value)} {oc__law_start kV__law_start dc__law_start pm__law_start cd__law_start ct__law_start : Value}
    {f__law_data : Addr} {od__law_data an__law_data : Option Addr} {sl__law_data : Array (Option Value)} {oc__law_data kV__law_data dc__law_data pm__law_data cd__law_data ct__law_data : Value}
    {f__law_inside : Addr} {od__law_inside an__law_inside : Option Addr} {sl__law_inside : Array (Option Value)} {oc__law_inside kV__law_inside dc__law_inside pm__law_inside cd__law_inside ct__law_inside : Value}
    {f__law_book : Addr} {od__law_book an__law_book : Option Addr} {sl__law_book : Array (Option Value)} {oc__law_book kV__law_book dc__law_book pm__law_book cd__law_book ct__law_book : Value}
    {f__law_flat : Addr} {od__law_flat an__law_flat : Option Addr} {sl__law_flat : Array (Option Value)} {oc__law_flat kV__law_flat dc__law_flat pm__law_flat cd__law_flat ct__law_flat : Value}
    {f__law_value : Addr} {od__law_value an__law_value : Option Addr} {sl__law_value : Array (Option Value)} {oc__law_value kV__law_value dc__law_value pm__law_value cd__law_value ct__law_value : Value}
    {f__law_spoilt : Addr} {od__law_spoilt an__law_spoilt : Option Addr} {sl__law_spoilt : Array (Option Value)} {oc__law_spoilt kV__law_spoilt dc__law_spoilt pm__law_spoilt cd__law_spoilt ct__law_spoilt : Value}
    {f__law_all_are : Addr} {od__law_all_are an__law_all_are : Option Addr} {sl__law_all_are : Array (Option Value)} {oc__law_all_are kV__law_all_are dc__law_all_are pm__law_all_are cd__law_all_are ct__law_all_are : Value}
    {f__law_is_value : Addr} {od__law_is_value an__law_is_value : Option Addr} {sl__law_is_value : Array (Option Value)} {oc__law_is_value kV__law_is_value dc__law_is_value pm__law_is_value cd__law_is_value ct__law_is_value : Value}
    {f__law_finite : Addr} {od__law_finite an__law_finite : Option Addr} {sl__law_finite : Array (Option Value)} {oc__law_finite kV__law_finite dc__law_finite pm__law_finite cd__law_finite ct__law_finite : Value}
    {f__law_places_right : Addr} {od__law_places_right an__law_places_right : Option Addr} {sl__law_places_right : Array (Option Value)} {oc__law_places_right kV__law_places_right dc__law_places_right pm__law_places_right cd__law_places_right ct__law_places_right : Value}
    {f_law : Addr} {od_law an_law : Option Addr} {sl_law : Array (Option Value)} {oc_law kV_law dc_law pm_law cd_law ct_law : Value}
    {u_WORD : Value}
    {tb_SIZES : Addr} {es_SIZES : Array DictEntry} {n_SIZES : Nat}
    (a_is_number : PySem.W.nsIn K mainGlobals "is_number" = some (some (.ref f_is_number)))
    (l_is_number : K.lookup f_is_number = some ⟨oc_is_number, od_is_number, .func (PySem.W.fnOf "is_number" "is_number" (defArgs s_is_number) (defBody s_is_number) (defScope s_is_number) .none kV_is_number dc_is_number pm_is_number an_is_number cd_is_number ct_is_number), sl_is_number⟩)
    (c_is_number : PySem.W.codeIn K cd_is_number "is_number" = true)
    (k_is_number : PySem.W.keepIn K (.ref f_is_number) = true)
    (a_has_word : PySem.W.nsIn K mainGlobals "has_word" = some (some (.ref f_has_word)))
    (l_has_word : K.lookup f_has_word = some ⟨oc_has_word, od_has_word, .func (PySem.W.fnOf "has_word" "has_word" (defArgs s_has_word) (defBody s_has_word) (defScope s_has_word) .none kV_has_word dc_has_word pm_has_word an_has_word cd_has_word ct_has_word), sl_has_word⟩)
    (c_has_word : PySem.W.codeIn K cd_has_word "has_word" = true)
    (k_has_word : PySem.W.keepIn K (.ref f_has_word) = true)
    (a_named_size : PySem.W.nsIn K mainGlobals "named_size" = some (some (.ref f_named_size)))
    (l_named_size : K.lookup f_named_size = some ⟨oc_named_size, od_named_size, .func (PySem.W.fnOf "named_size" "named_size" (defArgs s_named_size) (defBody s_named_size) (defScope s_named_size) .none kV_named_size dc_named_size pm_named_size an_named_size cd_named_size ct_named_size), sl_named_size⟩)
    (c_named_size : PySem.W.codeIn K cd_named_size "named_size" = true)
    (k_named_size : PySem.W.keepIn K (.ref f_named_size) = true)
    (a_flat_size : PySem.W.nsIn K mainGlobals "flat_size" = some (some (.ref f_flat_size)))
    (l_flat_size : K.lookup f_flat_size = some ⟨oc_flat_size, od_flat_size, .func (PySem.W.fnOf "flat_size" "flat_size" (defArgs s_flat_size) (defBody s_flat_size) (defScope s_flat_size) .none kV_flat_size dc_flat_size pm_flat_size an_flat_size cd_flat_size ct_flat_size), sl_flat_size⟩)
    (c_flat_size : PySem.W.codeIn K cd_flat_size "flat_size" = true)
    (k_flat_size : PySem.W.keepIn K (.ref f_flat_size) = true)
    (a_sum_of_sizes : PySem.W.nsIn K mainGlobals "sum_of_sizes" = some (some (.ref f_sum_of_sizes)))
    (l_sum_of_sizes : K.lookup f_sum_of_sizes = some ⟨oc_sum_of_sizes, od_sum_of_sizes, .func (PySem.W.fnOf "sum_of_sizes" "sum_of_sizes" (defArgs s_sum_of_sizes) (defBody s_sum_of_sizes) (defScope s_sum_of_sizes) .none kV_sum_of_sizes dc_sum_of_sizes pm_sum_of_sizes an_sum_of_sizes cd_sum_of_sizes ct_sum_of_sizes), sl_sum_of_sizes⟩)
    (c_sum_of_sizes : PySem.W.codeIn K cd_sum_of_sizes "sum_of_sizes" = true)
    (k_sum_of_sizes : PySem.W.keepIn K (.ref f_sum_of_sizes) = true)
    (a_size_of : PySem.W.nsIn K mainGlobals "size_of" = some (some (.ref f_size_of)))
    (l_size_of : K.lookup f_size_of = some ⟨oc_size_of, od_size_of, .func (PySem.W.fnOf "size_of" "size_of" (defArgs s_size_of) (defBody s_size_of) (defScope s_size_of) .none kV_size_of dc_size_of pm_size_of an_size_of cd_size_of ct_size_of), sl_size_of⟩)
    (c_size_of : PySem.W.codeIn K cd_size_of "size_of" = true)
    (k_size_of : PySem.W.keepIn K (.ref f_size_of) = true)
    (a_field_place : PySem.W.nsIn K mainGlobals "field_place" = some (some (.ref f_field_place)))
    (l_field_place : K.lookup f_field_place = some ⟨oc_field_place, od_field_place, .func (PySem.W.fnOf "field_place" "field_place" (defArgs s_field_place) (defBody s_field_place) (defScope s_field_place) .none kV_field_place dc_field_place pm_field_place an_field_place cd_field_place ct_field_place), sl_field_place⟩)
    (c_field_place : PySem.W.codeIn K cd_field_place "field_place" = true)
    (k_field_place : PySem.W.keepIn K (.ref f_field_place) = true)
    (a_part_place : PySem.W.nsIn K mainGlobals "part_place" = some (some (.ref f_part_place)))
    (l_part_place : K.lookup f_part_place = some ⟨oc_part_place, od_part_place, .func (PySem.W.fnOf "part_place" "part_place" (defArgs s_part_place) (defBody s_part_place) (defScope s_part_place) .none kV_part_place dc_part_place pm_part_place an_part_place cd_part_place ct_part_place), sl_part_place⟩)
    (c_part_place : PySem.W.codeIn K cd_part_place "part_place" = true)
    (k_part_place : PySem.W.keepIn K (.ref f_part_place) = true)
    (a_are_values : PySem.W.nsIn K mainGlobals "are_values" = some (some (.ref f_are_values)))
    (l_are_values : K.lookup f_are_values = some ⟨oc_are_values, od_are_values, .func (PySem.W.fnOf "are_values" "are_values" (defArgs s_are_values) (defBody s_are_values) (defScope s_are_values) .none kV_are_values dc_are_values pm_are_values an_are_values cd_are_values ct_are_values), sl_are_values⟩)
    (c_are_values : PySem.W.codeIn K cd_are_values "are_values" = true)
    (k_are_values : PySem.W.keepIn K (.ref f_are_values) = true)
    (a_is_value : PySem.W.nsIn K mainGlobals "is_value" = some (some (.ref f_is_value)))
    (l_is_value : K.lookup f_is_value = some ⟨oc_is_value, od_is_value, .func (PySem.W.fnOf "is_value" "is_value" (defArgs s_is_value) (defBody s_is_value) (defScope s_is_value) .none kV_is_value dc_is_value pm_is_value an_is_value cd_is_value ct_is_value), sl_is_value⟩)
    (c_is_value : PySem.W.codeIn K cd_is_value "is_value" = true)
    (k_is_value : PySem.W.keepIn K (.ref f_is_value) = true)
    (a__law_draws : PySem.W.nsIn K mainGlobals "_law_draws" = some (some (.ref f__law_draws)))
    (l__law_draws : K.lookup f__law_draws = some ⟨oc__law_draws, od__law_draws, .func (PySem.W.fnOf "_law_draws" "_law_draws" (defArgs s__law_draws) (defBody s__law_draws) (defScope s__law_draws) .none kV__law_draws dc__law_draws pm__law_draws an__law_draws cd__law_draws ct__law_draws), sl__law_draws⟩)
    (c__law_draws : PySem.W.codeIn K cd__law_draws "_law_draws" = true)
    (k__law_draws : PySem.W.keepIn K (.ref f__law_draws) = true)
    (a__law_take : PySem.W.nsIn K mainGlobals "_law_take" = some (some (.ref f__law_take)))
    (l__law_take : K.lookup f__law_take = some ⟨oc__law_take, od__law_take, .func (PySem.W.fnOf "_law_take" "_law_take" (defArgs s__law_take) (defBody s__law_take) (defScope s__law_take) .none kV__law_take dc__law_take pm__law_take an__law_take cd__law_take ct__law_take), sl__law_take⟩)
    (c__law_take : PySem.W.codeIn K cd__law_take "_law_take" = true)
    (k__law_take : PySem.W.keepIn K (.ref f__law_take) = true)
    (a__law_start : PySem.W.nsIn K mainGlobals "_law_start" = some (some (.ref f__law_start)))
    (l__law_start : K.lookup f__law_start = some ⟨oc__law_start, od__law_start, .func (PySem.W.fnOf "_law_start" "_law_start" (defArgs s__law_start) (defBody s__law_start) (defScope s__law_start) .none kV__law_start dc__law_start pm__law_start an__law_start cd__law_start ct__law_start), sl__law_start⟩)
    (c__law_start : PySem.W.codeIn K cd__law_start "_law_start" = true)
    (k__law_start : PySem.W.keepIn K (.ref f__law_start) = true)
    (a__law_data : PySem.W.nsIn K mainGlobals "_law_data" = some (some (.ref f__law_data)))
    (l__law_data : K.lookup f__law_data = some ⟨oc__law_data, od__law_data, .func (PySem.W.fnOf "_law_data" "_law_data" (defArgs s__law_data) (defBody s__law_data) (defScope s__law_data) .none kV__law_data dc__law_data pm__law_data an__law_data cd__law_data ct__law_data), sl__law_data⟩)
    (c__law_data : PySem.W.codeIn K cd__law_data "_law_data" = true)
    (k__law_data : PySem.W.keepIn K (.ref f__law_data) = true)
    (a__law_inside : PySem.W.nsIn K mainGlobals "_law_inside" = some (some (.ref f__law_inside)))
    (l__law_inside : K.lookup f__law_inside = some ⟨oc__law_inside, od__law_inside, .func (PySem.W.fnOf "_law_inside" "_law_inside" (defArgs s__law_inside) (defBody s__law_inside) (defScope s__law_inside) .none kV__law_inside dc__law_inside pm__law_inside an__law_inside cd__law_inside ct__law_inside), sl__law_inside⟩)
    (c__law_inside : PySem.W.codeIn K cd__law_inside "_law_inside" = true)
    (k__law_inside : PySem.W.keepIn K (.ref f__law_inside) = true)
    (a__law_book : PySem.W.nsIn K mainGlobals "_law_book" = some (some (.ref f__law_book)))
    (l__law_book : K.lookup f__law_book = some ⟨oc__law_book, od__law_book, .func (PySem.W.fnOf "_law_book" "_law_book" (defArgs s__law_book) (defBody s__law_book) (defScope s__law_book) .none kV__law_book dc__law_book pm__law_book an__law_book cd__law_book ct__law_book), sl__law_book⟩)
    (c__law_book : PySem.W.codeIn K cd__law_book "_law_book" = true)
    (k__law_book : PySem.W.keepIn K (.ref f__law_book) = true)
    (a__law_flat : PySem.W.nsIn K mainGlobals "_law_flat" = some (some (.ref f__law_flat)))
    (l__law_flat : K.lookup f__law_flat = some ⟨oc__law_flat, od__law_flat, .func (PySem.W.fnOf "_law_flat" "_law_flat" (defArgs s__law_flat) (defBody s__law_flat) (defScope s__law_flat) .none kV__law_flat dc__law_flat pm__law_flat an__law_flat cd__law_flat ct__law_flat), sl__law_flat⟩)
    (c__law_flat : PySem.W.codeIn K cd__law_flat "_law_flat" = true)
    (k__law_flat : PySem.W.keepIn K (.ref f__law_flat) = true)
    (a__law_value : PySem.W.nsIn K mainGlobals "_law_value" = some (some (.ref f__law_value)))
    (l__law_value : K.lookup f__law_value = some ⟨oc__law_value, od__law_value, .func (PySem.W.fnOf "_law_value" "_law_value" (defArgs s__law_value) (defBody s__law_value) (defScope s__law_value) .none kV__law_value dc__law_value pm__law_value an__law_value cd__law_value ct__law_value), sl__law_value⟩)
    (c__law_value : PySem.W.codeIn K cd__law_value "_law_value" = true)
    (k__law_value : PySem.W.keepIn K (.ref f__law_value) = true)
    (a__law_spoilt : PySem.W.nsIn K mainGlobals "_law_spoilt" = some (some (.ref f__law_spoilt)))
    (l__law_spoilt : K.lookup f__law_spoilt = some ⟨oc__law_spoilt, od__law_spoilt, .func (PySem.W.fnOf "_law_spoilt" "_law_spoilt" (defArgs s__law_spoilt) (defBody s__law_spoilt) (defScope s__law_spoilt) .none kV__law_spoilt dc__law_spoilt pm__law_spoilt an__law_spoilt cd__law_spoilt ct__law_spoilt), sl__law_spoilt⟩)
    (c__law_spoilt : PySem.W.codeIn K cd__law_spoilt "_law_spoilt" = true)
    (k__law_spoilt : PySem.W.keepIn K (.ref f__law_spoilt) = true)
    (a__law_all_are : PySem.W.nsIn K mainGlobals "_law_all_are" = some (some (.ref f__law_all_are)))
    (l__law_all_are : K.lookup f__law_all_are = some ⟨oc__law_all_are, od__law_all_are, .func (PySem.W.fnOf "_law_all_are" "_law_all_are" (defArgs s__law_all_are) (defBody s__law_all_are) (defScope s__law_all_are) .none kV__law_all_are dc__law_all_are pm__law_all_are an__law_all_are cd__law_all_are ct__law_all_are), sl__law_all_are⟩)
    (c__law_all_are : PySem.W.codeIn K cd__law_all_are "_law_all_are" = true)
    (k__law_all_are : PySem.W.keepIn K (.ref f__law_all_are) = true)
    (a__law_is_value : PySem.W.nsIn K mainGlobals "_law_is_value" = some (some (.ref f__law_is_value)))
    (l__law_is_value : K.lookup f__law_is_value = some ⟨oc__law_is_value, od__law_is_value, .func (PySem.W.fnOf "_law_is_value" "_law_is_value" (defArgs s__law_is_value) (defBody s__law_is_value) (defScope s__law_is_value) .none kV__law_is_value dc__law_is_value pm__law_is_value an__law_is_value cd__law_is_value ct__law_is_value), sl__law_is_value⟩)
    (c__law_is_value : PySem.W.codeIn K cd__law_is_value "_law_is_value" = true)
    (k__law_is_value : PySem.W.keepIn K (.ref f__law_is_value) = true)
    (a__law_finite : PySem.W.nsIn K mainGlobals "_law_finite" = some (some (.ref f__law_finite)))
    (l__law_finite : K.lookup f__law_finite = some ⟨oc__law_finite, od__law_finite, .func (PySem.W.fnOf "_law_finite" "_law_finite" (defArgs s__law_finite) (defBody s__law_finite) (defScope s__law_finite) .none kV__law_finite dc__law_finite pm__law_finite an__law_finite cd__law_finite ct__law_finite), sl__law_finite⟩)
    (c__law_finite : PySem.W.codeIn K cd__law_finite "_law_finite" = true)
    (k__law_finite : PySem.W.keepIn K (.ref f__law_finite) = true)
    (a__law_places_right : PySem.W.nsIn K mainGlobals "_law_places_right" = some (some (.ref f__law_places_right)))
    (l__law_places_right : K.lookup f__law_places_right = some ⟨oc__law_places_right, od__law_places_right, .func (PySem.W.fnOf "_law_places_right" "_law_places_right" (defArgs s__law_places_right) (defBody s__law_places_right) (defScope s__law_places_right) .none kV__law_places_right dc__law_places_right pm__law_places_right an__law_places_right cd__law_places_right ct__law_places_right), sl__law_places_right⟩)
    (c__law_places_right : PySem.W.codeIn K cd__law_places_right "_law_places_right" = true)
    (k__law_places_right : PySem.W.keepIn K (.ref f__law_places_right) = true)
    (a_law : PySem.W.nsIn K mainGlobals "law" = some (some (.ref f_law)))
    (l_law : K.lookup f_law = some ⟨oc_law, od_law, .func (PySem.W.fnOf "law" "law" (defArgs s_law) (defBody s_law) (defScope s_law) .none kV_law dc_law pm_law an_law cd_law ct_law), sl_law⟩)
    (c_law : PySem.W.codeIn K cd_law "law" = true)
    (k_law : PySem.W.keepIn K (.ref f_law) = true)
    (z_abs : PySem.W.nsIn K mainGlobals "abs" = some none)
    (z_all : PySem.W.nsIn K mainGlobals "all" = some none)
    (z_bool : PySem.W.nsIn K mainGlobals "bool" = some none)
    (z_int : PySem.W.nsIn K mainGlobals "int" = some none)
    (z_isinstance : PySem.W.nsIn K mainGlobals "isinstance" = some none)
    (z_len : PySem.W.nsIn K mainGlobals "len" = some none)
    (z_max : PySem.W.nsIn K mainGlobals "max" = some none)
    (z_range : PySem.W.nsIn K mainGlobals "range" = some none)
    (z_str : PySem.W.nsIn K mainGlobals "str" = some none)
    (z_sum : PySem.W.nsIn K mainGlobals "sum" = some none)
    (z_tuple : PySem.W.nsIn K mainGlobals "tuple" = some none)
    (z_zip : PySem.W.nsIn K mainGlobals "zip" = some none)
    (ka_WORD : PySem.W.nsIn K mainGlobals "WORD" = some (some u_WORD))
    (kr_WORD : KRep K k_WORD u_WORD)
    (ta_SIZES : PySem.W.nsIn K mainGlobals "SIZES" = some (some (.ref tb_SIZES))) (tl_SIZES : K.lookup tb_SIZES = some ⟨.type "dict", none, .dict es_SIZES n_SIZES, #[]⟩) (tk_SIZES : PySem.W.KeysLit w.params es_SIZES.toList) (tr_SIZES : KTabs K tb_SIZES k_SIZES)
    (hs_SIZES : (tb_SIZES == sysModules) = false) (hy_SIZES : ∀ z ∈ yk_SIZES, ∃ u, PySem.W.nsIn K tb_SIZES z = some (some u)) (hn_SIZES : ∀ z ∈ nk_SIZES, PySem.W.nsIn K tb_SIZES z = some none) :
    ∃ (fd : FuncData) (cl : Cl), (∀ (s : Shared) (v : Value), BindsTo s fd ⟨[v], []⟩ [("_law_script", v)]) ∧ ∀ base : Heap, K.In base → base.Ns mainGlobals mg → FnD P w K mg base cl 263 fa fd ["_law_script"] LF := by
  have e := hfa.symm.trans (PySem.W.mg_of X G a_law)
  cases e
  have T : Tx K mg w (clOf w []) := ⟨PySem.W.mg_none_of X G z_abs, PySem.W.mg_none_of X G z_all, PySem.W.mg_none_of X G z_bool, PySem.W.mg_none_of X G z_int, PySem.W.mg_none_of X G z_isinstance, PySem.W.mg_none_of X G z_len, PySem.W.mg_none_of X G z_max, PySem.W.mg_none_of X G z_range, PySem.W.mg_none_of X G z_str, PySem.W.mg_none_of X G z_sum, PySem.W.mg_none_of X G z_tuple, PySem.W.mg_none_of X G z_zip, ConstAt.of (PySem.W.mg_of X G ka_WORD) kr_WORD, TabAt.of (PySem.W.mg_of X G ta_SIZES) tl_SIZES tk_SIZES tr_SIZES, ⟨tb_SIZES, es_SIZES, n_SIZES, PySem.W.mg_of X G ta_SIZES, hs_SIZES, tl_SIZES, tk_SIZES, hy_SIZES, hn_SIZES⟩, rfl⟩
  have U_is_number := fun_mk (st := s_is_number) l_is_number c_is_number k_is_number
  have B_is_number := U_is_number.binds (ps := ["thing", "many"]) fun _ _ _ _ _ _ us hl => match us, hl with | [_, _], _ => rfl
  have D_is_number : DefAt K mg "is_number" _ _ ["thing", "many"] := ⟨PySem.W.mg_of X G a_is_number, k_is_number, B_is_number⟩
  have U_has_word := fun_mk (st := s_has_word) l_has_word c_has_word k_has_word
  have B_has_word := U_has_word.binds (ps := ["thing"]) fun _ _ _ _ _ _ us hl => match us, hl with | [_], _ => rfl
  have D_has_word : DefAt K mg "has_word" _ _ ["thing"] := ⟨PySem.W.mg_of X G a_has_word, k_has_word, B_has_word⟩
  have U_named_size := fun_mk (st := s_named_size) l_named_size c_named_size k_named_size
  have B_named_size := U_named_size.binds (ps := ["book", "kind", "known"]) fun _ _ _ _ _ _ us hl => match us, hl with | [_, _, _], _ => rfl
  have D_named_size : DefAt K mg "named_size" _ _ ["book", "kind", "known"] := ⟨PySem.W.mg_of X G a_named_size, k_named_size, B_named_size⟩
  have U_flat_size := fun_mk (st := s_flat_size) l_flat_size c_flat_size k_flat_size
  have B_flat_size := U_flat_size.binds (ps := ["book", "kind", "known"]) fun _ _ _ _ _ _ us hl => match us, hl with | [_, _, _], _ => rfl
  have D_flat_size : DefAt K mg "flat_size" _ _ ["book", "kind", "known"] := ⟨PySem.W.mg_of X G a_flat_size, k_flat_size, B_flat_size⟩
  have U_sum_of_sizes := fun_mk (st := s_sum_of_sizes) l_sum_of_sizes c_sum_of_sizes k_sum_of_sizes
  have B_sum_of_sizes := U_sum_of_sizes.binds (ps := ["book", "kinds", "known"]) fun _ _ _ _ _ _ us hl => match us, hl with | [_, _, _], _ => rfl
  have D_sum_of_sizes : DefAt K mg "sum_of_sizes" _ _ ["book", "kinds", "known"] := ⟨PySem.W.mg_of X G a_sum_of_sizes, k_sum_of_sizes, B_sum_of_sizes⟩
  have U_size_of := fun_mk (st := s_size_of) l_size_of c_size_of k_size_of
  have B_size_of := U_size_of.binds (ps := ["book", "kind"]) fun _ _ _ _ _ _ us hl => match us, hl with | [_, _], _ => rfl
  have D_size_of : DefAt K mg "size_of" _ _ ["book", "kind"] := ⟨PySem.W.mg_of X G a_size_of, k_size_of, B_size_of⟩
  have U_field_place := fun_mk (st := s_field_place) l_field_place c_field_place k_field_place
  have B_field_place := U_field_place.binds (ps := ["book", "n", "i"]) fun _ _ _ _ _ _ us hl => match us, hl with | [_, _, _], _ => rfl
  have D_field_place : DefAt K mg "field_place" _ _ ["book", "n", "i"] := ⟨PySem.W.mg_of X G a_field_place, k_field_place, B_field_place⟩
  have U_part_place := fun_mk (st := s_part_place) l_part_place c_part_place k_part_place
  have B_part_place := U_part_place.binds (ps := ["book", "n", "tag", "i"]) fun _ _ _ _ _ _ us hl => match us, hl with | [_, _, _, _], _ => rfl
  have D_part_place : DefAt K mg "part_place" _ _ ["book", "n", "tag", "i"] := ⟨PySem.W.mg_of X G a_part_place, k_part_place, B_part_place⟩
  have U_are_values := fun_mk (st := s_are_values) l_are_values c_are_values k_are_values
  have B_are_values := U_are_values.binds (ps := ["book", "kinds", "thing"]) fun _ _ _ _ _ _ us hl => match us, hl with | [_, _, _], _ => rfl
  have D_are_values : DefAt K mg "are_values" _ _ ["book", "kinds", "thing"] := ⟨PySem.W.mg_of X G a_are_values, k_are_values, B_are_values⟩
  have U_is_value := fun_mk (st := s_is_value) l_is_value c_is_value k_is_value
  have B_is_value := U_is_value.binds (ps := ["book", "kind", "thing"]) fun _ _ _ _ _ _ us hl => match us, hl with | [_, _, _], _ => rfl
  have D_is_value : DefAt K mg "is_value" _ _ ["book", "kind", "thing"] := ⟨PySem.W.mg_of X G a_is_value, k_is_value, B_is_value⟩
  have U__law_draws := fun_mk (st := s__law_draws) l__law_draws c__law_draws k__law_draws
  have B__law_draws := U__law_draws.binds (ps := ["_law_script", "_law_many"]) fun _ _ _ _ _ _ us hl => match us, hl with | [_, _], _ => rfl
  have D__law_draws : DefAt K mg "_law_draws" _ _ ["_law_script", "_law_many"] := ⟨PySem.W.mg_of X G a__law_draws, k__law_draws, B__law_draws⟩
  have U__law_take := fun_mk (st := s__law_take) l__law_take c__law_take k__law_take
  have B__law_take := U__law_take.binds (ps := ["_law_d"]) fun _ _ _ _ _ _ us hl => match us, hl with | [_], _ => rfl
  have D__law_take : DefAt K mg "_law_take" _ _ ["_law_d"] := ⟨PySem.W.mg_of X G a__law_take, k__law_take, B__law_take⟩
  have U__law_start := fun_mk (st := s__law_start) l__law_start c__law_start k__law_start
  have B__law_start := U__law_start.binds (ps := ["_law_script"]) fun _ _ _ _ _ _ us hl => match us, hl with | [_], _ => rfl
  have D__law_start : DefAt K mg "_law_start" _ _ ["_law_script"] := ⟨PySem.W.mg_of X G a__law_start, k__law_start, B__law_start⟩
  have U__law_data := fun_mk (st := s__law_data) l__law_data c__law_data k__law_data
  have B__law_data := U__law_data.binds (ps := ["_law_d", "_law_counts", "_law_deep"]) fun _ _ _ _ _ _ us hl => match us, hl with | [_, _, _], _ => rfl
  have D__law_data : DefAt K mg "_law_data" _ _ ["_law_d", "_law_counts", "_law_deep"] := ⟨PySem.W.mg_of X G a__law_data, k__law_data, B__law_data⟩
  have U__law_inside := fun_mk (st := s__law_inside) l__law_inside c__law_inside k__law_inside
  have B__law_inside := U__law_inside.binds (ps := ["_law_d", "_law_counts", "_law_before"]) fun _ _ _ _ _ _ us hl => match us, hl with | [_, _, _], _ => rfl
  have D__law_inside : DefAt K mg "_law_inside" _ _ ["_law_d", "_law_counts", "_law_before"] := ⟨PySem.W.mg_of X G a__law_inside, k__law_inside, B__law_inside⟩
  have U__law_book := fun_mk (st := s__law_book) l__law_book c__law_book k__law_book
  have B__law_book := U__law_book.binds (ps := ["_law_d"]) fun _ _ _ _ _ _ us hl => match us, hl with | [_], _ => rfl
  have D__law_book : DefAt K mg "_law_book" _ _ ["_law_d"] := ⟨PySem.W.mg_of X G a__law_book, k__law_book, B__law_book⟩
  have U__law_flat := fun_mk (st := s__law_flat) l__law_flat c__law_flat k__law_flat
  have B__law_flat := U__law_flat.binds (ps := ["_law_book_here", "_law_kind"]) fun _ _ _ _ _ _ us hl => match us, hl with | [_, _], _ => rfl
  have D__law_flat : DefAt K mg "_law_flat" _ _ ["_law_book_here", "_law_kind"] := ⟨PySem.W.mg_of X G a__law_flat, k__law_flat, B__law_flat⟩
  have U__law_value := fun_mk (st := s__law_value) l__law_value c__law_value k__law_value
  have B__law_value := U__law_value.binds (ps := ["_law_d", "_law_book_here", "_law_kind", "_law_deep"]) fun _ _ _ _ _ _ us hl => match us, hl with | [_, _, _, _], _ => rfl
  have D__law_value : DefAt K mg "_law_value" _ _ ["_law_d", "_law_book_here", "_law_kind", "_law_deep"] := ⟨PySem.W.mg_of X G a__law_value, k__law_value, B__law_value⟩
  have U__law_spoilt := fun_mk (st := s__law_spoilt) l__law_spoilt c__law_spoilt k__law_spoilt
  have B__law_spoilt := U__law_spoilt.binds (ps := ["_law_d", "_law_thing", "_law_steps"]) fun _ _ _ _ _ _ us hl => match us, hl with | [_, _, _], _ => rfl
  have D__law_spoilt : DefAt K mg "_law_spoilt" _ _ ["_law_d", "_law_thing", "_law_steps"] := ⟨PySem.W.mg_of X G a__law_spoilt, k__law_spoilt, B__law_spoilt⟩
  have U__law_all_are := fun_mk (st := s__law_all_are) l__law_all_are c__law_all_are k__law_all_are
  have B__law_all_are := U__law_all_are.binds (ps := ["_law_book_here", "_law_kinds", "_law_thing"]) fun _ _ _ _ _ _ us hl => match us, hl with | [_, _, _], _ => rfl
  have D__law_all_are : DefAt K mg "_law_all_are" _ _ ["_law_book_here", "_law_kinds", "_law_thing"] := ⟨PySem.W.mg_of X G a__law_all_are, k__law_all_are, B__law_all_are⟩
  have U__law_is_value := fun_mk (st := s__law_is_value) l__law_is_value c__law_is_value k__law_is_value
  have B__law_is_value := U__law_is_value.binds (ps := ["_law_book_here", "_law_kind", "_law_thing"]) fun _ _ _ _ _ _ us hl => match us, hl with | [_, _, _], _ => rfl
  have D__law_is_value : DefAt K mg "_law_is_value" _ _ ["_law_book_here", "_law_kind", "_law_thing"] := ⟨PySem.W.mg_of X G a__law_is_value, k__law_is_value, B__law_is_value⟩
  have U__law_finite := fun_mk (st := s__law_finite) l__law_finite c__law_finite k__law_finite
  have B__law_finite := U__law_finite.binds (ps := ["_law_book_here", "_law_kind", "_law_seen"]) fun _ _ _ _ _ _ us hl => match us, hl with | [_, _, _], _ => rfl
  have D__law_finite : DefAt K mg "_law_finite" _ _ ["_law_book_here", "_law_kind", "_law_seen"] := ⟨PySem.W.mg_of X G a__law_finite, k__law_finite, B__law_finite⟩
  have U__law_places_right := fun_mk (st := s__law_places_right) l__law_places_right c__law_places_right k__law_places_right
  have B__law_places_right := U__law_places_right.binds (ps := ["_law_book_here"]) fun _ _ _ _ _ _ us hl => match us, hl with | [_], _ => rfl
  have D__law_places_right : DefAt K mg "_law_places_right" _ _ ["_law_book_here"] := ⟨PySem.W.mg_of X G a__law_places_right, k__law_places_right, B__law_places_right⟩
  have U_law := fun_mk (st := s_law) l_law c_law k_law
  have B_law := U_law.binds (ps := ["_law_script"]) fun _ _ _ _ _ _ us hl => match us, hl with | [_], _ => rfl
  have D_law : DefAt K mg "law" _ _ ["_law_script"] := ⟨PySem.W.mg_of X G a_law, k_law, B_law⟩
  refine ⟨PySem.W.fnOf "law" "law" (defArgs s_law) (defBody s_law) (defScope s_law) .none kV_law dc_law pm_law an_law cd_law ct_law, (clOf w []), fun s v => .of_eq rfl, fun base _ _ => ?_⟩
  have G_is_number := ok_is_number (P := P) (w := w) (base := base) (cl := (clOf w [])) T (k := 0) U_is_number
  have G_has_word := ok_has_word (P := P) (w := w) (base := base) (cl := (clOf w [])) T (k := 0) U_has_word
  have GG_named_size : ∀ n : Nat, FnD P w K mg base (clOf w []) (0 + n) f_named_size (PySem.W.fnOf "named_size" "named_size" (defArgs s_named_size) (defBody s_named_size) (defScope s_named_size) .none kV_named_size dc_named_size pm_named_size an_named_size cd_named_size ct_named_size) ["book", "kind", "known"] (R_named_size n) ∧ FnD P w K mg base (clOf w []) (0 + n) f_flat_size (PySem.W.fnOf "flat_size" "flat_size" (defArgs s_flat_size) (defBody s_flat_size) (defScope s_flat_size) .none kV_flat_size dc_flat_size pm_flat_size an_flat_size cd_flat_size ct_flat_size) ["book", "kind", "known"] (R_flat_size n) ∧ FnD P w K mg base (clOf w []) (0 + n) f_sum_of_sizes (PySem.W.fnOf "sum_of_sizes" "sum_of_sizes" (defArgs s_sum_of_sizes) (defBody s_sum_of_sizes) (defScope s_sum_of_sizes) .none kV_sum_of_sizes dc_sum_of_sizes pm_sum_of_sizes an_sum_of_sizes cd_sum_of_sizes ct_sum_of_sizes) ["book", "kinds", "known"] (R_sum_of_sizes n) := by
    intro n
    induction n with
    | zero => exact ⟨FnD.bad, FnD.bad, FnD.bad⟩
    | succ n ih => exact ⟨ok_named_size (P := P) (w := w) (base := base) (cl := (clOf w [])) T (k := 0 + n) U_named_size D_sum_of_sizes ih.2.2,
        ok_flat_size (P := P) (w := w) (base := base) (cl := (clOf w [])) T (k := 0 + n) U_flat_size D_named_size ih.1,
        ok_sum_of_sizes (P := P) (w := w) (base := base) (cl := (clOf w [])) T (k := 0 + n) U_sum_of_sizes D_flat_size ih.2.1⟩
  have G_named_size := (GG_named_size 260).1
  have G_flat_size := (GG_named_size 260).2.1
  have G_sum_of_sizes := (GG_named_size 260).2.2
  have G_size_of := FnD.auto (ok_size_of (P := P) (w := w) (base := base) (cl := (clOf w [])) T (k := 260) U_size_of D_flat_size (G_flat_size.mono (by decide)))
  have G_field_place := FnD.auto (ok_field_place (P := P) (w := w) (base := base) (cl := (clOf w [])) T (k := 260) U_field_place D_sum_of_sizes (G_sum_of_sizes.mono (by decide)))
  have G_part_place := FnD.auto (ok_part_place (P := P) (w := w) (base := base) (cl := (clOf w [])) T (k := 260) U_part_place D_sum_of_sizes (G_sum_of_sizes.mono (by decide)))
  have GG_are_values : ∀ n : Nat, FnD P w K mg base (clOf w []) (1 + n) f_are_values (PySem.W.fnOf "are_values" "are_values" (defArgs s_are_values) (defBody s_are_values) (defScope s_are_values) .none kV_are_values dc_are_values pm_are_values an_are_values cd_are_values ct_are_values) ["book", "kinds", "thing"] (R_are_values n) ∧ FnD P w K mg base (clOf w []) (1 + n) f_is_value (PySem.W.fnOf "is_value" "is_value" (defArgs s_is_value) (defBody s_is_value) (defScope s_is_value) .none kV_is_value dc_is_value pm_is_value an_is_value cd_is_value ct_is_value) ["book", "kind", "thing"] (R_is_value n) := by
    intro n
    induction n with
    | zero => exact ⟨FnD.bad, FnD.bad⟩
    | succ n ih => exact ⟨ok_are_values (P := P) (w := w) (base := base) (cl := (clOf w [])) T (k := 1 + n) U_are_values D_is_value ih.2,
        ok_is_value (P := P) (w := w) (base := base) (cl := (clOf w [])) T (k := 1 + n) U_is_value D_is_number (G_is_number.mono (by omega)) D_has_word (G_has_word.mono (by omega)) D_are_values ih.1 D_is_value ih.2⟩
  have G_are_values := (GG_are_values 140).1
  have G_is_value := (GG_are_values 140).2
  have G__law_draws := FnD.auto (ok__law_draws (P := P) (w := w) (base := base) (cl := (clOf w [])) T (k := 0) U__law_draws)
  have G__law_take := ok__law_take (P := P) (w := w) (base := base) (cl := (clOf w [])) T (k := 0) U__law_take
  have G__law_start := ok__law_start (P := P) (w := w) (base := base) (cl := (clOf w [])) T (k := 1) U__law_start D__law_draws (G__law_draws.mono (by decide))
  have GG__law_data : ∀ n : Nat, FnD P w K mg base (clOf w []) (1 + n) f__law_data (PySem.W.fnOf "_law_data" "_law_data" (defArgs s__law_data) (defBody s__law_data) (defScope s__law_data) .none kV__law_data dc__law_data pm__law_data an__law_data cd__law_data ct__law_data) ["_law_d", "_law_counts", "_law_deep"] (R__law_data n) := by
    intro n
    induction n with
    | zero => exact FnD.bad
    | succ n ih => exact ok__law_data (P := P) (w := w) (base := base) (cl := (clOf w [])) T (k := 1 + n) U__law_data D__law_take (G__law_take.mono (by omega)) D__law_data ih
  have G__law_data := (GG__law_data 60)
  have G__law_inside := ok__law_inside (P := P) (w := w) (base := base) (cl := (clOf w [])) T (k := 61) U__law_inside D__law_take (G__law_take.mono (by decide)) D__law_data (G__law_data.mono (by decide))
  have G__law_book := FnD.auto (ok__law_book (P := P) (w := w) (base := base) (cl := (clOf w [])) T (k := 62) U__law_book D__law_take (G__law_take.mono (by decide)) D__law_inside (G__law_inside.mono (by decide)))
  have GG__law_flat : ∀ n : Nat, FnD P w K mg base (clOf w []) (0 + n) f__law_flat (PySem.W.fnOf "_law_flat" "_law_flat" (defArgs s__law_flat) (defBody s__law_flat) (defScope s__law_flat) .none kV__law_flat dc__law_flat pm__law_flat an__law_flat cd__law_flat ct__law_flat) ["_law_book_here", "_law_kind"] (R__law_flat n) := by
    intro n
    induction n with
    | zero => exact FnD.bad
    | succ n ih => exact ok__law_flat (P := P) (w := w) (base := base) (cl := (clOf w [])) T (k := 0 + n) U__law_flat D__law_flat ih
  have G__law_flat := (GG__law_flat 90)
  have GG__law_finite : ∀ n : Nat, FnD P w K mg base (clOf w []) (0 + n) f__law_finite (PySem.W.fnOf "_law_finite" "_law_finite" (defArgs s__law_finite) (defBody s__law_finite) (defScope s__law_finite) .none kV__law_finite dc__law_finite pm__law_finite an__law_finite cd__law_finite ct__law_finite) ["_law_book_here", "_law_kind", "_law_seen"] (R__law_finite n) := by
    intro n
    induction n with
    | zero => exact FnD.bad
    | succ n ih => exact ok__law_finite (P := P) (w := w) (base := base) (cl := (clOf w [])) T (k := 0 + n) U__law_finite D__law_finite ih
  have G__law_finite := (GG__law_finite 60)
  have GG__law_value : ∀ n : Nat, FnD P w K mg base (clOf w []) (60 + n) f__law_value (PySem.W.fnOf "_law_value" "_law_value" (defArgs s__law_value) (defBody s__law_value) (defScope s__law_value) .none kV__law_value dc__law_value pm__law_value an__law_value cd__law_value ct__law_value) ["_law_d", "_law_book_here", "_law_kind", "_law_deep"] (R__law_value n) := by
    intro n
    induction n with
    | zero => exact FnD.bad
    | succ n ih => exact ok__law_value (P := P) (w := w) (base := base) (cl := (clOf w [])) T (k := 60 + n) U__law_value D__law_take (G__law_take.mono (by omega)) D__law_value ih D__law_finite (G__law_finite.mono (by omega))
  have G__law_value := (GG__law_value 60)
  have GG__law_spoilt : ∀ n : Nat, FnD P w K mg base (clOf w []) (1 + n) f__law_spoilt (PySem.W.fnOf "_law_spoilt" "_law_spoilt" (defArgs s__law_spoilt) (defBody s__law_spoilt) (defScope s__law_spoilt) .none kV__law_spoilt dc__law_spoilt pm__law_spoilt an__law_spoilt cd__law_spoilt ct__law_spoilt) ["_law_d", "_law_thing", "_law_steps"] (R__law_spoilt n) := by
    intro n
    induction n with
    | zero => exact FnD.bad
    | succ n ih => exact ok__law_spoilt (P := P) (w := w) (base := base) (cl := (clOf w [])) T (k := 1 + n) U__law_spoilt D__law_take (G__law_take.mono (by omega)) D__law_spoilt ih
  have G__law_spoilt := (GG__law_spoilt 60)
  have GG__law_all_are : ∀ n : Nat, FnD P w K mg base (clOf w []) (0 + n) f__law_all_are (PySem.W.fnOf "_law_all_are" "_law_all_are" (defArgs s__law_all_are) (defBody s__law_all_are) (defScope s__law_all_are) .none kV__law_all_are dc__law_all_are pm__law_all_are an__law_all_are cd__law_all_are ct__law_all_are) ["_law_book_here", "_law_kinds", "_law_thing"] (R__law_all_are n) ∧ FnD P w K mg base (clOf w []) (0 + n) f__law_is_value (PySem.W.fnOf "_law_is_value" "_law_is_value" (defArgs s__law_is_value) (defBody s__law_is_value) (defScope s__law_is_value) .none kV__law_is_value dc__law_is_value pm__law_is_value an__law_is_value cd__law_is_value ct__law_is_value) ["_law_book_here", "_law_kind", "_law_thing"] (R__law_is_value n) := by
    intro n
    induction n with
    | zero => exact ⟨FnD.bad, FnD.bad⟩
    | succ n ih => exact ⟨ok__law_all_are (P := P) (w := w) (base := base) (cl := (clOf w [])) T (k := 0 + n) U__law_all_are D__law_is_value ih.2,
        ok__law_is_value (P := P) (w := w) (base := base) (cl := (clOf w [])) T (k := 0 + n) U__law_is_value D__law_all_are ih.1 D__law_is_value ih.2⟩
  have G__law_all_are := (GG__law_all_are 140).1
  have G__law_is_value := (GG__law_all_are 140).2
  have G__law_places_right := ok__law_places_right (P := P) (w := w) (base := base) (cl := (clOf w [])) T (k := 261) U__law_places_right D_field_place (G_field_place.mono (by decide)) D__law_flat (G__law_flat.mono (by decide)) D_part_place (G_part_place.mono (by decide))
  have G_law := ok_law (P := P) (w := w) (base := base) (cl := (clOf w [])) T (k := 262) U_law D__law_start (G__law_start.mono (by decide)) D__law_book (G__law_book.mono (by decide)) D__law_places_right (G__law_places_right.mono (by decide)) D__law_data (G__law_data.mono (by decide)) D_size_of (G_size_of.mono (by decide)) D__law_flat (G__law_flat.mono (by decide)) D__law_finite (G__law_finite.mono (by decide)) D__law_value (G__law_value.mono (by decide)) D_is_value (G_is_value.mono (by decide)) D__law_spoilt (G__law_spoilt.mono (by decide)) D__law_take (G__law_take.mono (by decide)) D__law_is_value (G__law_is_value.mono (by decide))
  exact G_law
end K41
open PySem PySem.W PyProof.Rows
set_option maxRecDepth 100000 in
set_option maxHeartbeats 0 in
theorem PySem.Challenge.cw_oneowner_k41_sizes_and_values_holds : PySem.Challenge.rw_oneowner_k41_sizes_and_values.Holds := by
  w_on; o_law; k_head; (case hw => w_witness2)
  k_fill
  refine DL.walk_dl (k := 263) (x := "_law_script") (F := K41.LF) (l := PySem.Challenge.rw_oneowner_k41_sizes_and_values) rfl rfl ⟨rfl, by decide, by decide⟩ (fun w h Y => PySem.W.kIn_of Y) ?F K41.law_ok
  case F =>
    intro w mg fa h KX G hmg
    refine' K41.all_mk KX G hmg ?a_is_number ?l_is_number ?c_is_number ?k_is_number ?a_has_word ?l_has_word ?c_has_word ?k_has_word ?a_named_size ?l_named_size ?c_named_size ?k_named_size ?a_flat_size ?l_flat_size ?c_flat_size ?k_flat_size ?a_sum_of_sizes ?l_sum_of_sizes ?c_sum_of_sizes ?k_sum_of_sizes ?a_size_of ?l_size_of ?c_size_of ?k_size_of ?a_field_place ?l_field_place ?c_field_place ?k_field_place ?a_part_place ?l_part_place ?c_part_place ?k_part_place ?a_are_values ?l_are_values ?c_are_values ?k_are_values ?a_is_value ?l_is_value ?c_is_value ?k_is_value ?a__law_draws ?l__law_draws ?c__law_draws ?k__law_draws ?a__law_take ?l__law_take ?c__law_take ?k__law_take ?a__law_start ?l__law_start ?c__law_start ?k__law_start ?a__law_data ?l__law_data ?c__law_data ?k__law_data ?a__law_inside ?l__law_inside ?c__law_inside ?k__law_inside ?a__law_book ?l__law_book ?c__law_book ?k__law_book ?a__law_flat ?l__law_flat ?c__law_flat ?k__law_flat ?a__law_value ?l__law_value ?c__law_value ?k__law_value ?a__law_spoilt ?l__law_spoilt ?c__law_spoilt ?k__law_spoilt ?a__law_all_are ?l__law_all_are ?c__law_all_are ?k__law_all_are ?a__law_is_value ?l__law_is_value ?c__law_is_value ?k__law_is_value ?a__law_finite ?l__law_finite ?c__law_finite ?k__law_finite ?a__law_places_right ?l__law_places_right ?c__law_places_right ?k__law_places_right ?a_law ?l_law ?c_law ?k_law ?z_abs ?z_all ?z_bool ?z_int ?z_isinstance ?z_len ?z_max ?z_range ?z_str ?z_sum ?z_tuple ?z_zip ?ka_WORD ?kr_WORD ?ta_SIZES ?tl_SIZES ?tk_SIZES ?tr_SIZES ?hs_SIZES ?hy_SIZES ?hn_SIZES
    (case a_is_number => k_is)
    (case l_is_number => k_is)
    (case c_is_number => k_is)
    (case k_is_number => k_is)
    (case a_has_word => k_is)
    (case l_has_word => k_is)
    (case c_has_word => k_is)
    (case k_has_word => k_is)
    (case a_named_size => k_is)
    (case l_named_size => k_is)
    (case c_named_size => k_is)
    (case k_named_size => k_is)
    (case a_flat_size => k_is)
    (case l_flat_size => k_is)
    (case c_flat_size => k_is)
    (case k_flat_size => k_is)
    (case a_sum_of_sizes => k_is)
    (case l_sum_of_sizes => k_is)
    (case c_sum_of_sizes => k_is)
    (case k_sum_of_sizes => k_is)
    (case a_size_of => k_is)
    (case l_size_of => k_is)
    (case c_size_of => k_is)
    (case k_size_of => k_is)
    (case a_field_place => k_is)
    (case l_field_place => k_is)
    (case c_field_place => k_is)
    (case k_field_place => k_is)
    (case a_part_place => k_is)
    (case l_part_place => k_is)
    (case c_part_place => k_is)
    (case k_part_place => k_is)
    (case a_are_values => k_is)
    (case l_are_values => k_is)
    (case c_are_values => k_is)
    (case k_are_values => k_is)
    (case a_is_value => k_is)
    (case l_is_value => k_is)
    (case c_is_value => k_is)
    (case k_is_value => k_is)
    (case a__law_draws => k_is)
    (case l__law_draws => k_is)
    (case c__law_draws => k_is)
    (case k__law_draws => k_is)
    (case a__law_take => k_is)
    (case l__law_take => k_is)
    (case c__law_take => k_is)
    (case k__law_take => k_is)
    (case a__law_start => k_is)
    (case l__law_start => k_is)
    (case c__law_start => k_is)
    (case k__law_start => k_is)
    (case a__law_data => k_is)
    (case l__law_data => k_is)
    (case c__law_data => k_is)
    (case k__law_data => k_is)
    (case a__law_inside => k_is)
    (case l__law_inside => k_is)
    (case c__law_inside => k_is)
    (case k__law_inside => k_is)
    (case a__law_book => k_is)
    (case l__law_book => k_is)
    (case c__law_book => k_is)
    (case k__law_book => k_is)
    (case a__law_flat => k_is)
    (case l__law_flat => k_is)
    (case c__law_flat => k_is)
    (case k__law_flat => k_is)
    (case a__law_value => k_is)
    (case l__law_value => k_is)
    (case c__law_value => k_is)
    (case k__law_value => k_is)
    (case a__law_spoilt => k_is)
    (case l__law_spoilt => k_is)
    (case c__law_spoilt => k_is)
    (case k__law_spoilt => k_is)
    (case a__law_all_are => k_is)
    (case l__law_all_are => k_is)
    (case c__law_all_are => k_is)
    (case k__law_all_are => k_is)
    (case a__law_is_value => k_is)
    (case l__law_is_value => k_is)
    (case c__law_is_value => k_is)
    (case k__law_is_value => k_is)
    (case a__law_finite => k_is)
    (case l__law_finite => k_is)
    (case c__law_finite => k_is)
    (case k__law_finite => k_is)
    (case a__law_places_right => k_is)
    (case l__law_places_right => k_is)
    (case c__law_places_right => k_is)
    (case k__law_places_right => k_is)
    (case a_law => k_is)
    (case l_law => k_is)
    (case c_law => k_is)
    (case k_law => k_is)
    (case z_abs => k_is)
    (case z_all => k_is)
    (case z_bool => k_is)
    (case z_int => k_is)
    (case z_isinstance => k_is)
    (case z_len => k_is)
    (case z_max => k_is)
    (case z_range => k_is)
    (case z_str => k_is)
    (case z_sum => k_is)
    (case z_tuple => k_is)
    (case z_zip => k_is)
    (case ka_WORD => k_is)
    (case kr_WORD => exact DL.KRep.int _ _)
    (case ta_SIZES => k_is)
    (case tl_SIZES => k_is)
    (case tk_SIZES => exact ⟨⟨_, _, rfl, rfl⟩, ⟨⟨_, _, rfl, rfl⟩, ⟨⟨_, _, rfl, rfl⟩, ⟨⟨_, _, rfl, rfl⟩, ⟨⟨_, _, rfl, rfl⟩, ⟨⟨_, _, rfl, rfl⟩, trivial⟩⟩⟩⟩⟩⟩)
    (case tr_SIZES => (refine' DL.KTabs.cons ?h1 ?h2 ?h3; (case h1 => k_is); (case h2 => exact DL.KRep.int _ _); (case h3 => (refine' DL.KTabs.cons ?h1 ?h2 ?h3; (case h1 => k_is); (case h2 => exact DL.KRep.int _ _); (case h3 => (refine' DL.KTabs.cons ?h1 ?h2 ?h3; (case h1 => k_is); (case h2 => exact DL.KRep.int _ _); (case h3 => (refine' DL.KTabs.cons ?h1 ?h2 ?h3; (case h1 => k_is); (case h2 => exact DL.KRep.int _ _); (case h3 => (refine' DL.KTabs.cons ?h1 ?h2 ?h3; (case h1 => k_is); (case h2 => exact DL.KRep.int _ _); (case h3 => (refine' DL.KTabs.cons ?h1 ?h2 ?h3; (case h1 => k_is); (case h2 => exact DL.KRep.int _ _); (case h3 => exact .nil)))))))))))))
    (case hs_SIZES => first | rfl | decide | k_is)
    (case hy_SIZES => intro z hz; simp only [K41.yk_SIZES, List.mem_cons, List.not_mem_nil, or_false] at hz; rcases hz with rfl | rfl | rfl | rfl | rfl | rfl <;> exact ⟨_, by k_is⟩)
    (case hn_SIZES => intro z hz; simp only [K41.nk_SIZES, List.mem_cons, List.not_mem_nil, or_false] at hz; rcases hz with rfl | rfl <;> k_is)
#print axioms PySem.Challenge.cw_oneowner_k41_sizes_and_values_holds
