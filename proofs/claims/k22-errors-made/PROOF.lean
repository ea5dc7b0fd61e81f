import PyProof.Rows.All
import Wide.All
import OpenK.AllK
import Wide.FinOn
import PyProof.EqAt
import PyProof.EqKinds
import PyProof.TupleCall
import HandS.ForMost
import HandS.ForExc
import HandS.ExcInit
import HandS.Wide
import HandS.IsInst
import HandS.TupAny
import HandS.RaiseMore
import HandS.Flow
import HandS.Iter
import HandS.Comp
import HandS.Defaults
import HandS.WordsExc
import KE.KExcInit
import KE.KExcIs
import KE.KIsAll
import PyProof.Rows.NestShow
import HandS.Head0
import HandS.Head1
import HandS.Head2
import HandS.HeadHook1
import HandS.HeadHook2
import HandS.HeadEnd
import HandS.HeadHook4
import HandS.Codes
import PyProof.ExcBaseAll.OverflowError
import PyProof.ExcBaseAll.LookupError
import PyProof.ExcBaseAll.RuntimeError
import PyProof.ExcBaseAll.ValueError
import PySem.Challenge.RW_pastnotes_k22_errors_made
set_option Elab.async false
set_option linter.all false
set_option maxRecDepth 100000
set_option maxHeartbeats 0
section
/-! DL, part a: data, the store of cells, what represents what, the mirrored readings. -/
namespace DL
open PySem PySem.Spec PyProof.Rows L2

/-- data: trees; loc n: the cell n of the store; glb: a thing of the module -/
inductive D where
  | non | bl (b : Bool) | int (i : Int) | str (s : Str)
  | lst (xs : List D) | tup (xs : List D) | dic (ks : List Key) (vs : List D)
  | ins (k : Nat) (vs : List D) | exv (k : Nat) (vs : List D)
  | loc (n : Nat) | glb (v : V)
  deriving Inhabited

/-- what a cell holds -/
inductive O where
  | lst (xs : List D) | dic (ks : List Key) (vs : List D) | dct (ks : List (List Key)) (vs : List D) | ins (k : Nat) (vs : List D)
  deriving Inhabited
abbrev Sto := List O
inductive R (α : Type) where
  | ok (a : α) (S : Sto) | exc (k : Nat) (vs : List D) (S : Sto) | bad
abbrev Sl := List (Option D)
abbrev ME := Sl → Sto → R D
abbrev MT := Sl → Sto → R Bool
abbrev MA := Sl → Sto → R (List D)
abbrev MF := List D → Sto → R D
inductive F where
  | nx (δ : Sl) (S : Sto) | ret (d : D) (S : Sto) | brk (δ : Sl) (S : Sto) | cnt (δ : Sl) (S : Sto) | exc (k : Nat) (vs : List D) (δ : Sl) (S : Sto) | bad
abbrev MS := Sl → Sto → F

def R.bind {α β : Type} (r : R α) (f : α → Sto → R β) : R β := match r with
  | .ok a S => f a S
  | .exc k vs S => .exc k vs S
  | .bad => .bad
@[simp] theorem R.bind_ok {α β : Type} (a : α) (S : Sto) (f : α → Sto → R β) : (R.ok a S).bind f = f a S := rfl
@[simp] theorem R.bind_exc {α β : Type} (k : Nat) (vs : List D) (S : Sto) (f : α → Sto → R β) : (R.exc k vs S : R α).bind f = .exc k vs S := rfl
@[simp] theorem R.bind_bad {α β : Type} (f : α → Sto → R β) : (R.bad : R α).bind f = .bad := rfl
def R.flow {α : Type} (r : R α) (δ : Sl) (f : α → Sto → F) : F := match r with
  | .ok a S => f a S
  | .exc k vs S => .exc k vs δ S
  | .bad => .bad
@[simp] theorem R.flow_ok {α : Type} (a : α) (S : Sto) (δ : Sl) (f : α → Sto → F) : (R.ok a S).flow δ f = f a S := rfl
@[simp] theorem R.flow_exc {α : Type} (k : Nat) (vs : List D) (S : Sto) (δ : Sl) (f : α → Sto → F) : (R.exc k vs S : R α).flow δ f = .exc k vs δ S := rfl
@[simp] theorem R.flow_bad {α : Type} (δ : Sl) (f : α → Sto → F) : (R.bad : R α).flow δ f = .bad := rfl

/- no cell in it -/
mutual
def D.clean : D → Bool
  | .lst xs => D.cleanL xs
  | .tup xs => D.cleanL xs
  | .dic _ vs => D.cleanL vs
  | .ins _ vs => D.cleanL vs
  | .exv _ vs => D.cleanL vs
  | .loc _ => false
  | _ => true
def D.cleanL : List D → Bool
  | [] => true
  | d :: r => D.clean d && D.cleanL r
end
theorem cleanL_iff : ∀ {ds : List D}, D.cleanL ds = true ↔ ∀ d ∈ ds, d.clean = true
  | [] => by simp [D.cleanL]
  | d :: r => by simp [D.cleanL, cleanL_iff (ds := r)]

/-- the classes: their places, their attributes in order -/
structure RC where
  K : PySem.W.Frag
  cl : Nat → Addr
  fl : Nat → List Str
/-- what stands still, and where the cells lie -/
structure Wd where
  G : Hp
  ι : List Addr
structure Wd.le (a b : Wd) : Prop where
  g : ∀ x o, a.G x = some o → b.G x = some o
  i : a.ι <+: b.ι
theorem Wd.le.refl (a : Wd) : a.le a := ⟨fun _ _ h => h, List.prefix_rfl⟩
theorem Wd.le.trans {a b c : Wd} (h : a.le b) (k : b.le c) : a.le c := ⟨fun x o e => k.g x o (h.g x o e), h.i.trans k.i⟩

/-- attributes by their places -/
structure Att (ns : List Str) (vs : List V) (fs : List (Str × V)) : Prop where
  at_ : ∀ (i : Nat) v, vs[i]? = some v → ∃ f, ns[i]? = some f ∧ fs.lookup f = some v
  no : ∀ f, f ∉ ns → fs.lookup f = none
  few : fs.length ≤ vs.length

mutual
def Rep (c : RC) (g : Wd) : D → V → Prop
  | .non, v => v = .non
  | .bl b, v => v = .bl b
  | .int i, v => v = .int i
  | .str s, v => v = .str s
  | .lst ds, v => ∃ a vs, v = .ref a ∧ SqL c.K g.G a vs ∧ RepL c g ds vs
  | .tup ds, v => ∃ a vs, v = .ref a ∧ SqT c.K g.G a vs ∧ RepL c g ds vs
  | .dic ks ds, v => ∃ a kvs, v = .ref a ∧ Rd g.G a (.dK kvs) ∧ kvs.map (·.1) = ks ∧ RepL c g ds (kvs.map (·.2))
  | .ins k ds, v => ∃ a dx fs vs, v = .ref a ∧ g.G a = some (.ins (c.cl k) dx fs) ∧ Att (c.fl k) vs fs ∧ RepL c g ds vs
  | .exv k ds, v => ∃ a dd, v = .ref a ∧ g.G a = some (exo a (c.cl k) dd) ∧ ((dd = none ∧ ds = []) ∨ ∃ d fs vs, dd = some d ∧ g.G d = some (exd d fs) ∧ Att (c.fl k) vs fs ∧ RepL c g ds vs)
  | .loc n, v => ∃ a, v = .ref a ∧ g.ι[n]? = some a
  | .glb u, v => v = u
def RepL (c : RC) (g : Wd) : List D → List V → Prop
  | [], vs => vs = []
  | d :: ds, vs => ∃ v r, vs = v :: r ∧ Rep c g d v ∧ RepL c g ds r
end

section
variable {c : RC} {g g' : Wd}
theorem Rd.up {a : Addr} {o : HO} (h : Rd g.G a o) (le : g.le g') : Rd g'.G a o := by
  rcases h with h | ⟨u, h⟩
  · exact .inl (le.g _ _ h)
  · exact .inr ⟨u, le.g _ _ h⟩
theorem SqL.up {K : PySem.W.Frag} {a : Addr} {vs : List V} (h : SqL K g.G a vs) (le : g.le g') : SqL K g'.G a vs := by
  rcases h with h | h
  · exact .inl (Rd.up h le)
  · exact .inr h
theorem SqT.up {K : PySem.W.Frag} {a : Addr} {vs : List V} (h : SqT K g.G a vs) (le : g.le g') : SqT K g'.G a vs := by
  rcases h with h | h
  · exact .inl (Rd.up h le)
  · exact .inr h
theorem nodup_at {α : Type} {l : List α} (h : l.Nodup) {i j : Nat} {a : α} (hi : l[i]? = some a) (hj : l[j]? = some a) : i = j := by
  obtain ⟨li, ei⟩ := List.getElem?_eq_some_iff.mp hi
  obtain ⟨lj, ej⟩ := List.getElem?_eq_some_iff.mp hj
  have p := List.pairwise_iff_getElem.mp h
  rcases Nat.lt_trichotomy i j with q | q | q
  · exact absurd (ei.trans ej.symm) (p i j li lj q)
  · exact q
  · exact absurd (ej.trans ei.symm) (p j i lj li q)
theorem pre_get {α : Type} {l l' : List α} {n : Nat} {a : α} (h : l <+: l') (e : l[n]? = some a) : l'[n]? = some a := by
  obtain ⟨r, rfl⟩ := h
  rw [List.getElem?_append_left (List.getElem?_eq_some_iff.mp e).1]
  exact e
mutual
theorem Rep.up (le : g.le g') : ∀ {d : D} {v : V}, Rep c g d v → Rep c g' d v
  | .non, v, h => by simpa only [Rep] using h
  | .bl b, v, h => by simpa only [Rep] using h
  | .int i, v, h => by simpa only [Rep] using h
  | .str s, v, h => by simpa only [Rep] using h
  | .lst ds, v, h => by
    rw [Rep] at h ⊢
    obtain ⟨a, vs, e, s, r⟩ := h
    exact ⟨a, vs, e, SqL.up s le, RepL.up le r⟩
  | .tup ds, v, h => by
    rw [Rep] at h ⊢
    obtain ⟨a, vs, e, s, r⟩ := h
    exact ⟨a, vs, e, SqT.up s le, RepL.up le r⟩
  | .dic ks ds, v, h => by
    rw [Rep] at h ⊢
    obtain ⟨a, kvs, e, s, q, r⟩ := h
    exact ⟨a, kvs, e, Rd.up s le, q, RepL.up le r⟩
  | .ins k ds, v, h => by
    rw [Rep] at h ⊢
    obtain ⟨a, dx, fs, vs, e, s, q, r⟩ := h
    exact ⟨a, dx, fs, vs, e, le.g _ _ s, q, RepL.up le r⟩
  | .exv k ds, v, h => by
    rw [Rep] at h ⊢
    obtain ⟨a, dd, e, s, q⟩ := h
    refine ⟨a, dd, e, le.g _ _ s, ?_⟩
    rcases q with q | ⟨d, fs, vs, e1, e2, e3, r⟩
    · exact .inl q
    · exact .inr ⟨d, fs, vs, e1, le.g _ _ e2, e3, RepL.up le r⟩
  | .loc n, v, h => by
    rw [Rep] at h ⊢
    obtain ⟨a, e, s⟩ := h
    exact ⟨a, e, pre_get le.i s⟩
  | .glb u, v, h => by simpa only [Rep] using h
theorem RepL.up (le : g.le g') : ∀ {ds : List D} {vs : List V}, RepL c g ds vs → RepL c g' ds vs
  | [], vs, h => by simpa only [RepL] using h
  | d :: ds, vs, h => by
    rw [RepL] at h ⊢
    obtain ⟨v, r, e, p, q⟩ := h
    exact ⟨v, r, e, Rep.up le p, RepL.up le q⟩
end
theorem RepL.length : ∀ {ds : List D} {vs : List V}, RepL c g ds vs → vs.length = ds.length
  | [], vs, h => by rw [RepL] at h; rw [h] <;> rfl
  | d :: ds, vs, h => by
    rw [RepL] at h
    obtain ⟨v, r, rfl, _, q⟩ := h
    rw [List.length_cons, List.length_cons, RepL.length q]
theorem RepL.get : ∀ {ds : List D} {vs : List V} {i : Nat} {d : D}, RepL c g ds vs → ds[i]? = some d → ∃ v, vs[i]? = some v ∧ Rep c g d v
  | [], _, _, _, _, e => by simp at e
  | d :: ds, vs, 0, d', h, e => by
    rw [RepL] at h
    obtain ⟨v, r, rfl, p, _⟩ := h
    simp at e
    subst e
    exact ⟨v, rfl, p⟩
  | d :: ds, vs, i + 1, d', h, e => by
    rw [RepL] at h
    obtain ⟨v, r, rfl, _, q⟩ := h
    obtain ⟨w, h1, h2⟩ := RepL.get (i := i) (d := d') q (by simpa using e)
    exact ⟨w, by simpa using h1, h2⟩
theorem RepL.nil : RepL c g [] [] := by rw [RepL]
theorem RepL.cons {d : D} {v : V} {ds : List D} {vs : List V} (p : Rep c g d v) (q : RepL c g ds vs) : RepL c g (d :: ds) (v :: vs) := by
  rw [RepL]
  exact ⟨v, vs, rfl, p, q⟩
theorem RepL.app : ∀ {ds es : List D} {vs ws : List V}, RepL c g ds vs → RepL c g es ws → RepL c g (ds ++ es) (vs ++ ws)
  | [], _, vs, _, h, k => by rw [RepL] at h; rw [h]; exact k
  | d :: ds, es, vs, ws, h, k => by
    rw [RepL] at h
    obtain ⟨v, r, rfl, p, q⟩ := h
    exact RepL.cons p (RepL.app q k)
theorem RepL.set : ∀ {ds : List D} {vs : List V} {d : D} {v : V} (i : Nat), RepL c g ds vs → Rep c g d v → RepL c g (ds.set i d) (vs.set i v)
  | [], vs, _, _, _, h, _ => by rw [RepL] at h; rw [h]; exact RepL.nil
  | d :: ds, vs, d', v', 0, h, k => by
    rw [RepL] at h
    obtain ⟨v, r, rfl, p, q⟩ := h
    exact RepL.cons k q
  | d :: ds, vs, d', v', i + 1, h, k => by
    rw [RepL] at h
    obtain ⟨v, r, rfl, p, q⟩ := h
    exact RepL.cons p (RepL.set i q k)
theorem RepL.take : ∀ {ds : List D} {vs : List V} (n : Nat), RepL c g ds vs → RepL c g (ds.take n) (vs.take n)
  | [], vs, n, h => by rw [RepL] at h; rw [h, List.take_nil, List.take_nil]; exact RepL.nil
  | d :: ds, vs, 0, h => by exact RepL.nil
  | d :: ds, vs, n + 1, h => by
    rw [RepL] at h
    obtain ⟨v, r, rfl, p, q⟩ := h
    exact RepL.cons p (RepL.take n q)
theorem RepL.drop : ∀ {ds : List D} {vs : List V} (n : Nat), RepL c g ds vs → RepL c g (ds.drop n) (vs.drop n)
  | [], vs, n, h => by rw [RepL] at h; rw [h, List.drop_nil, List.drop_nil]; exact RepL.nil
  | d :: ds, vs, 0, h => h
  | d :: ds, vs, n + 1, h => by
    rw [RepL] at h
    obtain ⟨v, r, rfl, p, q⟩ := h
    exact RepL.drop n q
theorem RepL.rev : ∀ {ds : List D} {vs : List V}, RepL c g ds vs → RepL c g ds.reverse vs.reverse
  | [], vs, h => by rw [RepL] at h; rw [h]; exact RepL.nil
  | d :: ds, vs, h => by
    rw [RepL] at h
    obtain ⟨v, r, rfl, p, q⟩ := h
    rw [List.reverse_cons, List.reverse_cons]
    exact RepL.app (RepL.rev q) (RepL.cons p RepL.nil)
theorem RepL.cons_inv {d : D} {ds : List D} {vs : List V} (h : RepL c g (d :: ds) vs) : ∃ v r, vs = v :: r ∧ Rep c g d v ∧ RepL c g ds r := by
  rw [RepL] at h
  exact h
theorem RepL.nil_inv {vs : List V} (h : RepL c g [] vs) : vs = [] := by
  rw [RepL] at h
  exact h
end

/-- kept; a dict may be locked while it is walked -/
def Kp (G H : Hp) : Prop := ∀ a o, G a = some o → H a = some o ∨ ∃ od kvs, o = .dK kvs ∧ H a = some (.frz od (.dK kvs))
theorem Kp.refl (H : Hp) : Kp H H := fun _ _ h => .inl h
theorem Kp.gone {G H : Hp} {a : Addr} (k : Kp G H) (h : H a = none) : G a = none := by
  cases e : G a with
  | none => rfl
  | some o => rcases k a o e with q | ⟨_, _, _, q⟩ <;> rw [h] at q <;> cases q
theorem Kp.rd {G H : Hp} {a : Addr} {o : HO} (k : Kp G H) (h : Rd G a o) : Rd H a o := by
  rcases h with h | ⟨u, h⟩
  · rcases k a o h with q | ⟨od, kvs, rfl, q⟩
    · exact .inl q
    · exact .inr ⟨od, q⟩
  · rcases k a _ h with q | ⟨od, kvs, e, q⟩
    · exact .inr ⟨u, q⟩
    · cases e
theorem Kp.lst {K : PySem.W.Frag} {G H : Hp} {a : Addr} {vs : List V} (k : Kp G H) (h : SqL K G a vs) : SqL K H a vs := by
  rcases h with h | h
  · exact .inl (k.rd h)
  · exact .inr h
theorem Kp.tup {K : PySem.W.Frag} {G H : Hp} {a : Addr} {vs : List V} (k : Kp G H) (h : SqT K G a vs) : SqT K H a vs := by
  rcases h with h | h
  · exact .inl (k.rd h)
  · exact .inr h
theorem Kp.ins {G H : Hp} {a : Addr} {C dx : Addr} {fs : List (Str × V)} (k : Kp G H) (h : G a = some (.ins C dx fs)) : H a = some (.ins C dx fs) := by
  rcases k a _ h with q | ⟨_, _, e, _⟩
  · exact q
  · cases e
/-- a change beside G -/
theorem Kp.aside {G H : Hp} {a : Addr} {o : HO} (k : Kp G H) (h : G a = none) : Kp G (L2.upd H a o) := fun b u e => by
  rw [upd_ne (ne_of_none e h)]
  exact k b u e
/-- a new thing in both -/
theorem Kp.new {G H : Hp} {a : Addr} {o : HO} (k : Kp G H) (h : G a = none) : Kp (L2.upd G a o) (L2.upd H a o) := fun b u e => by
  by_cases hb : b = a
  · subst hb
    rw [upd_same] at e ⊢
    exact .inl e
  · rw [upd_ne hb] at e ⊢
    exact k b u e

/-- kept, to the letter -/
def Ke (G H : Hp) : Prop := ∀ a o, G a = some o → H a = some o
theorem Ke.gone {G H : Hp} {a : Addr} (k : Ke G H) (h : H a = none) : G a = none := by
  cases e : G a with
  | none => rfl
  | some o => rw [k a o e] at h; cases h
theorem Ke.aside {G H : Hp} {a : Addr} {o : HO} (k : Ke G H) (h : G a = none) : Ke G (L2.upd H a o) := fun b u e => by
  rw [upd_ne (ne_of_none e h)]
  exact k b u e
theorem Ke.new {G H : Hp} {a : Addr} {o : HO} (k : Ke G H) (h : G a = none) : Ke (L2.upd G a o) (L2.upd H a o) := fun b u e => by
  by_cases hb : b = a
  · subst hb
    rw [upd_same] at e ⊢
    exact e
  · rw [upd_ne hb] at e ⊢
    exact k b u e

def CellRep (c : RC) (g : Wd) (H : Hp) (a : Addr) : O → Prop
  | .lst ds => D.cleanL ds = true ∧ ∃ vs, H a = some (.lst vs) ∧ RepL c g ds vs
  | .dic ks ds => D.cleanL ds = true ∧ ∃ kvs, H a = some (.dK kvs) ∧ kvs.map (·.1) = ks ∧ RepL c g ds (kvs.map (·.2))
  | .dct ks ds => D.cleanL ds = true ∧ ∃ kvs, H a = some (.dT kvs) ∧ kvs.map (·.1) = ks ∧ RepL c g ds (kvs.map (·.2))
  | .ins k ds => D.cleanL ds = true ∧ ∃ dx fs vs, H a = some (.ins (c.cl k) dx fs) ∧ Att (c.fl k) vs fs ∧ RepL c g ds vs
theorem CellRep.up {c : RC} {g g' : Wd} {H : Hp} {a : Addr} (le : g.le g') : ∀ {o : O}, CellRep c g H a o → CellRep c g' H a o
  | .lst ds, ⟨h, vs, e, r⟩ => ⟨h, vs, e, RepL.up le r⟩
  | .dic ks ds, ⟨h, kvs, e, q, r⟩ => ⟨h, kvs, e, q, RepL.up le r⟩
  | .dct ks ds, ⟨h, kvs, e, q, r⟩ => ⟨h, kvs, e, q, RepL.up le r⟩
  | .ins k ds, ⟨h, dx, fs, vs, e, q, r⟩ => ⟨h, dx, fs, vs, e, q, RepL.up le r⟩
theorem CellRep.at {c : RC} {g : Wd} {H H' : Hp} {a : Addr} (e : H' a = H a) : ∀ {o : O}, CellRep c g H a o → CellRep c g H' a o
  | .lst ds, ⟨h, vs, q, r⟩ => ⟨h, vs, e.trans q, r⟩
  | .dic ks ds, ⟨h, kvs, q, z, r⟩ => ⟨h, kvs, e.trans q, z, r⟩
  | .dct ks ds, ⟨h, kvs, q, z, r⟩ => ⟨h, kvs, e.trans q, z, r⟩
  | .ins k ds, ⟨h, dx, fs, vs, q, z, r⟩ => ⟨h, dx, fs, vs, e.trans q, z, r⟩
theorem CellRep.there {c : RC} {g : Wd} {H : Hp} {a : Addr} : ∀ {o : O}, CellRep c g H a o → ∃ u, H a = some u
  | .lst ds, ⟨h, vs, q, r⟩ => ⟨_, q⟩
  | .dic ks ds, ⟨h, kvs, q, z, r⟩ => ⟨_, q⟩
  | .dct ks ds, ⟨h, kvs, q, z, r⟩ => ⟨_, q⟩
  | .ins k ds, ⟨h, dx, fs, vs, q, z, r⟩ => ⟨_, q⟩

/-- the heap behind the data; Z: what others want kept -/
structure SimH (c : RC) (g : Wd) (S : Sto) (Z H : Hp) : Prop where
  gk : Kp g.G H
  zk : Ke Z H
  zg : ∀ a o, Z a = some o → g.G a = none
  len : g.ι.length = S.length
  nd : g.ι.Nodup
  cell : ∀ (n : Nat) a o, g.ι[n]? = some a → S[n]? = some o → g.G a = none ∧ Z a = none ∧ CellRep c g H a o

section
variable {c : RC} {g g' : Wd} {S : Sto} {Z H : Hp}
theorem SimH.mem_cell (s : SimH c g S Z H) {a : Addr} (h : a ∈ g.ι) : ∃ (n : Nat) (o : O), g.ι[n]? = some a ∧ S[n]? = some o := by
  obtain ⟨n, hn, e⟩ := List.getElem_of_mem h
  have : n < S.length := s.len ▸ hn
  exact ⟨n, S[n], by simp [hn, e], by simp [this]⟩
theorem SimH.not_new (s : SimH c g S Z H) {p : Addr} (hp : H p = none) : p ∉ g.ι := fun h => by
  obtain ⟨n, o, e1, e2⟩ := s.mem_cell h
  obtain ⟨u, q⟩ := (s.cell n p o e1 e2).2.2.there
  rw [hp] at q
  cases q
/-- a new thing that stands still -/
theorem SimH.new (s : SimH c g S Z H) {p : Addr} (hp : H p = none) (o : HO) : g.le ⟨upd g.G p o, g.ι⟩ ∧ SimH c ⟨upd g.G p o, g.ι⟩ S Z (upd H p o) := by
  have gp := s.gk.gone hp
  have le : g.le ⟨upd g.G p o, g.ι⟩ := ⟨fun x u e => (upd_ne (ne_of_none e gp)).trans e, List.prefix_rfl⟩
  refine ⟨le, s.gk.new gp, s.zk.aside (s.zk.gone hp), fun a u e => (upd_ne (ne_of_none e (s.zk.gone hp))).trans (s.zg a u e), s.len, s.nd, fun n a u e1 e2 => ?_⟩
  obtain ⟨h1, h2, h3⟩ := s.cell n a u e1 e2
  have hne : a ≠ p := fun z => s.not_new hp (z ▸ List.mem_of_getElem? e1)
  refine ⟨by show upd g.G p o a = none; rw [upd_ne hne]; exact h1, h2, (h3.up le).at (upd_ne hne)⟩
/-- a new thing that nobody names -/
theorem SimH.beside (s : SimH c g S Z H) {p : Addr} (hp : H p = none) (o : HO) : SimH c g S Z (upd H p o) := by
  refine ⟨s.gk.aside (s.gk.gone hp), s.zk.aside (s.zk.gone hp), s.zg, s.len, s.nd, fun n a u e1 e2 => ?_⟩
  obtain ⟨h1, h2, h3⟩ := s.cell n a u e1 e2
  have hne : a ≠ p := fun z => s.not_new hp (z ▸ List.mem_of_getElem? e1)
  exact ⟨h1, h2, h3.at (upd_ne hne)⟩
/-- a new cell -/
theorem SimH.newCell (s : SimH c g S Z H) {p : Addr} (hp : H p = none) {o : HO} {u : O} (hc : CellRep c ⟨g.G, g.ι ++ [p]⟩ (upd H p o) p u) : g.le ⟨g.G, g.ι ++ [p]⟩ ∧ SimH c ⟨g.G, g.ι ++ [p]⟩ (S ++ [u]) Z (upd H p o) := by
  have gp := s.gk.gone hp
  have le : g.le ⟨g.G, g.ι ++ [p]⟩ := ⟨fun _ _ e => e, ⟨[p], rfl⟩⟩
  refine ⟨le, s.gk.aside gp, s.zk.aside (s.zk.gone hp), s.zg, by simp [s.len], ?_, fun n a x e1 e2 => ?_⟩
  · have z := s.not_new hp
    have nd := s.nd
    rw [List.nodup_append]
    exact ⟨nd, by simp, fun a ha b hb => by simp at hb; subst hb; exact fun q => z (q ▸ ha)⟩
  · by_cases hn : n < S.length
    · have hn' : n < g.ι.length := s.len ▸ hn
      have e1' : g.ι[n]? = some a := by
        have : (g.ι ++ [p])[n]? = some a := e1
        rwa [List.getElem?_append_left hn'] at this
      rw [List.getElem?_append_left hn] at e2
      obtain ⟨h1, h2, h3⟩ := s.cell n a x e1' e2
      have hne : a ≠ p := fun z => s.not_new hp (z ▸ List.mem_of_getElem? e1')
      exact ⟨h1, h2, (h3.up le).at (upd_ne hne)⟩
    · have e0 : n = S.length := by
        have h2 := (List.getElem?_eq_some_iff.mp e2).1
        simp at h2
        omega
      subst e0
      have e1' : (g.ι ++ [p])[S.length]? = some a := e1
      rw [← s.len] at e1'
      simp at e1' e2
      subst e1' e2
      exact ⟨gp, s.zk.gone hp, hc⟩
/-- a cell is changed -/
theorem SimH.write (s : SimH c g S Z H) {n : Nat} {a : Addr} {o : HO} {u : O} (ha : g.ι[n]? = some a) (hn : n < S.length) (hc : CellRep c g (upd H a o) a u) : SimH c g (S.set n u) Z (upd H a o) := by
  obtain ⟨h1, h2, _⟩ := s.cell n a S[n] ha (by simp [hn])
  refine ⟨s.gk.aside h1, s.zk.aside h2, s.zg, by simp [s.len], s.nd, fun m b x e1 e2 => ?_⟩
  by_cases hm : m = n
  · subst hm
    rw [ha] at e1
    cases e1
    rw [List.getElem?_set_self hn] at e2
    cases e2
    exact ⟨h1, h2, hc⟩
  · rw [List.getElem?_set_ne (Ne.symm hm)] at e2
    obtain ⟨k1, k2, k3⟩ := s.cell m b x e1 e2
    have hne : b ≠ a := fun z => by
      subst z
      exact hm (nodup_at s.nd e1 ha)
    exact ⟨k1, k2, k3.at (upd_ne hne)⟩
end

def Slots (c : RC) (g : Wd) (δ : Sl) (σ : L2.St) : Prop := σ.length = δ.length ∧ ∀ (i : Nat) d, δ[i]? = some (some d) → ∃ v, σ[i]? = some (some v) ∧ Rep c g d v
section
variable {c : RC} {g g' : Wd} {δ : Sl} {σ : L2.St}
theorem Slots.up (s : Slots c g δ σ) (le : g.le g') : Slots c g' δ σ := ⟨s.1, fun i d e => let ⟨v, h1, h2⟩ := s.2 i d e; ⟨v, h1, Rep.up le h2⟩⟩
theorem Slots.set (s : Slots c g δ σ) {d : D} {v : V} (i : Nat) (r : Rep c g d v) : Slots c g (δ.set i (some d)) (σ.set i (some v)) := by
  refine ⟨by simp [s.1], fun j e h => ?_⟩
  by_cases hj : i = j
  · subst hj
    have hl : i < δ.length := by
      have := (List.getElem?_eq_some_iff.mp h).1
      simpa using this
    rw [List.getElem?_set_self hl] at h
    cases h
    exact ⟨v, by rw [List.getElem?_set_self (s.1 ▸ hl)], r⟩
  · rw [List.getElem?_set_ne hj] at h
    obtain ⟨w, h1, h2⟩ := s.2 j e h
    exact ⟨w, by rw [List.getElem?_set_ne hj]; exact h1, h2⟩
theorem Slots.forget (s : Slots c g δ σ) (i : Nat) (x : Option V) : Slots c g (δ.set i none) (σ.set i x) := by
  refine ⟨by simp [s.1], fun j e h => ?_⟩
  by_cases hj : i = j
  · subst hj
    have hl : i < δ.length := by
      have := (List.getElem?_eq_some_iff.mp h).1
      simpa using this
    rw [List.getElem?_set_self hl] at h
    cases h
  · rw [List.getElem?_set_ne hj] at h
    obtain ⟨w, h1, h2⟩ := s.2 j e h
    exact ⟨w, by rw [List.getElem?_set_ne hj]; exact h1, h2⟩
end

def XRep (c : RC) (g : Wd) (H : Hp) (k : Nat) (vs : List D) (dd : Option Addr) : Prop :=
  (dd = none ∧ vs = []) ∨ ∃ d fs ws, dd = some d ∧ H d = some (.xd fs) ∧ Att (c.fl k) ws fs ∧ RepL c g vs ws
theorem XRep.up {c : RC} {g g' : Wd} {H : Hp} {k : Nat} {vs : List D} {dd : Option Addr} (le : g.le g') (h : XRep c g H k vs dd) : XRep c g' H k vs dd := by
  rcases h with h | ⟨d, fs, ws, e1, e2, e3, r⟩
  · exact .inl h
  · exact .inr ⟨d, fs, ws, e1, e2, e3, RepL.up le r⟩

/-! ### what is wanted behind a mirrored run -/
def Post (c : RC) {α β : Type} (rp : Wd → α → β → Prop) (g : Wd) (Z : Hp) (r : R α) (Q : β → Hp → Prop) (E : XK) : Prop := match r with
  | .ok a S => ∀ g' v H, g.le g' → SimH c g' S Z H → rp g' a v → Q v H
  | .exc k vs S => ∀ g' dd H, g.le g' → SimH c g' S Z H → XRep c g' H k vs dd → E (.ref (c.cl k)) dd H
  | .bad => False
def PostF (c : RC) (g : Wd) (Z : Hp) (r : F) (Dn : Ends) (W : WX) : Prop := match r with
  | .nx δ S => ∀ g' σ H, g.le g' → SimH c g' S Z H → Slots c g' δ σ → Dn.nx σ H
  | .brk δ S => ∀ g' σ H, g.le g' → SimH c g' S Z H → Slots c g' δ σ → Dn.bk σ H
  | .cnt δ S => ∀ g' σ H, g.le g' → SimH c g' S Z H → Slots c g' δ σ → Dn.ct σ H
  | .ret d S => ∀ g' v H, g.le g' → SimH c g' S Z H → Rep c g' d v → Dn.rt v H
  | .exc k vs δ S => ∀ g' dd σ H, g.le g' → SimH c g' S Z H → Slots c g' δ σ → XRep c g' H k vs dd → W (.ref (c.cl k)) dd σ H
  | .bad => False
section
variable {c : RC} {g g' : Wd} {Z : Hp} {α β α₂ β₂ : Type} {rp : Wd → α → β → Prop} {rp₂ : Wd → α₂ → β₂ → Prop} {Q : β → Hp → Prop} {Q₂ : β₂ → Hp → Prop} {E : XK} {r : R α} {Dn : Ends} {W : WX}
theorem Post.up (le : g.le g') (h : Post c rp g Z r Q E) : Post c rp g' Z r Q E := by
  cases r with
  | ok a S => exact fun g₁ v H l => h g₁ v H (le.trans l)
  | exc k vs S => exact fun g₁ v H l => h g₁ v H (le.trans l)
  | bad => exact h
theorem PostF.up {r : F} (le : g.le g') (h : PostF c g Z r Dn W) : PostF c g' Z r Dn W := by
  cases r with
  | nx δ S => exact fun g₁ v H l => h g₁ v H (le.trans l)
  | brk δ S => exact fun g₁ v H l => h g₁ v H (le.trans l)
  | cnt δ S => exact fun g₁ v H l => h g₁ v H (le.trans l)
  | ret d S => exact fun g₁ v H l => h g₁ v H (le.trans l)
  | exc k vs δ S => exact fun g₁ dd σ H l => h g₁ dd σ H (le.trans l)
  | bad => exact h
theorem Post.bind {f : α → Sto → R α₂} (h : Post c rp₂ g Z (r.bind f) Q₂ E) (k : ∀ a S g₁ v H, r = .ok a S → g.le g₁ → SimH c g₁ S Z H → rp g₁ a v → Post c rp₂ g₁ Z (f a S) Q₂ E → Q v H) : Post c rp g Z r Q E := by
  cases r with
  | ok a S => exact fun g₁ v H le s p => k a S g₁ v H rfl le s p (Post.up le h)
  | exc k vs S => exact h
  | bad => exact h
theorem Post.flow {δ : Sl} {σ : L2.St} {f : α → Sto → F} (sl : Slots c g δ σ) (h : PostF c g Z (r.flow δ f) Dn W) (k : ∀ a S g₁ v H, g.le g₁ → SimH c g₁ S Z H → rp g₁ a v → PostF c g₁ Z (f a S) Dn W → Q v H) :
    Post c rp g Z r Q (fun cls d H => W cls d σ H) := by
  cases r with
  | ok a S => exact fun g₁ v H le s p => k a S g₁ v H le s p (PostF.up le h)
  | exc k vs S => exact fun g₁ dd H le s x => h g₁ dd σ H le s (sl.up le) x
  | bad => exact h
theorem Post.mono {Q' : β → Hp → Prop} (h : Post c rp g Z r Q E) (k : ∀ v H, Q v H → Q' v H) : Post c rp g Z r Q' E := by
  cases r with
  | ok a S => exact fun g₁ v H le s p => k v H (h g₁ v H le s p)
  | exc k vs S => exact h
  | bad => exact h
end

/-! ### the mirrored readings -/
def eM (c : RC) (W : WX) (m : ME) : TE := fun σ H Q => ∃ g Z δ S, SimH c g S Z H ∧ Slots c g δ σ ∧ Post c (Rep c) g Z (m δ S) Q (fun k d H' => W k d σ H')
def tM (c : RC) (W : WX) (m : MT) : TT := fun σ H Q => ∃ g Z δ S, SimH c g S Z H ∧ Slots c g δ σ ∧ Post c (fun _ a b => a = b) g Z (m δ S) Q (fun k d H' => W k d σ H')
def aM (c : RC) (W : WX) (m : MA) : TA := fun σ H Q => ∃ g Z δ S, SimH c g S Z H ∧ Slots c g δ σ ∧ Post c (RepL c) g Z (m δ S) Q (fun k d H' => W k d σ H')
def sM (c : RC) (W : WX) (m : MS) : TS := fun Dn σ H => ∃ g Z δ S, SimH c g S Z H ∧ Slots c g δ σ ∧ PostF c g Z (m δ S) Dn W
/-- e is mirrored by m -/
abbrev CE (X : Cx) (c : RC) (W : WX) (e : Expr) (m : ME) : Prop := PE X e (eM c W m)
abbrev CT (X : Cx) (c : RC) (W : WX) (e : Expr) (m : MT) : Prop := PT X e (tM c W m)
abbrev CW (X : Cx) (c : RC) (W : WX) (e : Expr) (m : MT) : Prop := PW X e (tM c W m)
abbrev CA (X : Cx) (c : RC) (W : WX) (es : List Expr) (m : MA) : Prop := PA X es (aM c W m)
abbrev CS (X : Cx) (c : RC) (W : WX) (st : Stmt) (m : MS) : Prop := PS X st (sM c W m)
abbrev CSs (X : Cx) (c : RC) (W : WX) (st : List Stmt) (m : MS) : Prop := PSs X st (sM c W m)
section
variable {X : Cx}
theorem weakE {e : Expr} {t t' : TE} (h : PE X e t) (k : ∀ σ H Q, t' σ H Q → t σ H Q) : PE X e t' := ⟨fun pins s σ H Q I q => h.run pins s σ H Q I (k _ _ _ q)⟩
theorem weakT {e : Expr} {t t' : TT} (h : PT X e t) (k : ∀ σ H Q, t' σ H Q → t σ H Q) : PT X e t' := ⟨fun pins s σ H Q I q => h.run pins s σ H Q I (k _ _ _ q)⟩
theorem weakW {e : Expr} {t t' : TT} (h : PW X e t) (k : ∀ σ H Q, t' σ H Q → t σ H Q) : PW X e t' := ⟨fun whole pins s σ H Q I q => h.run whole pins s σ H Q I (k _ _ _ q)⟩
theorem weakA {e : List Expr} {t t' : TA} (h : PA X e t) (k : ∀ σ H Q, t' σ H Q → t σ H Q) : PA X e t' := ⟨fun pos pins s σ H Q I q => h.run pos pins s σ H Q I (k _ _ _ q)⟩
theorem weakS {e : Stmt} {t t' : TS} (h : PS X e t) (k : ∀ Dn σ H, t' Dn σ H → t Dn σ H) : PS X e t' := ⟨fun pins s σ H Dn I q => h.run pins s σ H Dn I (k _ _ _ q)⟩
theorem weakSs {e : List Stmt} {t t' : TS} (h : PSs X e t) (k : ∀ Dn σ H, t' Dn σ H → t Dn σ H) : PSs X e t' := ⟨fun pins s σ H Dn I q => h.run pins s σ H Dn I (k _ _ _ q)⟩
end
end DL

end
section
/-! DL, part b: expressions. -/
namespace DL
open PySem PySem.Spec PyProof.Rows L2

/-! ### the mirrors -/
def mVar (i : Nat) : ME := fun δ S => match δ[i]? with
  | some (some d) => .ok d S
  | _ => .bad
def mC (d : D) : ME := fun _ S => .ok d S
def mBin (f : D → D → Sto → R D) (a b : ME) : ME := fun δ S => (a δ S).bind fun x S1 => (b δ S1).bind fun y S2 => f x y S2
def mUn (f : D → Sto → R D) (a : ME) : ME := fun δ S => (a δ S).bind fun x S1 => f x S1
def mCall (f : List D → Sto → R D) (a : MA) : ME := fun δ S => (a δ S).bind f
def mNil : MA := fun _ S => .ok [] S
def mCons (a : ME) (b : MA) : MA := fun δ S => (a δ S).bind fun x S1 => (b δ S1).bind fun xs S2 => .ok (x :: xs) S2
def mTest (a : ME) : MT := fun δ S => (a δ S).bind fun x S1 => match x with
  | .bl b => .ok b S1
  | _ => .bad
def mIf (t : MT) (a b : ME) : ME := fun δ S => (t δ S).bind fun k S1 => if k = true then a δ S1 else b δ S1
def mAnd (t u : MT) : MT := fun δ S => (t δ S).bind fun k S1 => if k = true then u δ S1 else .ok false S1
def mOr (t u : MT) : MT := fun δ S => (t δ S).bind fun k S1 => if k = true then .ok true S1 else u δ S1
def mNot (t : MT) : MT := fun δ S => (t δ S).bind fun k S1 => .ok (!k) S1
/-- and, or, not as values of truth values -/
def mVal (t : MT) : ME := fun δ S => (t δ S).bind fun k S1 => .ok (.bl k) S1

/-- the items of a list -/
def D.seq (S : Sto) : D → Option (List D)
  | .lst xs => some xs
  | .loc n => match S[n]? with
    | some (.lst xs) => some xs
    | _ => none
  | _ => none
/-- .. of a list or tuple -/
def D.sq (S : Sto) : D → Option (List D)
  | .tup xs => some xs
  | d => d.seq S

def fAdd (x y : D) (S : Sto) : R D := match x, y with
  | .int i, .int j => .ok (.int (i + j)) S
  | .str a, .str b => if a.length + b.length ≤ 16777216 then .ok (.str (a ++ b)) S else .bad
  | .tup xs, .tup ys => if xs.length + ys.length ≤ 16777216 then .ok (.tup (xs ++ ys)) S else .bad
  | x, y => match x.seq S, y.seq S with
    | some xs, some ys => if xs.length + ys.length ≤ 16777216 then .ok (.lst (xs ++ ys)) S else .bad
    | _, _ => .bad
def fSub (x y : D) (S : Sto) : R D := match x, y with
  | .int i, .int j => .ok (.int (i - j)) S
  | _, _ => .bad
def fMul (x y : D) (S : Sto) : R D := match x, y with
  | .int i, .int j => if (-(2 ^ 64) < i ∧ i < 2 ^ 64) ∨ (-(2 ^ 64) < j ∧ j < 2 ^ 64) then .ok (.int (i * j)) S else .bad
  | _, _ => .bad
def fDiv (x y : D) (S : Sto) : R D := match x, y with
  | .int i, .int j => if 0 < j ∧ j < 2 ^ 200 then .ok (.int (i / j)) S else .bad
  | _, _ => .bad
def fMod (x y : D) (S : Sto) : R D := match x, y with
  | .int i, .int j => if 0 < j then .ok (.int (i % j)) S else .bad
  | _, _ => .bad
def fPow (x y : D) (S : Sto) : R D := match x, y with
  | .int i, .int j => if 0 ≤ j ∧ j ≤ 1000000 ∧ i.natAbs < 2 ^ 64 then .ok (.int (i ^ j.toNat)) S else .bad
  | _, _ => .bad
def fNeg (x : D) (S : Sto) : R D := match x with
  | .int i => .ok (.int (-i)) S
  | _ => .bad
def fLt (x y : D) (S : Sto) : R D := match x, y with
  | .int i, .int j => .ok (.bl (decide (i < j))) S
  | _, _ => .bad
def fLe (x y : D) (S : Sto) : R D := match x, y with
  | .int i, .int j => .ok (.bl (decide (i ≤ j))) S
  | .str a, .str b => .ok (.bl (!decide (b.cps.toList < a.cps.toList))) S
  | _, _ => .bad
def fGt (x y : D) (S : Sto) : R D := match x, y with
  | .int i, .int j => .ok (.bl (decide (j < i))) S
  | _, _ => .bad
def fGe (x y : D) (S : Sto) : R D := match x, y with
  | .int i, .int j => .ok (.bl (decide (j ≤ i))) S
  | _, _ => .bad

def D.isN : D → Option Bool
  | .non => some true
  | .glb _ => none
  | _ => some false
def fIsN (x : D) (S : Sto) : R D := match x.isN with
  | some b => .ok (.bl b) S
  | none => .bad
def fNotN (x : D) (S : Sto) : R D := match x.isN with
  | some b => .ok (.bl (!b)) S
  | none => .bad

/-- an item by its place -/
def fIx (x y : D) (S : Sto) : R D := match y with
  | .int i => match x with
    | .str z => if z.length ≤ 16777216 then (match atI z.cps.toList i with
      | some k => .ok (.str ⟨#[k]⟩) S
      | none => .bad) else .bad
    | x => match x.sq S with
      | some xs => (match atI xs i with
        | some d => .ok d S
        | none => .bad)
      | none => .bad
  | _ => .bad
/-- a part of a list -/
def cutD (xs : List D) (lo hi : Option Int) : List D := (xs.drop (HT.sIx xs.length 0 lo)).take (HT.sIx xs.length xs.length hi - HT.sIx xs.length 0 lo)
def mPart : Option ME → Sl → Sto → R (Option Int)
  | none, _, S => .ok none S
  | some m, δ, S => (m δ S).bind fun x S1 => match x with
    | .int i => .ok (some i) S1
    | _ => .bad
def fCut (x : D) (l h : Option Int) (S : Sto) : R D := match x with
  | .tup xs => .ok (.tup (cutD xs l h)) S
  | x => match x.seq S with
    | some xs => .ok (.lst (cutD xs l h)) S
    | none => .bad
def mSlice (a : ME) (lo hi : Option ME) : ME := fun δ S => (a δ S).bind fun x S1 => (mPart lo δ S1).bind fun l S2 => (mPart hi δ S2).bind fun h S3 => fCut x l h S3

def fLen (xs : List D) (S : Sto) : R D := match xs with
  | [.str z] => if z.length ≤ 16777216 then .ok (.int z.length) S else .bad
  | [.dic ks ds] => .ok (.int ks.length) S
  | [x] => (match x.sq S with
    | some ys => .ok (.int ys.length) S
    | none => .bad)
  | _ => .bad
def fAbs (xs : List D) (S : Sto) : R D := match xs with
  | [.int i] => .ok (.int (if i < 0 then -i else i)) S
  | _ => .bad
def fInt (xs : List D) (S : Sto) : R D := match xs with
  | [.int i] => .ok (.int i) S
  | [.bl k] => .ok (.int (if k then 1 else 0)) S
  | _ => .bad
def fMax (xs : List D) (S : Sto) : R D := match xs with
  | [.int i, .int j] => .ok (.int (if j > i then j else i)) S
  | _ => .bad
def fMin (xs : List D) (S : Sto) : R D := match xs with
  | [.int i, .int j] => .ok (.int (if j < i then j else i)) S
  | _ => .bad
def fBool (xs : List D) (S : Sto) : R D := match xs with
  | [.bl k] => .ok (.bl k) S
  | _ => .bad
def fTup (xs : List D) (S : Sto) : R D := if xs.length ≤ 16777216 then .ok (.tup xs) S else .bad
def fLst (xs : List D) (S : Sto) : R D := if xs.length ≤ 16777216 then .ok (.lst xs) S else .bad
/-- a list that will change -/
def fLstC (xs : List D) (S : Sto) : R D := if xs.length ≤ 16777216 ∧ D.cleanL xs = true then .ok (.loc S.length) (S ++ [.lst xs]) else .bad

/-! ### the frame of a rule -/
structure Cf (k : Nat) (X : Cx) (c : RC) : Prop where
  kk : c.K = X.K
  gd : X.A.guards = some []
  hr : Room k X.A
  calm : X.calm = true
theorem Cf.mono {j k : Nat} {X : Cx} {c : RC} (h : Cf k X c) (l : j ≤ k) : Cf j X c := ⟨h.kk, h.gd, h.hr.mono l, h.calm⟩
theorem sz {n : Nat} (h : n ≤ 16777216) : n ≤ sizeLine := by rw [sizeLine_eq]; exact h
theorem sz' {n : Nat} (h : n ≤ sizeLine) : n ≤ 16777216 := by rw [sizeLine_eq] at h; exact h

section
variable {c : RC} {g : Wd} {S : Sto} {Z H : Hp} {d : D} {v : V}
theorem seq_ok (s : SimH c g S Z H) (r : Rep c g d v) {xs : List D} (e : d.seq S = some xs) : ∃ a vs, v = .ref a ∧ SqL c.K H a vs ∧ RepL c g xs vs := by
  cases d with
  | lst ys =>
    cases e
    rw [Rep] at r
    obtain ⟨a, vs, rfl, q, p⟩ := r
    exact ⟨a, vs, rfl, s.gk.lst q, p⟩
  | loc n =>
    simp only [D.seq] at e
    split at e
    · rename_i ys hn
      cases e
      rw [Rep] at r
      obtain ⟨a, rfl, ha⟩ := r
      obtain ⟨_, _, _, vs, q, p⟩ := s.cell n a _ ha hn
      exact ⟨a, vs, rfl, SqL.of q, p⟩
    · cases e
  | _ => cases e
theorem tup_ok (s : SimH c g S Z H) {xs : List D} (r : Rep c g (.tup xs) v) : ∃ a vs, v = .ref a ∧ SqT c.K H a vs ∧ RepL c g xs vs := by
  rw [Rep] at r
  obtain ⟨a, vs, rfl, q, p⟩ := r
  exact ⟨a, vs, rfl, s.gk.tup q, p⟩
theorem sq_ok (s : SimH c g S Z H) (r : Rep c g d v) {xs : List D} (e : d.sq S = some xs) : ∃ a vs, v = .ref a ∧ (SqL c.K H a vs ∨ SqT c.K H a vs) ∧ RepL c g xs vs := by
  have other : d.seq S = some xs → ∃ a vs, v = .ref a ∧ (SqL c.K H a vs ∨ SqT c.K H a vs) ∧ RepL c g xs vs := fun e => by
    obtain ⟨a, vs, h1, h2, h3⟩ := seq_ok s r e
    exact ⟨a, vs, h1, .inl h2, h3⟩
  cases d with
  | tup ys =>
    cases e
    obtain ⟨a, vs, h1, h2, h3⟩ := tup_ok s r
    exact ⟨a, vs, h1, .inr h2, h3⟩
  | _ => exact other e
theorem Rep.int_inv {i : Int} (r : Rep c g (.int i) v) : v = .int i := by rwa [Rep] at r
theorem Rep.str_inv {i : Str} (r : Rep c g (.str i) v) : v = .str i := by rwa [Rep] at r
theorem Rep.bl_inv {i : Bool} (r : Rep c g (.bl i) v) : v = .bl i := by rwa [Rep] at r
theorem Rep.non_inv (r : Rep c g .non v) : v = .non := by rwa [Rep] at r
theorem Rep.int {i : Int} : Rep c g (.int i) (.int i) := by rw [Rep]
theorem Rep.str {i : Str} : Rep c g (.str i) (.str i) := by rw [Rep]
theorem Rep.bl {i : Bool} : Rep c g (.bl i) (.bl i) := by rw [Rep]
theorem Rep.non : Rep c g .non .non := by rw [Rep]
/-- a new tuple, a new list that stands -/
theorem tup_new (s : SimH c g S Z H) {xs : List D} {vs : List V} (r : RepL c g xs vs) {p : Addr} (hp : H p = none) {Q : VK} {E : XK} (q : Post c (Rep c) g Z (.ok (.tup xs) S) Q E) : Q (.ref p) (upd H p (.tup vs)) := by
  obtain ⟨le, s'⟩ := s.new hp (.tup vs)
  refine q _ _ _ le s' ?_
  rw [Rep]
  exact ⟨p, vs, rfl, .inl (.inl upd_same), RepL.up le r⟩
theorem lst_new (s : SimH c g S Z H) {xs : List D} {vs : List V} (r : RepL c g xs vs) {p : Addr} (hp : H p = none) {Q : VK} {E : XK} (q : Post c (Rep c) g Z (.ok (.lst xs) S) Q E) : Q (.ref p) (upd H p (.lst vs)) := by
  obtain ⟨le, s'⟩ := s.new hp (.lst vs)
  refine q _ _ _ le s' ?_
  rw [Rep]
  exact ⟨p, vs, rfl, .inl (.inl upd_same), RepL.up le r⟩
theorem lst_newC (s : SimH c g S Z H) {xs : List D} {vs : List V} (r : RepL c g xs vs) (hc : D.cleanL xs = true) {p : Addr} (hp : H p = none) {Q : VK} {E : XK} (q : Post c (Rep c) g Z (.ok (.loc S.length) (S ++ [.lst xs])) Q E) : Q (.ref p) (upd H p (.lst vs)) := by
  have le0 : g.le ⟨g.G, g.ι ++ [p]⟩ := ⟨fun _ _ e => e, ⟨[p], rfl⟩⟩
  obtain ⟨le, s'⟩ := s.newCell (o := .lst vs) (u := .lst xs) hp ⟨hc, vs, upd_same, RepL.up le0 r⟩
  refine q _ _ _ le s' ?_
  rw [Rep]
  exact ⟨p, rfl, by rw [← s.len]; simp⟩
end

/-! ### the rules -/
section
variable {X : Cx} {c : RC} {W : WX} {a b e : Expr} {ma mb : ME} {ta tb : MT} {pos : Pos} {k : Nat}
theorem ce_var {i : Nat} {x : Str} (hN : X.N[i]? = some x) (hv : Vis X.env.scope x) (hd : (x == ("__debug__" : Str)) = false := by decide) (hcd : (x == ("__classdict__" : Str)) = false := by decide) : CE X c W (.Name x pos) (mVar i) :=
  weakE (pe_var hN hv hd hcd) fun σ H Q ⟨g, Z, δ, S, s, sl, q⟩ => by
    unfold mVar at q
    split at q
    · rename_i d hd
      obtain ⟨v, h1, h2⟩ := sl.2 i d hd
      exact ⟨v, h1, q g v H (.refl g) s h2⟩
    · exact q.elim
theorem ce_v {i : Nat} {x : Str} (hN : X.N[i]? = some x := by rfl) (hv : Vis X.env.scope x := by first | exact .inl rfl | exact .inr (.inl rfl) | exact .inr (.inr rfl)) (hd : (x == ("__debug__" : Str)) = false := by decide) (hcd : (x == ("__classdict__" : Str)) = false := by decide) :
    CE X c W (.Name x pos) (mVar i) := ce_var hN hv hd hcd
theorem ce_int {i j} : CE X c W (.Constant (.int i) j pos) (mC (.int i)) := weakE pe_int fun σ H Q ⟨g, Z, δ, S, s, sl, q⟩ => q g _ H (.refl g) s Rep.int
theorem ce_bl {i j} : CE X c W (.Constant (.bool i) j pos) (mC (.bl i)) := weakE pe_bl fun σ H Q ⟨g, Z, δ, S, s, sl, q⟩ => q g _ H (.refl g) s Rep.bl
theorem ce_non {j} : CE X c W (.Constant .none j pos) (mC .non) := weakE pe_non fun σ H Q ⟨g, Z, δ, S, s, sl, q⟩ => q g _ H (.refl g) s Rep.non
theorem ce_str {i j} : CE X c W (.Constant (.str i) j pos) (mC (.str i)) := weakE pe_str fun σ H Q ⟨g, Z, δ, S, s, sl, q⟩ => q g _ H (.refl g) s Rep.str
/-- a module's name that is a number or a text -/
theorem ce_globI {x : Str} {i : Int} {u : Value} (hg : Gl X x) (hm : X.mg x = some u) (r : RelV (.int i) u) (hd : (x == ("__debug__" : Str)) = false := by decide) : CE X c W (.Name x pos) (mC (.int i)) :=
  weakE (pe_glob hg hm r hd) fun σ H Q ⟨g, Z, δ, S, s, sl, q⟩ => q g _ H (.refl g) s Rep.int
theorem ce_globS {x : Str} {i : Str} {u : Value} (hg : Gl X x) (hm : X.mg x = some u) (r : RelV (.str i) u) (hd : (x == ("__debug__" : Str)) = false := by decide) : CE X c W (.Name x pos) (mC (.str i)) :=
  weakE (pe_glob hg hm r hd) fun σ H Q ⟨g, Z, δ, S, s, sl, q⟩ => q g _ H (.refl g) s Rep.str

/-- an operation on values and its mirror -/
def OpD (c : RC) (r : R2) (f : D → D → Sto → R D) : Prop := ∀ (g : Wd) (Z : Hp) (S : Sto) (H : Hp) (x y : D) (v w : V) (Q : VK) (E : XK), SimH c g S Z H → Rep c g x v → Rep c g y w → Post c (Rep c) g Z (f x y S) Q E → r v w H Q
def UnD (c : RC) (r : V → Hp → VK → Prop) (f : D → Sto → R D) : Prop := ∀ (g : Wd) (Z : Hp) (S : Sto) (H : Hp) (x : D) (v : V) (Q : VK) (E : XK), SimH c g S Z H → Rep c g x v → Post c (Rep c) g Z (f x S) Q E → r v H Q
def ClD (c : RC) (r : List V → Hp → VK → Prop) (f : List D → Sto → R D) : Prop := ∀ (g : Wd) (Z : Hp) (S : Sto) (H : Hp) (x : List D) (v : List V) (Q : VK) (E : XK), SimH c g S Z H → RepL c g x v → Post c (Rep c) g Z (f x S) Q E → r v H Q
theorem op2 {r : R2} {f : D → D → Sto → R D} (hf : OpD c r f) {σ : L2.St} {H : Hp} {Q : VK} (h : eM c W (mBin f ma mb) σ H Q) : tOp r (eM c W ma) (eM c W mb) σ H Q := by
  obtain ⟨g, Z, δ, S, s, sl, q⟩ := h
  exact ⟨g, Z, δ, S, s, sl, Post.bind q fun x S1 g1 v H1 _ le1 s1 r1 q1 => ⟨g1, Z, δ, S1, s1, sl.up le1, Post.bind q1 fun y S2 g2 w H2 _ le2 s2 r2 q2 => hf g2 Z S2 H2 x y v w Q _ s2 (Rep.up le2 r1) r2 q2⟩⟩
theorem ce_op {op : Operator} {r : R2} {f : D → D → Sto → R D} (ho : OpR X (binaryOp op) r) (hf : OpD c r f) (ha : CE X c W a ma) (hb : CE X c W b mb) : CE X c W (.BinOp a op b pos) (mBin f ma mb) := weakE (pe_op ho ha hb) fun _ _ _ h => op2 hf h
theorem ce_cmp {op : CmpOp} {r : R2} {f : D → D → Sto → R D} (ho : OpR X (compareOp op) r) (hf : OpD c r f) (ha : CE X c W a ma) (hb : CE X c W b mb) (hm : behindInMarks op b = false := by rfl) : CE X c W (.Compare a [op] [b] pos) (mBin f ma mb) :=
  weakE (pe_cmpR ho ha hb hm) fun _ _ _ h => op2 hf h
/-- a test's value -/
theorem test_of {te : TE} {m : ME} (h : ∀ σ H Q, eM c W m σ H Q → te σ H Q) {σ : L2.St} {H : Hp} {Q : Bool → Hp → Prop} (q : tM c W (mTest m) σ H Q) : te σ H fun x H' => ∃ k, x = .bl k ∧ Q k H' := by
  obtain ⟨g, Z, δ, S, s, sl, q⟩ := q
  refine h _ _ _ ⟨g, Z, δ, S, s, sl, Post.bind q fun x S1 g1 v H1 _ le1 s1 r1 q1 => ?_⟩
  cases x with
  | bl k => exact ⟨k, r1.bl_inv, q1 g1 k H1 (.refl g1) s1 rfl⟩
  | _ => exact q1.elim
theorem ct_cmp {op : CmpOp} {r : R2} {f : D → D → Sto → R D} (ho : OpR X (compareOp op) r) (hf : OpD c r f) (ha : CE X c W a ma) (hb : CE X c W b mb) (hm : behindInMarks op b = false := by rfl) : CT X c W (.Compare a [op] [b] pos) (mTest (mBin f ma mb)) :=
  weakT (pt_cmpR ho ha hb hm) fun _ _ _ h => test_of (fun _ _ _ h => op2 hf h) h
theorem ct_val {m : ME} (h : CE X c W e m) (he : ∀ whole, isTrue e X.env whole = (do let v ← whole; standAt e.pos; holding [v] (truthy v)) := by intro _; rfl) : CT X c W e (mTest m) :=
  weakT (pt_val h he) fun _ _ _ h => test_of (fun _ _ _ h => h) h
theorem ce_un {op : UnaryOp} {r : V → Hp → VK → Prop} {f : D → Sto → R D} (ho : UnR X (unaryOp op) r) (hf : UnD c r f) (ha : CE X c W a ma) : CE X c W (.UnaryOp op a pos) (mUn f ma) :=
  weakE (pe_un ho ha) fun σ H Q ⟨g, Z, δ, S, s, sl, q⟩ => ⟨g, Z, δ, S, s, sl, Post.bind q fun x S1 g1 v H1 _ le1 s1 r1 q1 => hf g1 Z S1 H1 x v Q _ s1 r1 q1⟩
theorem ce_if {t : Expr} {mt : MT} (ht : CT X c W t mt) (ha : CE X c W a ma) (hb : CE X c W b mb) : CE X c W (.IfExp t a b pos) (mIf mt ma mb) :=
  weakE (pe_ifExp ht ha hb) fun σ H Q ⟨g, Z, δ, S, s, sl, q⟩ => ⟨g, Z, δ, S, s, sl, Post.bind q fun x S1 g1 v H1 _ le1 s1 r1 q1 => by
    subst r1
    cases x with
    | true => exact ⟨g1, Z, δ, S1, s1, sl.up le1, q1⟩
    | false => exact ⟨g1, Z, δ, S1, s1, sl.up le1, q1⟩⟩
theorem cw_and1 (ha : CT X c W a ta) : CW X c W (.BoolOp .And [a] pos) ta := pw_and1 ha
theorem cw_or1 (ha : CT X c W a ta) : CW X c W (.BoolOp .Or [a] pos) ta := pw_or1 ha
theorem cw_and {rest : List Expr} (ha : CT X c W a ta) (hb : CW X c W (.BoolOp .And (b :: rest) pos) tb) : CW X c W (.BoolOp .And (a :: b :: rest) pos) (mAnd ta tb) :=
  weakW (pw_and ha hb) fun σ H Q ⟨g, Z, δ, S, s, sl, q⟩ => ⟨g, Z, δ, S, s, sl, Post.bind q fun x S1 g1 v H1 _ le1 s1 r1 q1 => by
    subst r1
    cases x with
    | true => exact ⟨g1, Z, δ, S1, s1, sl.up le1, q1⟩
    | false => exact q1 g1 false H1 (.refl g1) s1 rfl⟩
theorem cw_or {rest : List Expr} (ha : CT X c W a ta) (hb : CW X c W (.BoolOp .Or (b :: rest) pos) tb) : CW X c W (.BoolOp .Or (a :: b :: rest) pos) (mOr ta tb) :=
  weakW (pw_or ha hb) fun σ H Q ⟨g, Z, δ, S, s, sl, q⟩ => ⟨g, Z, δ, S, s, sl, Post.bind q fun x S1 g1 v H1 _ le1 s1 r1 q1 => by
    subst r1
    cases x with
    | true => exact q1 g1 true H1 (.refl g1) s1 rfl
    | false => exact ⟨g1, Z, δ, S1, s1, sl.up le1, q1⟩⟩
theorem ct_bool {op : BoolOp} {es : List Expr} {t : MT} (h : CW X c W (.BoolOp op es pos) t) : CT X c W (.BoolOp op es pos) t := PW.pt h
theorem ct_not (ha : CT X c W a ta) : CT X c W (.UnaryOp .Not a pos) (mNot ta) :=
  weakT (pt_not ha) fun σ H Q ⟨g, Z, δ, S, s, sl, q⟩ => ⟨g, Z, δ, S, s, sl, Post.bind q fun x S1 g1 v H1 _ le1 s1 r1 q1 => by
    subst r1
    exact q1 g1 (!x) H1 (.refl g1) s1 rfl⟩
/-- and, or as values, every part a truth value -/
theorem ce_one {op : BoolOp} (h : CE X c W a ma) : CE X c W (.BoolOp op [a] pos) (mVal (mTest ma)) := weakE (pe_one h) fun σ H Q ⟨g, Z, δ, S, s, sl, q⟩ => ⟨g, Z, δ, S, s, sl, by
  unfold mVal mTest at q
  cases e1 : ma δ S with
  | ok x S1 =>
    rw [e1] at q
    cases x with
    | bl k => exact q
    | _ => exact q.elim
  | exc k vs S1 =>
    rw [e1] at q
    exact q
  | bad =>
    rw [e1] at q
    exact q⟩
theorem ce_and {rest : List Expr} (ha : CE X c W a ma) (hb : CE X c W (.BoolOp .And (b :: rest) pos) (mVal tb)) : CE X c W (.BoolOp .And (a :: b :: rest) pos) (mVal (mAnd (mTest ma) tb)) :=
  weakE (pe_and ha hb) fun σ H Q ⟨g, Z, δ, S, s, sl, q⟩ => ⟨g, Z, δ, S, s, sl, by
    have q' : Post c (Rep c) g Z ((ma δ S).bind fun x S1 => match x with | .bl true => mVal tb δ S1 | .bl false => .ok (.bl false) S1 | _ => .bad) Q (fun k d H' => W k d σ H') := by
      unfold mVal mAnd mTest at q
      cases e1 : ma δ S with
      | ok x S1 =>
        rw [e1] at q
        cases x with
        | bl k =>
          cases k with
          | true => exact q
          | false => exact q
        | _ => exact q
      | exc k vs S1 =>
        rw [e1] at q
        exact q
      | bad =>
        rw [e1] at q
        exact q
    refine Post.bind q' fun x S1 g1 v H1 _ le1 s1 r1 q1 => ?_
    cases x with
    | bl k =>
      refine ⟨k, r1.bl_inv, ?_⟩
      cases k with
      | true => exact ⟨g1, Z, δ, S1, s1, sl.up le1, q1⟩
      | false => exact q1 g1 _ H1 (.refl g1) s1 Rep.bl
    | _ => exact q1.elim⟩
theorem ce_or {rest : List Expr} (ha : CE X c W a ma) (hb : CE X c W (.BoolOp .Or (b :: rest) pos) (mVal tb)) : CE X c W (.BoolOp .Or (a :: b :: rest) pos) (mVal (mOr (mTest ma) tb)) :=
  weakE (pe_or ha hb) fun σ H Q ⟨g, Z, δ, S, s, sl, q⟩ => ⟨g, Z, δ, S, s, sl, by
    have q' : Post c (Rep c) g Z ((ma δ S).bind fun x S1 => match x with | .bl false => mVal tb δ S1 | .bl true => .ok (.bl true) S1 | _ => .bad) Q (fun k d H' => W k d σ H') := by
      unfold mVal mOr mTest at q
      cases e1 : ma δ S with
      | ok x S1 =>
        rw [e1] at q
        cases x with
        | bl k =>
          cases k with
          | true => exact q
          | false => exact q
        | _ => exact q
      | exc k vs S1 =>
        rw [e1] at q
        exact q
      | bad =>
        rw [e1] at q
        exact q
    refine Post.bind q' fun x S1 g1 v H1 _ le1 s1 r1 q1 => ?_
    cases x with
    | bl k =>
      refine ⟨k, r1.bl_inv, ?_⟩
      cases k with
      | false => exact ⟨g1, Z, δ, S1, s1, sl.up le1, q1⟩
      | true => exact q1 g1 _ H1 (.refl g1) s1 Rep.bl
    | _ => exact q1.elim⟩
theorem ce_not (ha : CE X c W a ma) : CE X c W (.UnaryOp .Not a pos) (mVal (mNot (mTest ma))) :=
  weakE (pe_not ha) fun σ H Q ⟨g, Z, δ, S, s, sl, q⟩ => ⟨g, Z, δ, S, s, sl, by
    have q' : Post c (Rep c) g Z ((ma δ S).bind fun x S1 => match x with | .bl k => .ok (.bl (!k)) S1 | _ => .bad) Q (fun k d H' => W k d σ H') := by
      unfold mVal mNot mTest at q
      cases e1 : ma δ S with
      | ok x S1 =>
        rw [e1] at q
        cases x with
        | bl k => exact q
        | _ => exact q
      | exc k vs S1 =>
        rw [e1] at q
        exact q
      | bad =>
        rw [e1] at q
        exact q
    refine Post.bind q' fun x S1 g1 v H1 _ le1 s1 r1 q1 => ?_
    cases x with
    | bl k => exact ⟨k, r1.bl_inv, q1 g1 _ H1 (.refl g1) s1 Rep.bl⟩
    | _ => exact q1.elim⟩

/-! arguments, displays -/
theorem ca_nil : CA X c W [] mNil := weakA pa_nil fun σ H Q ⟨g, Z, δ, S, s, sl, q⟩ => q g [] H (.refl g) s RepL.nil
theorem ca_cons {es : List Expr} {m : MA} (ha : CE X c W e ma) (hr : CA X c W es m) (hs : starEach (e :: es) X.env = (false, eval e X.env) :: starEach es X.env := by rfl) : CA X c W (e :: es) (mCons ma m) :=
  weakA (pa_cons ha hr hs) fun σ H Q ⟨g, Z, δ, S, s, sl, q⟩ => ⟨g, Z, δ, S, s, sl, Post.bind q fun x S1 g1 v H1 _ le1 s1 r1 q1 => ⟨g1, Z, δ, S1, s1, sl.up le1, Post.bind q1 fun xs S2 g2 vs H2 _ le2 s2 r2 q2 =>
    q2 g2 _ H2 (.refl g2) s2 (RepL.cons (Rep.up le2 r1) r2)⟩⟩
theorem ce_tup {es : List Expr} {m : MA} {x1} (h : CA X c W es m) : CE X c W (.Tuple es x1 pos) (mCall fTup m) :=
  weakE (pe_tup h) fun σ H Q ⟨g, Z, δ, S, s, sl, q⟩ => ⟨g, Z, δ, S, s, sl, Post.bind q fun xs S1 g1 vs H1 _ le1 s1 r1 q1 => by
    unfold fTup at q1
    split at q1
    · rename_i hz
      exact ⟨by rw [r1.length]; exact sz hz, fun p hp => tup_new s1 r1 hp q1⟩
    · exact q1.elim⟩
theorem ce_lst {es : List Expr} {m : MA} (h : CA X c W es m) : CE X c W (.List es pos) (mCall fLst m) :=
  weakE (pe_lst h) fun σ H Q ⟨g, Z, δ, S, s, sl, q⟩ => ⟨g, Z, δ, S, s, sl, Post.bind q fun xs S1 g1 vs H1 _ le1 s1 r1 q1 => by
    unfold fLst at q1
    split at q1
    · rename_i hz
      exact ⟨by rw [r1.length]; exact sz hz, fun p hp => lst_new s1 r1 hp q1⟩
    · exact q1.elim⟩
theorem ce_lstC {es : List Expr} {m : MA} (h : CA X c W es m) : CE X c W (.List es pos) (mCall fLstC m) :=
  weakE (pe_lst h) fun σ H Q ⟨g, Z, δ, S, s, sl, q⟩ => ⟨g, Z, δ, S, s, sl, Post.bind q fun xs S1 g1 vs H1 _ le1 s1 r1 q1 => by
    unfold fLstC at q1
    split at q1
    · rename_i hz
      exact ⟨by rw [r1.length]; exact sz hz.1, fun p hp => lst_newC s1 r1 hz.2 hp q1⟩
    · exact q1.elim⟩
/-- a built-in called by its name -/
theorem ce_callB {x : Str} {p : Pos} {es : List Expr} {m : MA} {id : String} {r : List V → Hp → VK → Prop} {f : List D → Sto → R D} (hc : CallR X (.builtin id) r) (hf : ClD c r f) (hg : Gl X x) (hm : X.mg x = none) (hv : bootBuiltins x = some (.builtin id)) (ha : CA X c W (e :: es) m)
    (hn : x ≠ "__name__" := by decide) (hdb : (x == ("__debug__" : Str)) = false := by decide) (he : starEach (e :: es) X.env = (false, eval e X.env) :: starEach es X.env := by rfl) (hpl : (backTo pos (starEach es X.env)).any (·.1) = false := by rfl) : CE X c W (.Call (.Name x p) (e :: es) [] pos) (mCall f m) :=
  weakE (pe_callB hc hg hm hv ha hn hdb he hpl) fun σ H Q ⟨g, Z, δ, S, s, sl, q⟩ => ⟨g, Z, δ, S, s, sl, Post.bind q fun xs S1 g1 vs H1 _ le1 s1 r1 q1 => hf g1 Z S1 H1 xs vs Q _ s1 r1 q1⟩
theorem ce_callTy {x : Str} {p : Pos} {es : List Expr} {m : MA} {T : String} {r : List V → Hp → VK → Prop} {f : List D → Sto → R D} (hc : CallR X (.type T) r) (hf : ClD c r f) (hg : Gl X x) (hm : X.mg x = none) (hv : bootBuiltins x = some (.type T)) (ha : CA X c W (e :: es) m)
    (hn : x ≠ "__name__" := by decide) (hdb : (x == ("__debug__" : Str)) = false := by decide) (he : starEach (e :: es) X.env = (false, eval e X.env) :: starEach es X.env := by rfl) (hpl : (backTo pos (starEach es X.env)).any (·.1) = false := by rfl) : CE X c W (.Call (.Name x p) (e :: es) [] pos) (mCall f m) :=
  weakE (pe_callTy hc hg hm hv ha hn hdb he hpl) fun σ H Q ⟨g, Z, δ, S, s, sl, q⟩ => ⟨g, Z, δ, S, s, sl, Post.bind q fun xs S1 g1 vs H1 _ le1 s1 r1 q1 => hf g1 Z S1 H1 xs vs Q _ s1 r1 q1⟩
end
end DL

end
section
/-! DL, part c: operations on values, loops, comprehensions, statements. -/
namespace DL
open PySem PySem.Spec PyProof.Rows L2

/-! ### lists joined, whatever they are -/
def rCatS (K : PySem.W.Frag) : R2 := fun x y H Q => ∃ l b xs zs, x = .ref l ∧ y = .ref b ∧ SqL K H l xs ∧ SqL K H b zs ∧ xs.length + zs.length ≤ sizeLine ∧ ∀ p, H p = none → Q (.ref p) (upd H p (.lst (xs ++ zs)))
theorem op_catS {X : Cx} : OpR X (binaryOp .Add) (rCatS X.K) := by
  intro pins s σ H x y v u Q I rx ry h
  obtain ⟨l, b, xs, zs, rfl, rfl, hx, hz, hsz, q⟩ := h
  cases rx
  cases ry
  obtain ⟨its, r, ⟨⟨c1, d1, t1, s1⟩, n1, e1, k1, j1, f1⟩, _⟩ := I.list hx
  obtain ⟨its2, r2, ⟨⟨c2, d2, t2, s2⟩, n2, e2, k2, j2, f2⟩, _⟩ := I.list hz
  simp only at k1 j1 f1 k2 j2 f2
  subst k1 j1 f1 k2 j2 f2
  have ea : its.toArray ++ its2.toArray = (its ++ its2).toArray := by simp
  have hl : its.length + its2.length ≤ sizeLine := by rw [← r.length, ← r2.length]; exact hsz
  refine concat_meets ⟨_, e1, rfl⟩ ⟨_, e2, rfl⟩ noFill_list_add seq_list_add PySem.F.slot_list_add PySem.F.entry_list_add (PySem.F.args_list_add_2 _ _) (list_addW l b its.toArray its2.toArray n1 n2 none none s1 s2 (by simpa using hl)) ⟨e1, e2, ?_⟩
  rw [ea]
  exact ⟨.ref _, _, I.lnew (t' := s.toks) (r.append r2) (by rw [List.length_append]; exact hsz), rfl, q _ I.fresh⟩

/-! ### data as the library has it -/
mutual
def D.py : D → Option PyData
  | .non => some .none
  | .bl b => some (.bool b)
  | .int i => some (.int i)
  | .str s => some (.str s)
  | .lst xs => (D.pyL xs).map .list
  | .tup xs => (D.pyL xs).map .tuple
  | _ => none
def D.pyL : List D → Option (List PyData)
  | [] => some []
  | d :: r => match D.py d, D.pyL r with
    | some p, some ps => some (p :: ps)
    | _, _ => none
end
def D.pyS (S : Sto) : D → Option PyData
  | .loc n => match S[n]? with
    | some (.lst xs) => (D.pyL xs).map .list
    | _ => none
  | d => d.py
section
variable {c : RC} {g : Wd} {S : Sto} {Z H : Hp}
mutual
theorem py_ok (s : SimH c g S Z H) : ∀ {d : D} {v : V} {p : PyData}, Rep c g d v → d.py = some p → Dp c.K H v p
  | .non, v, p, r, e => by cases e; rw [Rep] at r; subst r; exact .non
  | .bl b, v, p, r, e => by cases e; rw [Rep] at r; subst r; exact .bl b
  | .int b, v, p, r, e => by cases e; rw [Rep] at r; subst r; exact .int b
  | .str b, v, p, r, e => by cases e; rw [Rep] at r; subst r; exact .str b
  | .lst xs, v, p, r, e => by
    rw [D.py] at e
    obtain ⟨ps, e1, rfl⟩ := Option.map_eq_some_iff.mp e
    rw [Rep] at r
    obtain ⟨a, vs, rfl, q, rs⟩ := r
    exact .lst (s.gk.lst q) (pyL_ok s rs e1)
  | .tup xs, v, p, r, e => by
    rw [D.py] at e
    obtain ⟨ps, e1, rfl⟩ := Option.map_eq_some_iff.mp e
    rw [Rep] at r
    obtain ⟨a, vs, rfl, q, rs⟩ := r
    exact .tup (s.gk.tup q) (pyL_ok s rs e1)
  | .dic _ _, _, _, _, e => by cases e
  | .ins _ _, _, _, _, e => by cases e
  | .exv _ _, _, _, _, e => by cases e
  | .loc _, _, _, _, e => by cases e
  | .glb _, _, _, _, e => by cases e
theorem pyL_ok (s : SimH c g S Z H) : ∀ {ds : List D} {vs : List V} {ps : List PyData}, RepL c g ds vs → D.pyL ds = some ps → DpAll c.K H vs ps
  | [], vs, ps, r, e => by
    rw [D.pyL] at e
    cases e
    rw [RepL] at r
    subst r
    exact .nil
  | d :: ds, vs, ps, r, e => by
    rw [D.pyL] at e
    rw [RepL] at r
    obtain ⟨v, r', rfl, r1, r2⟩ := r
    cases h1 : D.py d with
    | none => rw [h1] at e; cases e
    | some p =>
      cases h2 : D.pyL ds with
      | none => rw [h1, h2] at e; cases e
      | some qs =>
        rw [h1, h2] at e
        cases e
        exact .cons (py_ok s r1 h1) (pyL_ok s r2 h2)
end
theorem pyS_ok (s : SimH c g S Z H) {d : D} {v : V} {p : PyData} (r : Rep c g d v) (e : d.pyS S = some p) : Dp c.K H v p := by
  cases d with
  | loc n =>
    simp only [D.pyS] at e
    split at e
    · rename_i xs hn
      obtain ⟨ps, e1, rfl⟩ := Option.map_eq_some_iff.mp e
      rw [Rep] at r
      obtain ⟨a, rfl, ha⟩ := r
      obtain ⟨_, _, _, vs, q, rs⟩ := s.cell n a _ ha hn
      exact .lst (SqL.of q) (pyL_ok s rs e1)
    · cases e
  | _ => exact py_ok s r e
end
def fEqT (x y : D) (S : Sto) : R D := match x.pyS S, y.pyS S with
  | some p, some q => if SeqAt.shaped p = true ∧ SeqAt.shaped q = true then .ok (.bl (PyData.eqv p q)) S else .bad
  | _, _ => .bad
def fNeT (x y : D) (S : Sto) : R D := match x.pyS S, y.pyS S with
  | some p, some q => if SeqAt.shaped p = true ∧ SeqAt.shaped q = true then .ok (.bl (!PyData.eqv p q)) S else .bad
  | _, _ => .bad
def fEq (x y : D) (S : Sto) : R D := match x, y with
  | .str a, .str b => .ok (.bl (decide (a = b))) S
  | .int a, .int b => .ok (.bl (decide (a = b))) S
  | .non, .non => .ok (.bl true) S
  | x, y => fEqT x y S
def fNe (x y : D) (S : Sto) : R D := match x, y with
  | .str a, .str b => .ok (.bl (!decide (a = b))) S
  | .int a, .int b => .ok (.bl (!decide (a = b))) S
  | .non, .non => .ok (.bl false) S
  | x, y => fNeT x y S

/-! ### flat things in a list -/
def D.flat : D → Bool
  | .non | .bl _ | .int _ | .str _ => true
  | _ => false
def D.v0 : D → V
  | .bl b => .bl b
  | .int i => .int i
  | .str s => .str s
  | _ => .non
def inD (x : D) (ys : List D) : Bool := ys.any fun y => eqV y.v0 x.v0
theorem Rep.flat_inv {c : RC} {g : Wd} {d : D} {v : V} (r : Rep c g d v) (h : d.flat = true) : v = d.v0 ∧ flatV v = true := by
  cases d with
  | non => rw [Rep] at r; subst r; exact ⟨rfl, rfl⟩
  | bl b => rw [Rep] at r; subst r; exact ⟨rfl, rfl⟩
  | int b => rw [Rep] at r; subst r; exact ⟨rfl, rfl⟩
  | str b => rw [Rep] at r; subst r; exact ⟨rfl, rfl⟩
  | _ => cases h
theorem RepL.flat_inv {c : RC} {g : Wd} : ∀ {ds : List D} {vs : List V}, RepL c g ds vs → ds.all D.flat = true → vs = ds.map D.v0 ∧ vs.all flatV = true
  | [], vs, r, _ => by rw [RepL] at r; subst r; exact ⟨rfl, rfl⟩
  | d :: ds, vs, r, h => by
    rw [RepL] at r
    obtain ⟨v, r', rfl, r1, r2⟩ := r
    rw [List.all_cons, Bool.and_eq_true] at h
    obtain ⟨e1, f1⟩ := r1.flat_inv h.1
    obtain ⟨e2, f2⟩ := RepL.flat_inv r2 h.2
    exact ⟨by rw [e1, e2]; rfl, by rw [List.all_cons, f1, f2]; rfl⟩
def fIn (neg : Bool) (x y : D) (S : Sto) : R D := match y with
  | .str z => (match x with
    | .str w => (match w.cps.toList with
      | [k] => .ok (.bl (if neg then !decide (k ∈ z.cps.toList) else decide (k ∈ z.cps.toList))) S
      | _ => .bad)
    | _ => .bad)
  | y => match y.sq S with
    | some ys => if x.flat = true ∧ ys.all D.flat = true then .ok (.bl (if neg then !inD x ys else inD x ys)) S else .bad
    | none => .bad

/-! ### what they are worth -/
section
variable {X : Cx} {c : RC} {k : Nat}
abbrev rAddU (K : PySem.W.Frag) : R2 := fun x y H Q => (rI0 fun i j => .int (i + j)) x y H Q ∨ (∃ i j, x = .str i ∧ y = .str j ∧ i.length + j.length ≤ sizeLine ∧ Q (.str (i ++ j)) H) ∨ rCatA K x y H Q ∨ rCatS K x y H Q
theorem or_add (cf : Cf k X c) : OpR X (binaryOp .Add) (rAddU c.K) := by
  rw [cf.kk]
  exact op_add.or (op_add_str.or (op_catA.or op_catS))
theorem od_add : OpD c (rAddU c.K) fAdd := by
  intro g Z S H x y v w Q E s rx ry q
  have other : (match x.seq S, y.seq S with
    | some xs, some ys => if xs.length + ys.length ≤ 16777216 then R.ok (D.lst (xs ++ ys)) S else .bad
    | _, _ => .bad) = fAdd x y S → rAddU c.K v w H Q := fun e => by
    rw [← e] at q
    split at q
    · rename_i xs ys h1 h2
      split at q
      · rename_i hz
        obtain ⟨a, vs, rfl, l1, r1⟩ := seq_ok s rx h1
        obtain ⟨b, ws, rfl, l2, r2⟩ := seq_ok s ry h2
        exact .inr (.inr (.inr ⟨a, b, vs, ws, rfl, rfl, l1, l2, by rw [r1.length, r2.length]; exact sz hz, fun p hp => lst_new s (r1.app r2) hp q⟩))
      · exact q.elim
    · exact q.elim
  cases x with
  | int i =>
    cases y with
    | int j => exact .inl ⟨i, j, rx.int_inv, ry.int_inv, q g _ H (.refl g) s Rep.int⟩
    | _ => exact other rfl
  | str i =>
    cases y with
    | str j =>
      simp only [fAdd] at q
      split at q
      · rename_i hz
        exact .inr (.inl ⟨i, j, rx.str_inv, ry.str_inv, sz hz, q g _ H (.refl g) s Rep.str⟩)
      · exact q.elim
    | _ => exact other rfl
  | tup xs =>
    cases y with
    | tup ys =>
      simp only [fAdd] at q
      split at q
      · rename_i hz
        obtain ⟨a, vs, rfl, l1, r1⟩ := tup_ok s rx
        obtain ⟨b, ws, rfl, l2, r2⟩ := tup_ok s ry
        refine .inr (.inr (.inl ⟨a, b, vs, ws, rfl, rfl, l1, l2, by rw [r1.length, r2.length]; exact sz hz, fun e => ?_, fun _ e => ?_, fun _ _ p hp => tup_new s (r1.app r2) hp q⟩))
        · subst e
          have e0 : xs = [] := List.eq_nil_of_length_eq_zero (by rw [← r1.length] <;> rfl)
          subst e0
          exact q g _ H (.refl g) s ry
        · subst e
          have e0 : ys = [] := List.eq_nil_of_length_eq_zero (by rw [← r2.length] <;> rfl)
          subst e0
          rw [List.append_nil] at q
          exact q g _ H (.refl g) s rx
      · exact q.elim
    | _ => exact other rfl
  | _ =>
    cases y <;> exact other rfl
theorem od_int {C : Int → Int → Prop} {gi : Int → Int → V} {f : D → D → Sto → R D} (hf : ∀ x y S, (∃ i j, x = .int i ∧ y = .int j ∧ ∃ d, f x y S = .ok d S ∧ C i j ∧ ∀ c g, Rep c g d (gi i j)) ∨ f x y S = .bad) : OpD c (rI C gi) f := by
  intro g Z S H x y v w Q E s rx ry q
  rcases hf x y S with ⟨i, j, rfl, rfl, d, e, hc, hr⟩ | e
  · rw [e] at q
    exact ⟨i, j, rx.int_inv, ry.int_inv, hc, q g _ H (.refl g) s (hr c g)⟩
  · rw [e] at q
    exact q.elim
theorem od_sub : OpD c (rI0 fun i j => .int (i - j)) fSub := by
  intro g Z S H x y v w Q E s rx ry q
  unfold fSub at q
  split at q
  · exact ⟨_, _, rx.int_inv, ry.int_inv, q g _ H (.refl g) s Rep.int⟩
  · exact q.elim
theorem od_mul : OpD c (rI CMul fun i j => .int (i * j)) fMul := by
  intro g Z S H x y v w Q E s rx ry q
  unfold fMul at q
  split at q
  · split at q
    · rename_i hc
      exact ⟨_, _, rx.int_inv, ry.int_inv, hc, q g _ H (.refl g) s Rep.int⟩
    · exact q.elim
  · exact q.elim
theorem log_small {j : Int} (h0 : 0 < j) (h : j < 2 ^ 200) : j.natAbs.log2 < 9000 := by
  have h1 : j.natAbs ≠ 0 := by omega
  have h2 : j.natAbs < 2 ^ 9000 := by
    have : (j.natAbs : Int) = j := by omega
    have h3 : (j.natAbs : Int) < 2 ^ 200 := by rw [this]; exact h
    have h4 : j.natAbs < 2 ^ 200 := by exact_mod_cast h3
    exact Nat.lt_of_lt_of_le h4 (Nat.pow_le_pow_right (by decide) (by decide))
  exact (Nat.log2_lt h1).mpr h2
theorem od_div : OpD c (rI CDivW fun i j => .int (i / j)) fDiv := by
  intro g Z S H x y v w Q E s rx ry q
  unfold fDiv at q
  split at q
  · split at q
    · rename_i hc
      exact ⟨_, _, rx.int_inv, ry.int_inv, ⟨hc.1, log_small hc.1 hc.2⟩, q g _ H (.refl g) s Rep.int⟩
    · exact q.elim
  · exact q.elim
theorem od_mod : OpD c (rI (fun _ j => 0 < j) fun i j => .int (i % j)) fMod := by
  intro g Z S H x y v w Q E s rx ry q
  unfold fMod at q
  split at q
  · split at q
    · rename_i hc
      exact ⟨_, _, rx.int_inv, ry.int_inv, hc, q g _ H (.refl g) s Rep.int⟩
    · exact q.elim
  · exact q.elim
theorem od_pow : OpD c (rI CPow fun i j => .int (i ^ j.toNat)) fPow := by
  intro g Z S H x y v w Q E s rx ry q
  unfold fPow at q
  split at q
  · split at q
    · rename_i hc
      exact ⟨_, _, rx.int_inv, ry.int_inv, hc, q g _ H (.refl g) s Rep.int⟩
    · exact q.elim
  · exact q.elim
theorem ud_neg : UnD c (rU fun i => .int (-i)) fNeg := by
  intro g Z S H x v Q E s rx q
  unfold fNeg at q
  split at q
  · exact ⟨_, rx.int_inv, q g _ H (.refl g) s Rep.int⟩
  · exact q.elim
theorem od_lt : OpD c (rI0 fun i j => .bl (decide (i < j))) fLt := by
  intro g Z S H x y v w Q E s rx ry q
  unfold fLt at q
  split at q
  · exact ⟨_, _, rx.int_inv, ry.int_inv, q g _ H (.refl g) s Rep.bl⟩
  · exact q.elim
theorem od_gt : OpD c (rI0 fun i j => .bl (decide (j < i))) fGt := by
  intro g Z S H x y v w Q E s rx ry q
  unfold fGt at q
  split at q
  · exact ⟨_, _, rx.int_inv, ry.int_inv, q g _ H (.refl g) s Rep.bl⟩
  · exact q.elim
theorem od_ge : OpD c (rI0 fun i j => .bl (decide (j ≤ i))) fGe := by
  intro g Z S H x y v w Q E s rx ry q
  unfold fGe at q
  split at q
  · exact ⟨_, _, rx.int_inv, ry.int_inv, q g _ H (.refl g) s Rep.bl⟩
  · exact q.elim
abbrev rLeU : R2 := fun x y H Q => (rI0 fun i j => .bl (decide (i ≤ j))) x y H Q ∨ (∃ i j, x = .str i ∧ y = .str j ∧ Q (.bl (!decide (j.cps.toList < i.cps.toList))) H)
theorem or_le : OpR X (compareOp .LtE) rLeU := op_le.or op_le_str
theorem od_le : OpD c rLeU fLe := by
  intro g Z S H x y v w Q E s rx ry q
  unfold fLe at q
  split at q
  · exact .inl ⟨_, _, rx.int_inv, ry.int_inv, q g _ H (.refl g) s Rep.bl⟩
  · exact .inr ⟨_, _, rx.str_inv, ry.str_inv, q g _ H (.refl g) s Rep.bl⟩
  · exact q.elim
theorem isN_ok {g : Wd} {d : D} {v : V} {b : Bool} (r : Rep c g d v) (e : d.isN = some b) : decide (v = .non) = b := by
  cases d with
  | non => cases e; rw [r.non_inv]; rfl
  | bl b => cases e; rw [r.bl_inv]; rfl
  | int b => cases e; rw [r.int_inv]; rfl
  | str b => cases e; rw [r.str_inv]; rfl
  | glb b => cases e
  | lst xs => cases e; rw [Rep] at r; obtain ⟨a, vs, rfl, _⟩ := r; rfl
  | tup xs => cases e; rw [Rep] at r; obtain ⟨a, vs, rfl, _⟩ := r; rfl
  | dic ks xs => cases e; rw [Rep] at r; obtain ⟨a, vs, rfl, _⟩ := r; rfl
  | ins j xs => cases e; rw [Rep] at r; obtain ⟨a, dx, fs, vs, rfl, _⟩ := r; rfl
  | exv j xs => cases e; rw [Rep] at r; obtain ⟨a, vs, rfl, _⟩ := r; rfl
  | loc n => cases e; rw [Rep] at r; obtain ⟨a, rfl, _⟩ := r; rfl
def fIsN2 (x y : D) (S : Sto) : R D := match y with
  | .non => fIsN x S
  | _ => .bad
def fNotN2 (x y : D) (S : Sto) : R D := match y with
  | .non => fNotN x S
  | _ => .bad
theorem od_isN : OpD c (fun x y H Q => y = .non ∧ Q (.bl (decide (x = .non))) H) fIsN2 := by
  intro g Z S H x y v w Q E s rx ry q
  unfold fIsN2 at q
  split at q
  · unfold fIsN at q
    split at q
    · rename_i b hb
      exact ⟨ry.non_inv, by rw [isN_ok rx hb]; exact q g _ H (.refl g) s Rep.bl⟩
    · exact q.elim
  · exact q.elim
theorem od_notN : OpD c (fun x y H Q => y = .non ∧ Q (.bl (!decide (x = .non))) H) fNotN2 := by
  intro g Z S H x y v w Q E s rx ry q
  unfold fNotN2 at q
  split at q
  · unfold fNotN at q
    split at q
    · rename_i b hb
      exact ⟨ry.non_inv, by rw [isN_ok rx hb]; exact q g _ H (.refl g) s Rep.bl⟩
    · exact q.elim
  · exact q.elim
abbrev rEqU (K : PySem.W.Frag) : R2 := fun x y H Q => rEqD K x y H Q ∨ rEq x y H Q
abbrev rNeU (K : PySem.W.Frag) : R2 := fun x y H Q => rNeD K x y H Q ∨ rNe x y H Q
theorem or_eq (cf : Cf k X c) : OpR X (compareOp .Eq) (rEqU c.K) := by rw [cf.kk]; exact (op_eqD cf.hr.units).or op_eq
theorem or_ne (cf : Cf k X c) : OpR X (compareOp .NotEq) (rNeU c.K) := by rw [cf.kk]; exact (op_neD cf.hr.units).or op_ne
theorem od_eqT : OpD c (rEqD c.K) fEqT := by
  intro g Z S H x y v w Q E s rx ry q
  unfold fEqT at q
  split at q
  · rename_i a b h1 h2
    split at q
    · rename_i hs
      exact ⟨a, b, pyS_ok s rx h1, pyS_ok s ry h2, hs.1, hs.2, q g _ H (.refl g) s Rep.bl⟩
    · exact q.elim
  · exact q.elim
theorem od_neT : OpD c (rNeD c.K) fNeT := by
  intro g Z S H x y v w Q E s rx ry q
  unfold fNeT at q
  split at q
  · rename_i a b h1 h2
    split at q
    · rename_i hs
      exact ⟨a, b, pyS_ok s rx h1, pyS_ok s ry h2, hs.1, hs.2, q g _ H (.refl g) s Rep.bl⟩
    · exact q.elim
  · exact q.elim
theorem od_eq : OpD c (rEqU c.K) fEq := by
  intro g Z S H x y v w Q E s rx ry q
  unfold fEq at q
  split at q
  · rename_i a b
    rw [rx.str_inv, ry.str_inv]
    have e : decide (V.str a = V.str b) = decide (a = b) := by by_cases h : a = b <;> simp [h]
    exact .inr ⟨rfl, by rw [e]; exact q g _ H (.refl g) s Rep.bl⟩
  · rename_i a b
    rw [rx.int_inv, ry.int_inv]
    have e : decide (V.int a = V.int b) = decide (a = b) := by by_cases h : a = b <;> simp [h]
    exact .inr ⟨rfl, by rw [e]; exact q g _ H (.refl g) s Rep.bl⟩
  · rw [rx.non_inv, ry.non_inv]
    exact .inr ⟨rfl, q g _ H (.refl g) s Rep.bl⟩
  · exact .inl (od_eqT g Z S H _ _ v w Q E s rx ry q)
theorem od_ne : OpD c (rNeU c.K) fNe := by
  intro g Z S H x y v w Q E s rx ry q
  unfold fNe at q
  split at q
  · rename_i a b
    rw [rx.str_inv, ry.str_inv]
    have e : decide (V.str a = V.str b) = decide (a = b) := by by_cases h : a = b <;> simp [h]
    exact .inr ⟨rfl, by rw [e]; exact q g _ H (.refl g) s Rep.bl⟩
  · rename_i a b
    rw [rx.int_inv, ry.int_inv]
    have e : decide (V.int a = V.int b) = decide (a = b) := by by_cases h : a = b <;> simp [h]
    exact .inr ⟨rfl, by rw [e]; exact q g _ H (.refl g) s Rep.bl⟩
  · rw [rx.non_inv, ry.non_inv]
    exact .inr ⟨rfl, q g _ H (.refl g) s Rep.bl⟩
  · exact .inl (od_neT g Z S H _ _ v w Q E s rx ry q)
abbrev rInU (K : PySem.W.Frag) (neg : Bool) : R2 := fun x y H Q => rIn K neg x y H Q ∨ (∃ (k : Nat) (z : Str), x = .str ⟨#[k]⟩ ∧ y = .str z ∧ Q (.bl (if neg then !decide (k ∈ z.cps.toList) else decide (k ∈ z.cps.toList))) H)
theorem or_in (cf : Cf k X c) : OpR X (compareOp .In) (rInU c.K false) := by
  rw [cf.kk]
  exact op_in_seq.or op_in_sign
theorem or_notIn (cf : Cf k X c) : OpR X (compareOp .NotIn) (rInU c.K true) := by
  rw [cf.kk]
  exact op_notIn_seq.or op_notIn_sign
theorem od_in (neg : Bool) : OpD c (rInU c.K neg) (fIn neg) := by
  intro g Z S H x y v w Q E s rx ry q
  have other : (match y.sq S with
    | some ys => if x.flat = true ∧ ys.all D.flat = true then R.ok (D.bl (if neg then !inD x ys else inD x ys)) S else .bad
    | none => .bad) = fIn neg x y S → rInU c.K neg v w H Q := fun e => by
    rw [← e] at q
    split at q
    · rename_i ys h1
      split at q
      · rename_i hf
        obtain ⟨a, vs, rfl, l1, r1⟩ := sq_ok s ry h1
        obtain ⟨e1, f1⟩ := rx.flat_inv hf.1
        obtain ⟨e2, f2⟩ := r1.flat_inv hf.2
        refine .inl ⟨a, vs, rfl, l1, f1, f2, ?_⟩
        have e3 : inV v vs = inD x ys := by
          rw [e1, e2]
          unfold inV inD
          rw [List.any_map]
          rfl
        rw [e3]
        exact q g _ H (.refl g) s Rep.bl
      · exact q.elim
    · exact q.elim
  cases y with
  | str z =>
    simp only [fIn] at q
    split at q
    · rename_i w'
      split at q
      · rename_i k hk
        refine .inr ⟨k, z, ?_, ry.str_inv, q g _ H (.refl g) s Rep.bl⟩
        rw [rx.str_inv]
        have : w' = ⟨#[k]⟩ := by
          cases w' with
          | mk cps =>
            congr
            exact Array.toList_inj.mp hk
        rw [this]
      · exact q.elim
    · exact q.elim
  | _ => exact other rfl

/-! subscripts -/
theorem map_atI {α β : Type} {xs : List α} {ys : List β} (h : ys.length = xs.length) {i : Int} {x : α} (e : atI xs i = some x) : ∃ j : Nat, xs[j]? = some x ∧ ∀ y, ys[j]? = some y → atI ys i = some y := by
  unfold atI at e ⊢
  obtain ⟨j, e1, e2⟩ := Option.bind_eq_some_iff.mp e
  exact ⟨j, e2, fun y hy => Option.bind_eq_some_iff.mpr ⟨j, by rw [h]; exact e1, hy⟩⟩
theorem ix_or (cf : Cf k X c) : IxR X (rIx c.K) := by rw [cf.kk]; exact ix_seq
theorem od_ix : OpD c (rIx c.K) fIx := by
  intro g Z S H x y v w Q E s rx ry q
  unfold fIx at q
  split at q
  · rename_i i
    split at q
    · rename_i z
      split at q
      · rename_i hz
        split at q
        · rename_i n hn
          exact .inr (.inr ⟨z, i, n, rx.str_inv, ry.int_inv, sz hz, hn, q g _ H (.refl g) s Rep.str⟩)
        · exact q.elim
      · exact q.elim
    · split at q
      · rename_i xs hx
        split at q
        · rename_i d hd
          obtain ⟨a, vs, rfl, l1, r1⟩ := sq_ok s rx hx
          obtain ⟨j, e1, e2⟩ := map_atI r1.length hd
          obtain ⟨u, h1, h2⟩ := r1.get e1
          have q' := q g _ H (.refl g) s h2
          rcases l1 with l1 | l1
          · exact .inl ⟨a, vs, i, u, rfl, ry.int_inv, l1, e2 u h1, q'⟩
          · exact .inr (.inl ⟨a, vs, i, u, rfl, ry.int_inv, l1, e2 u h1, q'⟩)
        · exact q.elim
      · exact q.elim
  · exact q.elim
theorem ce_ix {W : WX} {a b : Expr} {ma mb : ME} {pos : Pos} (cf : Cf k X c) (ha : CE X c W a ma) (hb : CE X c W b mb) (hs : PlainIx b := by exact fun _ _ => rfl) : CE X c W (.Subscript a b pos) (mBin fIx ma mb) :=
  weakE (pe_ix (ix_or cf) ha hb hs) fun _ _ _ h => op2 od_ix h
theorem cut_rep {g : Wd} {ds : List D} {vs : List V} (r : RepL c g ds vs) (lo hi : Option Int) : RepL c g (cutD ds lo hi) (cutV vs lo hi) := by
  unfold cutD cutV
  rw [r.length]
  exact (r.drop _).take _
def oM (c : RC) (W : WX) (m : Option ME) : L2.TO := fun σ H Q => ∃ g Z δ S, SimH c g S Z H ∧ Slots c g δ σ ∧ Post c (fun _ a b => a = b) g Z (mPart m δ S) Q (fun k d H' => W k d σ H')
theorem co_none {W : WX} : PO X none (oM c W none) := ⟨fun pins s σ H Q I ⟨g, Z, δ, S, s', sl, q⟩ => po_none.run pins s σ H Q I (q g _ H (.refl g) s' rfl)⟩
theorem co_some {W : WX} {e : Expr} {m : ME} (h : CE X c W e m) : PO X (some e) (oM c W (some m)) := ⟨fun pins s σ H Q I ⟨g, Z, δ, S, s', sl, q⟩ => (po_some h).run pins s σ H Q I ⟨g, Z, δ, S, s', sl, Post.bind q fun x S1 g1 v H1 _ le1 s1 r1 q1 => by
  cases x with
  | int i => exact ⟨i, r1.int_inv, q1 g1 _ H1 (.refl g1) s1 rfl⟩
  | _ => exact q1.elim⟩⟩
abbrev rSlU (K : PySem.W.Frag) : V → Option Int → Option Int → Hp → VK → Prop := fun x lo hi H Q => rSlL K x lo hi H Q ∨ rSlA K x lo hi H Q
theorem cutV_whole {xs : List V} {lo hi : Option Int} (h : HT.sIx xs.length 0 lo = 0 ∧ HT.sIx xs.length xs.length hi = xs.length) : cutV xs lo hi = xs := by
  unfold cutV
  rw [h.1, h.2]
  simp
theorem ce_slice {W : WX} {a : Expr} {lo hi : Option Expr} {ma : ME} {ml mh : Option ME} {pos p2 : Pos} (cf : Cf k X c) (ha : CE X c W a ma) (hl : PO X lo (oM c W ml)) (hh : PO X hi (oM c W mh)) : CE X c W (.Subscript a (.Slice lo hi none p2) pos) (mSlice ma ml mh) :=
  weakE (pe_slice (r := rSlU c.K) (by rw [cf.kk]; exact sl_list.or sl_tupA) ha hl hh) fun σ H Q ⟨g, Z, δ, S, s, sl, q⟩ => ⟨g, Z, δ, S, s, sl, Post.bind q fun x S1 g1 v H1 _ le1 s1 r1 q1 => ⟨g1, Z, δ, S1, s1, sl.up le1, Post.bind q1 fun l S2 g2 l' H2 _ le2 s2 e2 q2 =>
    ⟨g2, Z, δ, S2, s2, (sl.up le1).up le2, Post.bind q2 fun h S3 g3 h' H3 _ le3 s3 e3 q3 => by
      subst e2
      subst e3
      have rx := Rep.up le3 (Rep.up le2 r1)
      have other : (match x.seq S3 with
        | some xs => R.ok (D.lst (cutD xs l h)) S3
        | none => .bad) = fCut x l h S3 → rSlU c.K v l h H3 Q := fun e => by
        rw [← e] at q3
        split at q3
        · rename_i xs hx
          obtain ⟨a, vs, rfl, l1, r2⟩ := seq_ok s3 rx hx
          exact .inl ⟨a, vs, rfl, l1, fun p hp => lst_new s3 (cut_rep r2 l h) hp q3⟩
        · exact q3.elim
      cases x with
      | tup xs =>
        obtain ⟨a, vs, rfl, l1, r2⟩ := tup_ok s3 rx
        refine .inr ⟨a, vs, rfl, l1, fun hw => ?_, fun _ p hp => tup_new s3 (cut_rep r2 l h) hp q3⟩
        refine q3 g3 _ H3 (.refl g3) s3 ?_
        have e4 : cutD xs l h = xs := by
          unfold cutD
          rw [← r2.length, hw.1, hw.2]
          rw [r2.length]
          simp
        rw [e4]
        exact rx
      | _ => exact other rfl⟩⟩⟩
end

/-! ### built-ins -/
section
variable {X : Cx} {c : RC} {k : Nat}
theorem vals_one {g : Wd} {d : D} {vs : List V} (r : RepL c g [d] vs) : ∃ v, vs = [v] ∧ Rep c g d v := by
  obtain ⟨v, r', rfl, r1, r2⟩ := r.cons_inv
  rw [r2.nil_inv]
  exact ⟨v, rfl, r1⟩
theorem vals_two {g : Wd} {d e : D} {vs : List V} (r : RepL c g [d, e] vs) : ∃ v w, vs = [v, w] ∧ Rep c g d v ∧ Rep c g e w := by
  obtain ⟨v, r', rfl, r1, r2⟩ := r.cons_inv
  obtain ⟨w, rfl, r3⟩ := vals_one r2
  exact ⟨v, w, rfl, r1, r3⟩
abbrev rLenU (K : PySem.W.Frag) : List V → Hp → VK → Prop := fun xs H Q => (∃ x n, xs = [x] ∧ LenV K x H n ∧ Q (.int n) H) ∨ (∃ a kvs, xs = [V.ref a] ∧ Rd H a (.dK kvs) ∧ Q (.int kvs.length) H)
theorem cl_abs : ClD c (fun xs H Q => ∃ i, xs = [.int i] ∧ Q (.int (if i < 0 then -i else i)) H) fAbs := by
  intro g Z S H xs vs Q E s r q
  unfold fAbs at q
  split at q
  · obtain ⟨v, rfl, r1⟩ := vals_one r
    rw [r1.int_inv]
    exact ⟨_, rfl, q g _ H (.refl g) s Rep.int⟩
  · exact q.elim
theorem cl_int : ClD c (fun xs H Q => (∃ i, xs = [.int i] ∧ Q (.int i) H) ∨ ∃ k, xs = [.bl k] ∧ Q (.int (if k then 1 else 0)) H) fInt := by
  intro g Z S H xs vs Q E s r q
  unfold fInt at q
  split at q
  · obtain ⟨v, rfl, r1⟩ := vals_one r
    rw [r1.int_inv]
    exact .inl ⟨_, rfl, q g _ H (.refl g) s Rep.int⟩
  · obtain ⟨v, rfl, r1⟩ := vals_one r
    rw [r1.bl_inv]
    exact .inr ⟨_, rfl, q g _ H (.refl g) s Rep.int⟩
  · exact q.elim
theorem cl_max : ClD c (fun xs H Q => ∃ i j, xs = [.int i, .int j] ∧ Q (.int (if j > i then j else i)) H) fMax := by
  intro g Z S H xs vs Q E s r q
  unfold fMax at q
  split at q
  · obtain ⟨v, w, rfl, r1, r2⟩ := vals_two r
    rw [r1.int_inv, r2.int_inv]
    exact ⟨_, _, rfl, q g _ H (.refl g) s Rep.int⟩
  · exact q.elim
theorem cl_min : ClD c (fun xs H Q => ∃ i j, xs = [.int i, .int j] ∧ Q (.int (if j < i then j else i)) H) fMin := by
  intro g Z S H xs vs Q E s r q
  unfold fMin at q
  split at q
  · obtain ⟨v, w, rfl, r1, r2⟩ := vals_two r
    rw [r1.int_inv, r2.int_inv]
    exact ⟨_, _, rfl, q g _ H (.refl g) s Rep.int⟩
  · exact q.elim
def fLenS (xs : List D) (S : Sto) : R D := match xs with
  | [.str z] => if z.length ≤ 16777216 then .ok (.int z.length) S else .bad
  | [x] => (match x.sq S with
    | some ys => .ok (.int ys.length) S
    | none => .bad)
  | _ => .bad
abbrev rLenV (K : PySem.W.Frag) : List V → Hp → VK → Prop := fun xs H Q => (∃ p ys, xs = [.ref p] ∧ (SqL K H p ys ∨ SqT K H p ys) ∧ Q (.int ys.length) H) ∨ ∃ z, xs = [.str z] ∧ z.length ≤ sizeLine ∧ Q (.int z.length) H
theorem cr_len (cf : Cf k X c) : CallR X (.builtin "len") (rLenV c.K) := by
  rw [cf.kk]
  exact CallR.or call_len_seq call_len_str
theorem cl_len : ClD c (rLenV c.K) fLenS := by
  intro g Z S H xs vs Q E s r q
  unfold fLenS at q
  split at q
  · split at q
    · rename_i z hz
      obtain ⟨v, rfl, r1⟩ := vals_one r
      rw [r1.str_inv]
      exact .inr ⟨_, rfl, sz hz, q g _ H (.refl g) s Rep.int⟩
    · exact q.elim
  · rename_i x _
    split at q
    · rename_i ys hy
      obtain ⟨v, rfl, r1⟩ := vals_one r
      obtain ⟨a, us, rfl, l1, r2⟩ := sq_ok s r1 hy
      refine .inl ⟨a, us, rfl, l1, ?_⟩
      rw [r2.length]
      exact q g _ H (.refl g) s Rep.int
    · exact q.elim
  · exact q.elim
end
end DL

end
section
/-! DL, part d: statements, targets, loops, comprehensions. -/
namespace DL
open PySem PySem.Spec PyProof.Rows L2

/-! ### mirrors -/
def sNx : MS := fun δ S => .nx δ S
def sSeq (a b : MS) : MS := fun δ S => match a δ S with
  | .nx δ1 S1 => b δ1 S1
  | r => r
def sSet (i : Nat) (m : ME) : MS := fun δ S => (m δ S).flow δ fun d S1 => .nx (δ.set i (some d)) S1
def sRet (m : ME) : MS := fun δ S => (m δ S).flow δ fun d S1 => .ret d S1
def sIf (t : MT) (a b : MS) : MS := fun δ S => (t δ S).flow δ fun k S1 => if k = true then a δ S1 else b δ S1
def sDrop (m : ME) : MS := fun δ S => (m δ S).flow δ fun _ S1 => .nx δ S1
def sPar (i j : Nat) (m : MA) : MS := fun δ S => (m δ S).flow δ fun xs S1 => match xs with
  | [a, b] => .nx ((δ.set i (some a)).set j (some b)) S1
  | _ => .bad
/-- targets -/
structure MG where
  f : D → Sl → Option Sl
  ts : List Nat
def gN (i : Nat) : MG := ⟨fun d δ => some (δ.set i (some d)), [i]⟩
def gTs : List MG → List D → Sl → Option Sl
  | [], [], δ => some δ
  | g :: gs, d :: ds, δ => (g.f d δ).bind fun δ1 => gTs gs ds δ1
  | _, _, _ => none
def gT (gs : List MG) : MG := ⟨fun d δ => match d with
  | .tup ds => gTs gs ds δ
  | _ => none, gs.flatMap (·.ts)⟩
def sAsg (m : ME) (gm : MG) : MS := fun δ S => (m δ S).flow δ fun d S1 => match gm.f d δ with
  | some δ1 => .nx δ1 S1
  | none => .bad
/-- xs[i] = v -/
def sSub (mv mo mi : ME) : MS := fun δ S => (mv δ S).flow δ fun v S1 => (mo δ S1).flow δ fun o S2 => (mi δ S2).flow δ fun i S3 => match o, i with
  | .loc n, .int j => (match S3[n]? with
    | some (.lst xs) => (match ixN xs.length j with
      | some p => if v.clean = true then .nx δ (S3.set n (.lst (xs.set p v))) else .bad
      | none => .bad)
    | _ => .bad)
  | _, _ => .bad
/-- xs.append(v) -/
def mMeth1 (chk : D → Sto → Bool) (f : D → D → Sto → R D) (mo me : ME) : ME := fun δ S => (mo δ S).bind fun x S1 => if chk x S1 = true then (me δ S1).bind fun y S2 => f x y S2 else .bad
def isSq (d : D) (S : Sto) : Bool := (d.seq S).isSome
def fApp (o v : D) (S : Sto) : R D := match o with
  | .loc n => (match S[n]? with
    | some (.lst xs) => if xs.length < 16777216 ∧ v.clean = true then .ok .non (S.set n (.lst (xs ++ [v]))) else .bad
    | _ => .bad)
  | _ => .bad
def forGo (gm : MG) (body : MS) : List D → Sl → Sto → F
  | [], δ, S => .nx δ S
  | d :: r, δ, S => match gm.f d δ with
    | none => .bad
    | some δ1 => match body δ1 S with
      | .nx δ2 S2 => forGo gm body r δ2 S2
      | .cnt δ2 S2 => forGo gm body r δ2 S2
      | .brk δ2 S2 => .nx δ2 S2
      | x => x
def sFor (mi : MA) (gm : MG) (body : MS) : MS := fun δ S => (mi δ S).flow δ fun ds S1 => forGo gm body ds δ S1
def noX {α : Type} : R α → R α
  | .exc _ _ _ => .bad
  | r => r
def wipeD (δ : Sl) : List Nat → Sl
  | [] => δ
  | v :: vs => (wipeD δ vs).set v none
def lcGo (gm : MG) (t : MT) (e : ME) (δ : Sl) : List D → List D → Sto → R (List D)
  | [], acc, S => .ok acc S
  | d :: r, acc, S => match gm.f d δ with
    | none => .bad
    | some δ1 => (t δ1 S).bind fun k S1 => if k = true then (e δ1 S1).bind fun y S2 => lcGo gm t e δ r (acc ++ [y]) S2 else lcGo gm t e δ r acc S1
def mLc (mi : MA) (gm : MG) (vs : List Nat) (t : MT) (e : ME) (fin : List D → Sto → R D) : ME := fun δ S => (mi δ S).bind fun ds S1 => if ds.length ≤ 16777216 then (noX (lcGo gm t e (wipeD δ vs) ds [] S1)).bind fin else .bad
def tOk : MT := fun _ S => .ok true S
/-- what a for walks -/
def mSeqI (m : ME) : MA := fun δ S => (m δ S).bind fun d S1 => match d with
  | .lst xs => .ok xs S1
  | _ => .bad
def mTupI (m : ME) : MA := fun δ S => (m δ S).bind fun d S1 => match d with
  | .tup xs => .ok xs S1
  | _ => .bad
def mStrI (m : ME) : MA := fun δ S => (m δ S).bind fun d S1 => match d with
  | .str z => .ok (z.cps.toList.map fun k => .str ⟨#[k]⟩) S1
  | _ => .bad
def fits62 (n : Int) : Bool := decide (-4611686018427387904 ≤ n) && decide (n < 4611686018427387904)
theorem fits62_ok {n : Int} (h : fits62 n = true) : -(2 ^ 62) ≤ n ∧ n < 2 ^ 62 := by
  have p62 : (2 : Int) ^ 62 = 4611686018427387904 := by decide +kernel
  rw [p62]
  unfold fits62 at h
  rw [Bool.and_eq_true] at h
  exact ⟨of_decide_eq_true h.1, of_decide_eq_true h.2⟩
theorem fits62_nat {n : Nat} (h : n < 1000000) : fits62 (n : Int) = true := by
  unfold fits62
  rw [decide_eq_true (by omega), decide_eq_true (by omega)]
  rfl
def mRgI (m : MA) : MA := fun δ S => (m δ S).bind fun ds S1 => match ds with
  | [.int n] => if fits62 n = true then .ok ((List.range n.toNat).map fun (i : Nat) => D.int (i : Int)) S1 else .bad
  | _ => .bad
def mEnI (m : ME) : MA := fun δ S => (m δ S).bind fun d S1 => match d with
  | .lst xs => .ok (xs.mapIdx fun i x => .tup [.int (i : Int), x]) S1
  | _ => .bad

/-! ### statements -/
section
variable {X : Cx} {c : RC} {W : WX} {pos : Pos} {k : Nat}
theorem weakF {g g' : Wd} {Z : Hp} {r : F} {Dn : Ends} {nx' : L2.St → Hp → Prop} (h : PostF c g Z r { Dn with nx := nx' } W) (k : ∀ σ H, nx' σ H → Dn.nx σ H) : PostF c g Z r Dn W := by
  cases r with
  | nx δ S => exact fun g1 σ H le s sl => k σ H (h g1 σ H le s sl)
  | _ => exact h
theorem cs_nil : CSs X c W [] sNx := weakSs pss_nil fun Dn σ H ⟨g, Z, δ, S, s, sl, q⟩ => q g σ H (.refl g) s sl
theorem cs_pass : CS X c W (.Pass pos) sNx := weakS ps_pass fun Dn σ H ⟨g, Z, δ, S, s, sl, q⟩ => q g σ H (.refl g) s sl
theorem seq_post {g : Wd} {Z : Hp} {a b : MS} {δ : Sl} {S : Sto} {Dn : Ends} (q : PostF c g Z (sSeq a b δ S) Dn W) : PostF c g Z (a δ S) { Dn with nx := sM c W b Dn } W := by
  unfold sSeq at q
  cases e : a δ S with
  | nx δ1 S1 =>
    rw [e] at q
    exact fun g1 σ H le s sl => ⟨g1, Z, δ1, S1, s, sl, PostF.up le q⟩
  | _ =>
    rw [e] at q
    exact q
theorem cs_cons {st : Stmt} {rest : List Stmt} {a b : MS} (h1 : CS X c W st a) (h2 : CSs X c W rest b) : CSs X c W (st :: rest) (sSeq a b) :=
  weakSs (pss_cons h1 h2) fun Dn σ H ⟨g, Z, δ, S, s, sl, q⟩ => ⟨g, Z, δ, S, s, sl, seq_post q⟩
theorem cs_one {st : Stmt} {a : MS} (h1 : CS X c W st a) : CSs X c W [st] a := pss_one h1
theorem cs_set {i : Nat} {x : Str} {e : Expr} {m : ME} {pos' : Pos} (hN : X.N.Nodup) (he : CE X c W e m) (hi : X.N[i]? = some x := by rfl) (hx : L2.Loc X.env.scope x := by first | exact Or.inl rfl | exact Or.inr rfl)
    (hs : swapsWith e (some (.Name x pos')) pos.line X.env = pure false := by rfl) (hf : X.fn x = true ∨ X.env.scope.names.lookup x = some .local := by first | exact .inl rfl | exact .inr rfl) : CS X c W (.Assign [.Name x pos'] e pos) (sSet i m) :=
  weakS (ps_set hN hi hx he hs hf) fun Dn σ H ⟨g, Z, δ, S, s, sl, q⟩ => ⟨g, Z, δ, S, s, sl, Post.flow sl q fun d S1 g1 v H1 le1 s1 r1 q1 => q1 g1 _ H1 (.refl g1) s1 ((sl.up le1).set i r1)⟩
theorem cs_ret {e : Expr} {m : ME} (he : CE X c W e m) : CS X c W (.Return (some e) pos) (sRet m) :=
  weakS (ps_ret he) fun Dn σ H ⟨g, Z, δ, S, s, sl, q⟩ => ⟨g, Z, δ, S, s, sl, Post.flow sl q fun d S1 g1 v H1 le1 s1 r1 q1 => q1 g1 _ H1 (.refl g1) s1 r1⟩
theorem cs_if {t : Expr} {a b : List Stmt} {mt : MT} {ma mb : MS} (ht : CT X c W t mt) (ha : CSs X c W a ma) (hb : CSs X c W b mb) : CS X c W (.If t a b pos) (sIf mt ma mb) :=
  weakS (ps_if ht ha hb) fun Dn σ H ⟨g, Z, δ, S, s, sl, q⟩ => ⟨g, Z, δ, S, s, sl, Post.flow sl q fun x S1 g1 v H1 le1 s1 r1 q1 => by
    subst r1
    cases x with
    | true => exact ⟨g1, Z, δ, S1, s1, sl.up le1, q1⟩
    | false => exact ⟨g1, Z, δ, S1, s1, sl.up le1, q1⟩⟩
theorem cs_expr {e : Expr} {m : ME} (he : CE X c W e m) (hs : swapsWith e none pos.line X.env = pure false := by rfl) : CS X c W (.Expr e pos) (sDrop m) :=
  weakS (ps_expr he hs) fun Dn σ H ⟨g, Z, δ, S, s, sl, q⟩ => ⟨g, Z, δ, S, s, sl, Post.flow sl q fun x S1 g1 v H1 le1 s1 r1 q1 => q1 g1 _ H1 (.refl g1) s1 (sl.up le1)⟩
theorem cs_par {i j : Nat} {x y : Str} {a b : Expr} {m : MA} {px py pt : Pos} {kt k2 pt2} (cf : Cf k X c) (hN : X.N.Nodup) (ha : CA X c W [a, b] m) (hi : X.N[i]? = some x := by rfl) (hj : X.N[j]? = some y := by rfl) (hij : i ≠ j := by decide)
    (h1 : X.env.scope.names.lookup x = some .local := by rfl) (h2 : X.env.scope.names.lookup y = some .local := by rfl) (hw : swappedStores [.Tuple [.Name x px, .Name y py] kt pt] (.Tuple [a, b] k2 pt2) X.env = pure (some [x, y]) := by rfl)
    (hs : swapsWithSole [.Tuple [.Name x px, .Name y py] kt pt] (.Tuple [a, b] k2 pt2) pos.line X.env = pure false := by rfl) :
    CS X c W (.Assign [.Tuple [.Name x px, .Name y py] kt pt] (.Tuple [a, b] k2 pt2) pos) (sPar i j m) :=
  weakS (ps_par cf.calm hN hi hj hij h1 h2 ha hw hs) fun Dn σ H ⟨g, Z, δ, S, s, sl, q⟩ => ⟨g, Z, δ, S, s, sl, Post.flow sl q fun xs S1 g1 vs H1 le1 s1 r1 q1 => by
    split at q1
    · rename_i u w
      obtain ⟨v1, v2, rfl, ra, rb⟩ := vals_two r1
      exact ⟨v1, v2, rfl, q1 g1 _ H1 (.refl g1) s1 (((sl.up le1).set i ra).set j rb)⟩
    · exact q1.elim⟩

/-! ### targets -/
def Off (ts : List Nat) (σ σ' : L2.St) : Prop := σ'.length = σ.length ∧ ∀ i, i ∉ ts → σ'[i]? = σ[i]?
theorem Off.refl {ts : List Nat} (σ : L2.St) : Off ts σ σ := ⟨rfl, fun _ _ => rfl⟩
theorem Off.trans {ts us : List Nat} {σ σ1 σ2 : L2.St} (a : Off ts σ σ1) (b : Off us σ1 σ2) : Off (ts ++ us) σ σ2 := ⟨b.1.trans a.1, fun i h => by
  rw [List.mem_append] at h
  exact (b.2 i fun q => h (.inr q)).trans (a.2 i fun q => h (.inl q))⟩
theorem Off.set {σ : L2.St} (i : Nat) (v : Option V) : Off [i] σ (σ.set i v) := ⟨by simp, fun j h => by
  rw [List.mem_singleton] at h
  exact List.getElem?_set_ne (Ne.symm h)⟩
def gM (c : RC) (gm : MG) : TG := fun v σ H Q => ∃ g Z δ S d, SimH c g S Z H ∧ Slots c g δ σ ∧ Rep c g d v ∧ ∃ δ', gm.f d δ = some δ' ∧ ∀ σ', Slots c g δ' σ' → Off gm.ts σ σ' → Q σ' H
def gMs (c : RC) (gs : List MG) : TGs := fun vs σ H Q => ∃ g Z δ S ds, SimH c g S Z H ∧ Slots c g δ σ ∧ RepL c g ds vs ∧ ∃ δ', gTs gs ds δ = some δ' ∧ ∀ σ', Slots c g δ' σ' → Off (gs.flatMap (·.ts)) σ σ' → Q σ' H
abbrev CG (X : Cx) (c : RC) (t : Expr) (gm : MG) : Prop := PG X t (gM c gm)
theorem weakG {t : Expr} {g g' : TG} (h : PG X t g) (k : ∀ v σ H Q, g' v σ H Q → g v σ H Q) : PG X t g' := ⟨fun pins s σ H v u Q I r q => h.run pins s σ H v u Q I r (k _ _ _ _ q)⟩
theorem weakGs {t : List Expr} {g g' : TGs} (h : PGs X t g) (k : ∀ v σ H Q, g' v σ H Q → g v σ H Q) : PGs X t g' := ⟨fun pins s σ H v u Q I r q => h.run pins s σ H v u Q I r (k _ _ _ _ q)⟩
theorem cg_name {i : Nat} {x : Str} (hN : X.N.Nodup) (hi : X.N[i]? = some x := by rfl) (hx : L2.Loc X.env.scope x := by first | exact Or.inl rfl | exact Or.inr rfl)
    (hf : X.fn x = true ∨ X.env.scope.names.lookup x = some .local := by first | exact .inl rfl | exact .inr rfl) : CG X c (.Name x pos) (gN i) :=
  weakG (pg_name hN hi hx hf) fun v σ H Q ⟨g, Z, δ, S, d, s, sl, r, δ', e, q⟩ => by
    cases e
    exact q _ (sl.set i r) (Off.set i _)
theorem cgs_nil : PGs X [] (gMs c []) := weakGs pgs_nil fun v σ H Q ⟨g, Z, δ, S, ds, s, sl, r, δ', e, q⟩ => by
  cases ds with
  | nil => cases e; exact ⟨r.nil_inv, q _ sl (Off.refl _)⟩
  | cons d ds => cases e
theorem cgs_cons {e : Expr} {es : List Expr} {g : MG} {gs : List MG} (h1 : CG X c e g) (h2 : PGs X es (gMs c gs)) (hs : (assignEach (e :: es) X.env).map (·.2) = assign e X.env :: (assignEach es X.env).map (·.2) := by rfl) : PGs X (e :: es) (gMs c (g :: gs)) :=
  weakGs (pgs_cons h1 h2 hs) fun v σ H Q ⟨g', Z, δ, S, ds, s, sl, r, δ', e, q⟩ => by
    cases ds with
    | nil => cases e
    | cons d ds =>
      obtain ⟨u, us, rfl, r1, r2⟩ := r.cons_inv
      obtain ⟨δ1, e1, e2⟩ := Option.bind_eq_some_iff.mp e
      exact ⟨u, us, rfl, g', Z, δ, S, d, s, sl, r1, δ1, e1, fun σ1 sl1 o1 => ⟨g', Z, δ1, S, ds, s, sl1, r2, δ', e2, fun σ2 sl2 o2 => q σ2 sl2 (o1.trans o2)⟩⟩
theorem gTs_len : ∀ {gs : List MG} {ds : List D} {δ δ' : Sl}, gTs gs ds δ = some δ' → ds.length = gs.length
  | [], [], _, _, _ => rfl
  | [], _ :: _, _, _, e => by cases e
  | _ :: _, [], _, _, e => by cases e
  | g :: gs, d :: ds, δ, δ', e => by
    obtain ⟨δ1, _, e2⟩ := Option.bind_eq_some_iff.mp e
    rw [List.length_cons, List.length_cons, gTs_len e2]
theorem cg_tup {es : List Expr} {kk : Nat} {gs : List MG} (hK : c.K = X.K) (hc : X.calm = true) (h : PGs X es (gMs c gs)) (hn : (assignEach es X.env).length = gs.length := by rfl) (hst : (assignEach es X.env).findIdx? (·.1) = none := by rfl) : CG X c (.Tuple es kk pos) (gT gs) :=
  weakG (pg_tup (n := gs.length) hc h hn hst) fun v σ H Q ⟨g, Z, δ, S, d, s, sl, r, δ', e, q⟩ => by
    cases d with
    | tup ds =>
      obtain ⟨a, vs, rfl, l1, r1⟩ := tup_ok s r
      have e' : gTs gs ds δ = some δ' := e
      exact ⟨a, vs, rfl, by rw [← hK]; exact l1, by rw [r1.length]; exact gTs_len e', g, Z, δ, S, ds, s, sl, r1, δ', e', q⟩
    | _ => cases e
theorem cs_asg {tg e : Expr} {m : ME} {gm : MG} (he : CE X c W e m) (hg : CG X c tg gm) (hs : swapsWithSole [tg] e pos.line X.env = pure false := by rfl) (hw : swappedStores [tg] e X.env = pure none := by rfl)
    (h1 : (assignEach [tg] X.env).map (·.2) = [assign tg X.env] := by rfl) : CS X c W (.Assign [tg] e pos) (sAsg m gm) :=
  weakS (ps_asg he hg hs hw h1) fun Dn σ H ⟨g, Z, δ, S, s, sl, q⟩ => ⟨g, Z, δ, S, s, sl, Post.flow sl q fun d S1 g1 v H1 le1 s1 r1 q1 => by
    split at q1
    · rename_i δ1 hd
      exact ⟨g1, Z, δ, S1, d, s1, sl.up le1, r1, δ1, hd, fun σ' sl' _ => q1 g1 σ' H1 (.refl g1) s1 sl'⟩
    · exact q1.elim⟩
theorem cleanL_set {xs : List D} {v : D} {p : Nat} (h : D.cleanL xs = true) (hv : v.clean = true) : D.cleanL (xs.set p v) = true := by
  rw [cleanL_iff] at h ⊢
  intro d hd
  rcases List.mem_or_eq_of_mem_set hd with h1 | h1
  · exact h d h1
  · rw [h1]; exact hv
theorem cleanL_app {xs : List D} {v : D} (h : D.cleanL xs = true) (hv : v.clean = true) : D.cleanL (xs ++ [v]) = true := by
  rw [cleanL_iff] at h ⊢
  intro d hd
  rcases List.mem_append.mp hd with h1 | h1
  · exact h d h1
  · rw [List.mem_singleton.mp h1]; exact hv
/-- o[i] = e, o a list that changes -/
theorem cs_sub {o i e : Expr} {mv mo mi : ME} {tpos : Pos} (he : CE X c W e mv) (ho : CE X c W o mo) (hi : CE X c W i mi)
    (hs : swapsWithSole [.Subscript o i tpos] e pos.line X.env = pure false := by rfl) (hw : swappedStores [.Subscript o i tpos] e X.env = pure none := by rfl)
    (h1 : (assignEach [.Subscript o i tpos] X.env).map (·.2) = [assign (.Subscript o i tpos) X.env] := by rfl) (hg : PG X (.Subscript o i tpos) (gSub (eM c W mo) (eM c W mi) rSetL)) : CS X c W (.Assign [.Subscript o i tpos] e pos) (sSub mv mo mi) :=
  weakS (ps_asg he hg hs hw h1) fun Dn σ H ⟨g, Z, δ, S, s, sl, q⟩ => ⟨g, Z, δ, S, s, sl, Post.flow sl q fun v S1 g1 vv H1 le1 s1 r1 q1 => ⟨g1, Z, δ, S1, s1, sl.up le1, Post.flow (sl.up le1) q1 fun ov S2 g2 ov' H2 le2 s2 r2 q2 =>
    ⟨g2, Z, δ, S2, s2, (sl.up le1).up le2, Post.flow ((sl.up le1).up le2) q2 fun iv S3 g3 iv' H3 le3 s3 r3 q3 => by
      split at q3
      · rename_i n j
        split at q3
        · rename_i xs hx
          split at q3
          · rename_i p hp'
            split at q3
            · rename_i hc
              have r2' := Rep.up le3 r2
              rw [Rep] at r2'
              obtain ⟨a, rfl, ha⟩ := r2'
              obtain ⟨_, _, hcl, vs, hH, rs⟩ := s3.cell n a _ ha hx
              refine ⟨a, vs, j, p, rfl, r3.int_inv, hH, by rw [rs.length]; exact hp', ?_⟩
              have hn : n < S3.length := (List.getElem?_eq_some_iff.mp hx).1
              exact q3 g3 _ _ (.refl g3) (s3.write ha hn ⟨cleanL_set hcl hc, _, upd_same, rs.set p (Rep.up le3 (Rep.up le2 r1))⟩) (((sl.up le1).up le2).up le3)
            · exact q3.elim
          · exact q3.elim
        · exact q3.elim
      · exact q3.elim⟩⟩⟩
/-- o.append(e) -/
theorem ce_app {o e : Expr} {mo me : ME} {apos cpos : Pos} (cf : Cf k X c) (ho : CE X c W o mo) (he : CE X c W e me) (hbase : attributeBase o "append" X.env (eval o X.env) = eval o X.env := by rfl)
    (hfew : ((backTo cpos (starEach [e] X.env)).all (fun x => !x.1) && (backToKw cpos (keywordEach [] X.env)).all (fun x => x.1.isSome) && decide ([e].length + ([] : List Keyword).length + (if ([] : List Keyword).isEmpty then 0 else 1) < 30)) = true := by rfl)
    (hline : (apos.endLine == cpos.line) = true := by rfl) (hs : starEach [e] X.env = (false, eval e X.env) :: starEach [] X.env := by rfl) : CE X c W (.Call (.Attribute o "append" apos) [e] [] cpos) (mMeth1 isSq fApp mo me) :=
  weakE (pe_bm PySem.F.plainAttrs_list PySem.F.slot_list_append PySem.F.type_list_append mt_append ho (ca_cons he ca_nil hs) hbase hfew hline hs rfl) fun σ H Q ⟨g, Z, δ, S, s, sl, q⟩ => ⟨g, Z, δ, S, s, sl, Post.bind q fun ov S1 g1 ov' H1 eS le1 s1 r1 q1 => by
    split at q1
    · rename_i hk
      obtain ⟨xs0, hx0⟩ := Option.isSome_iff_exists.mp hk
      obtain ⟨a, vs0, rfl, l0, _⟩ := seq_ok s1 r1 hx0
      refine ⟨.inl ⟨rfl, vs0, by rw [← cf.kk]; exact l0⟩, g1, Z, δ, S1, s1, sl.up le1, ?_⟩
      have q2 : Post c (Rep c) g1 Z ((mCons me mNil δ S1).bind fun xs S2 => match xs with | [y] => fApp ov y S2 | _ => .bad) Q (fun k d H' => W k d σ H') := by
        unfold mCons mNil
        cases e1 : me δ S1 with
        | ok y S2 => rw [e1] at q1; exact q1
        | exc kk ws S2 => rw [e1] at q1; exact q1
        | bad => rw [e1] at q1; exact q1
      refine Post.bind q2 fun ys S2 g2 ws H2 eS2 le2 s2 r2 q3 => ?_
      split at q3
      · rename_i y
        obtain ⟨w, rfl, ry⟩ := vals_one r2
        unfold fApp at q3
        split at q3
        · rename_i n
          split at q3
          · rename_i xs hx
            split at q3
            · rename_i hc
              have r1' := Rep.up le2 r1
              rw [Rep] at r1'
              obtain ⟨a', e', ha⟩ := r1'
              cases e'
              obtain ⟨_, _, hcl, vs, hH, rs⟩ := s2.cell n a _ ha hx
              have hn : n < S2.length := (List.getElem?_eq_some_iff.mp hx).1
              refine ⟨a, vs, w, rfl, rfl, hH, by rw [rs.length, sizeLine_eq]; exact hc.1, ?_⟩
              exact q3 g2 _ _ (.refl g2) (s2.write ha hn ⟨cleanL_app hcl hc.2, _, upd_same, rs.app (RepL.cons ry RepL.nil)⟩) Rep.non
            · exact q3.elim
          · exact q3.elim
        · exact q3.elim
      · exact q3.elim
    · exact q1.elim⟩

/-! ### what a for walks -/
def ItOk (c : RC) (g : Wd) (Z : Hp) (J : It) (ds : List D) : Prop := ∀ g' Z' S H (i : Nat), g.le g' → (∀ a o, Z a = some o → Z' a = some o) → SimH c g' S Z' H → (ds.length ≤ i → J.stop i H) ∧ ∀ d, ds[i]? = some d → J.go i H ∧ ∀ x H', J.yld i H x H' → ∃ g'', g'.le g'' ∧ SimH c g'' S Z' H' ∧ Rep c g'' d x
def iM (c : RC) (W : WX) (m : MA) : TI := fun σ H Rk => ∃ g Z δ S, SimH c g S Z H ∧ Slots c g δ σ ∧ Post c (fun g' ds J => ItOk c g' Z J ds) g Z (m δ S) Rk (fun k d H' => W k d σ H')
abbrev CI (X : Cx) (c : RC) (W : WX) (tg e : Expr) (m : MA) : Prop := PI X tg e (iM c W m)
theorem weakI {tg e : Expr} {t t' : TI} (h : PI X tg e t) (k : ∀ σ H Q, t' σ H Q → t σ H Q) : PI X tg e t' := ⟨fun pins s σ H Q I q => h.run pins s σ H Q I (k _ _ _ q)⟩
theorem it_list {K : PySem.W.Frag} {g : Wd} {Z : Hp} {a : Addr} {ds : List D} {vs : List V} (hK : c.K = K) (l : SqL c.K g.G a vs) (r : RepL c g ds vs) : ItOk c g Z (Itl K a) ds := by
  intro g' Z' S H i le _ s
  have l' : SqL K H a vs := by rw [← hK]; exact s.gk.lst (SqL.up l le)
  refine ⟨fun h => ⟨vs, l', by rw [r.length]; exact h⟩, fun d hd => ?_⟩
  obtain ⟨v, h1, h2⟩ := r.get hd
  refine ⟨⟨vs, v, l', h1⟩, fun x H' y => ?_⟩
  obtain ⟨rfl, y2⟩ := y
  have y3 := y2 vs l'
  rw [h1] at y3
  cases y3
  exact ⟨g', .refl g', s, Rep.up le h2⟩
theorem it_tup {K : PySem.W.Frag} {g : Wd} {Z : Hp} {a : Addr} {ds : List D} {vs : List V} (hK : c.K = K) (l : SqT c.K g.G a vs) (r : RepL c g ds vs) : ItOk c g Z (Itt K a) ds := by
  intro g' Z' S H i le _ s
  have l' : SqT K H a vs := by rw [← hK]; exact s.gk.tup (SqT.up l le)
  refine ⟨fun h => ⟨vs, l', by rw [r.length]; exact h⟩, fun d hd => ?_⟩
  obtain ⟨v, h1, h2⟩ := r.get hd
  refine ⟨⟨vs, v, l', h1⟩, fun x H' y => ?_⟩
  obtain ⟨rfl, y2⟩ := y
  have y3 := y2 vs l'
  rw [h1] at y3
  cases y3
  exact ⟨g', .refl g', s, Rep.up le h2⟩
theorem ci_list {tg e : Expr} {m : ME} (cf : Cf k X c) (he : CE X c W e m) : CI X c W tg e (mSeqI m) :=
  weakI (pi_list he) fun σ H Q ⟨g, Z, δ, S, s, sl, q⟩ => ⟨g, Z, δ, S, s, sl, Post.bind q fun d S1 g1 v H1 eS le1 s1 r1 q1 => by
    split at q1
    · rename_i xs
      rw [Rep] at r1
      obtain ⟨a, vs, rfl, l, rs⟩ := r1
      exact ⟨a, rfl, ⟨vs, by rw [← cf.kk]; exact s1.gk.lst l⟩, q1 g1 _ H1 (.refl g1) s1 (it_list cf.kk l rs)⟩
    · exact q1.elim⟩
theorem ci_tup {tg e : Expr} {m : ME} (cf : Cf k X c) (he : CE X c W e m) : CI X c W tg e (mTupI m) :=
  weakI (pi_tup he) fun σ H Q ⟨g, Z, δ, S, s, sl, q⟩ => ⟨g, Z, δ, S, s, sl, Post.bind q fun d S1 g1 v H1 eS le1 s1 r1 q1 => by
    split at q1
    · rename_i xs
      rw [Rep] at r1
      obtain ⟨a, vs, rfl, l, rs⟩ := r1
      exact ⟨a, rfl, ⟨vs, by rw [← cf.kk]; exact s1.gk.tup l⟩, q1 g1 _ H1 (.refl g1) s1 (it_tup cf.kk l rs)⟩
    · exact q1.elim⟩
theorem ci_str {tg e : Expr} {m : ME} (he : CE X c W e m) : CI X c W tg e (mStrI m) :=
  weakI (pi_str he) fun σ H Q ⟨g, Z, δ, S, s, sl, q⟩ => ⟨g, Z, δ, S, s, sl, Post.bind q fun d S1 g1 v H1 eS le1 s1 r1 q1 => by
    split at q1
    · rename_i z
      refine ⟨z, r1.str_inv, q1 g1 _ H1 (.refl g1) s1 fun g' Z' S' H' i le _ s' => ⟨fun h => ?_, fun d hd => ?_⟩⟩
      · rw [List.length_map, Array.length_toList] at h
        exact h
      · rw [List.getElem?_map] at hd
        obtain ⟨n, hn, rfl⟩ := Option.map_eq_some_iff.mp hd
        have hn' : z.cps[i]? = some n := by simpa using hn
        refine ⟨(Array.getElem?_eq_some_iff.mp hn').1, fun x H2 y => ?_⟩
        obtain ⟨rfl, n2, h2, rfl⟩ := y
        rw [hn'] at h2
        cases h2
        exact ⟨g', .refl g', s', Rep.str⟩
    · exact q1.elim⟩
theorem ci_range {tg a : Expr} {m : MA} {p pos : Pos} (ha : CA X c W [a] m) (hm : X.mg "range" = none) (hg : Gl X "range" := by rfl) (hs : starEach [a] X.env = [(false, eval a X.env)] := by rfl) : CI X c W tg (.Call (.Name "range" p) [a] [] pos) (mRgI m) :=
  weakI (pi_range1 hg hm ha hs) fun σ H Q ⟨g, Z, δ, S, s, sl, q⟩ => ⟨g, Z, δ, S, s, sl, Post.bind q fun ds S1 g1 vs H1 eS le1 s1 r1 q1 => by
    split at q1
    · rename_i n
      split at q1
      · rename_i hb0
        have hb := fits62_ok hb0
        obtain ⟨v, rfl, rn⟩ := vals_one r1
        refine ⟨n, by rw [rn.int_inv], hb.1, hb.2, q1 g1 _ H1 (.refl g1) s1 fun g' Z' S' H' i le _ s' => ⟨fun h => ?_, fun d hd => ?_⟩⟩
        · rw [List.length_map, List.length_range] at h
          exact h
        · rw [List.getElem?_map] at hd
          obtain ⟨j, hj, rfl⟩ := Option.map_eq_some_iff.mp hd
          have hlt : i < n.toNat := by
            have := (List.getElem?_eq_some_iff.mp hj).1
            simpa using this
          have ej : j = i := by
            rw [List.getElem?_range hlt] at hj
            cases hj
            rfl
          subst ej
          refine ⟨hlt, fun x H2 y => ?_⟩
          obtain ⟨rfl, rfl⟩ := y
          refine ⟨g', .refl g', s', ?_⟩
          rw [Int.zero_add]
          exact Rep.int
      · exact q1.elim
    · exact q1.elim⟩
theorem ci_enum {e : Expr} {elts : List Expr} {kk : Nat} {tpos p pos : Pos} {m : ME} (cf : Cf k X c) (he : CE X c W e m) (hm : X.mg "enumerate" = none) (hg : Gl X "enumerate" := by rfl) (hs : starEach [e] X.env = [(false, eval e X.env)] := by rfl)
    (hs2 : starEach [e] X.env = (false, eval e X.env) :: starEach [] X.env := by rfl) : CI X c W (.Tuple elts kk tpos) (.Call (.Name "enumerate" p) [e] [] pos) (mEnI m) :=
  weakI (pi_enum hg hm (ca_cons he ca_nil hs2) hs) fun σ H Q ⟨g, Z, δ, S, s, sl, q⟩ => ⟨g, Z, δ, S, s, sl, by
    have q' : Post c (fun g' ds J => ItOk c g' Z J ds) g Z ((mCons m mNil δ S).bind fun ds S1 => match ds with | [.lst xs] => .ok (xs.mapIdx fun (i : Nat) x => D.tup [.int (i : Int), x]) S1 | _ => .bad) Q (fun k d H' => W k d σ H') := by
      unfold mEnI at q
      unfold mCons mNil
      cases e1 : m δ S with
      | ok y S2 =>
        rw [e1] at q
        cases y <;> exact q
      | exc kk ws S2 => rw [e1] at q; exact q
      | bad => rw [e1] at q; exact q
    refine Post.bind q' fun ds S1 g1 vs H1 eS le1 s1 r1 q1 => ?_
    split at q1
    · rename_i xs
      obtain ⟨v, rfl, rn⟩ := vals_one r1
      rw [Rep] at rn
      obtain ⟨a, us, rfl, l, rs⟩ := rn
      have l1 : SqL X.K H1 a us := by rw [← cf.kk]; exact s1.gk.lst l
      refine ⟨a, us, rfl, l1, q1 g1 _ H1 (.refl g1) s1 fun g' Z' S' H' i le _ s' => ?_⟩
      have l' : SqL X.K H' a us := by rw [← cf.kk]; exact s'.gk.lst (SqL.up l le)
      refine ⟨fun h => ⟨us, l', by rw [List.length_mapIdx] at h; rw [rs.length]; exact h⟩, fun d hd => ?_⟩
      rw [List.getElem?_mapIdx] at hd
      obtain ⟨y, hy, rfl⟩ := Option.map_eq_some_iff.mp hd
      obtain ⟨v, h1, h2⟩ := rs.get hy
      refine ⟨⟨us, v, l', h1⟩, fun x H2 yl => ?_⟩
      obtain ⟨T, x2, rfl, hT, rfl, h3⟩ := yl
      have h4 := h3 us l'
      rw [h1] at h4
      cases h4
      obtain ⟨le2, s2⟩ := s'.new hT (.tup [.int (i : Nat), v])
      refine ⟨_, le2, s2, ?_⟩
      rw [Rep]
      exact ⟨T, _, rfl, .inl (.inl upd_same), RepL.cons Rep.int (RepL.cons (Rep.up le2 (Rep.up le h2)) RepL.nil)⟩
    · exact q1.elim⟩

/-! ### for -/
theorem for_ok {g1 : Wd} {Z : Hp} {gm : MG} {body : MS} {ds : List D} {δ : Sl} {S : Sto} {J : It} {H : Hp} {σ : L2.St} {Dn : Ends} (it : ItOk c g1 Z J ds) (s : SimH c g1 S Z H) (sl : Slots c g1 δ σ) (q : PostF c g1 Z (forGo gm body ds δ S) Dn W) :
    ∃ V : Nat → Nat → L2.St → Hp → Prop, (∃ m, V 0 m σ H) ∧ ∀ i m σ H, V i m σ H → (J.stop i H ∧ Dn.nx σ H) ∨ (J.go i H ∧ ∃ N : L2.St → Hp → Prop, (∀ σ' H', N σ' H' → ∃ m', m' < m ∧ V (i + 1) m' σ' H') ∧
      ∀ x H', J.yld i H x H' → gM c gm x σ H' fun σ2 H2 => sM c W body { Dn with nx := N, ct := N, bk := Dn.nx } σ2 H2) := by
  refine ⟨fun i m σ' H' => m = ds.length - i ∧ i ≤ ds.length ∧ ∃ g' δ' S', g1.le g' ∧ SimH c g' S' Z H' ∧ Slots c g' δ' σ' ∧ PostF c g' Z (forGo gm body (ds.drop i) δ' S') Dn W, ⟨ds.length, by simp, Nat.zero_le _, g1, δ, S, .refl g1, s, sl, q⟩, ?_⟩
  rintro i m σ' H' ⟨rfl, hi, g', δ', S', le, s', sl', q'⟩
  by_cases hlt : i < ds.length
  · right
    obtain ⟨go, yl⟩ := (it g' Z S' H' i le (fun _ _ e => e) s').2 ds[i] (by simp [hlt])
    refine ⟨go, fun σ2 H2 => ∃ g2 δ2 S2, g1.le g2 ∧ SimH c g2 S2 Z H2 ∧ Slots c g2 δ2 σ2 ∧ PostF c g2 Z (forGo gm body (ds.drop (i + 1)) δ2 S2) Dn W, fun σ2 H2 h => ⟨ds.length - (i + 1), by omega, rfl, by omega, h⟩, fun x H2 y => ?_⟩
    obtain ⟨g2, le2, s2, rx⟩ := yl x H2 y
    rw [List.drop_eq_getElem_cons hlt] at q'
    unfold forGo at q'
    split at q'
    · exact q'.elim
    · rename_i δ1 hg
      refine ⟨g2, Z, δ', S', ds[i], s2, sl'.up le2, rx, δ1, hg, fun σ3 sl3 _ => ⟨g2, Z, δ1, S', s2, sl3, ?_⟩⟩
      have q2 := PostF.up le2 q'
      have leA := le.trans le2
      cases e : body δ1 S' with
      | nx δ2 S2 => rw [e] at q2; exact fun g3 σ4 H4 le3 s3 sl4 => ⟨g3, δ2, S2, leA.trans le3, s3, sl4, PostF.up le3 q2⟩
      | cnt δ2 S2 => rw [e] at q2; exact fun g3 σ4 H4 le3 s3 sl4 => ⟨g3, δ2, S2, leA.trans le3, s3, sl4, PostF.up le3 q2⟩
      | brk δ2 S2 => rw [e] at q2; exact q2
      | ret d S2 => rw [e] at q2; exact q2
      | exc kk vs δ2 S2 => rw [e] at q2; exact q2
      | bad => rw [e] at q2; exact q2
  · left
    have e0 : i = ds.length := by omega
    subst e0
    rw [List.drop_length] at q'
    exact ⟨(it g' Z S' H' _ le (fun _ _ e => e) s').1 (Nat.le_refl _), q' g' σ' H' (.refl g') s' sl'⟩
theorem cs_for {tg iter : Expr} {body : List Stmt} {mi : MA} {gm : MG} {mb : MS} (cf : Cf k X c) (hp : PassesOwn (model X.prog X.w) X.A X.env X.xe) (hi : CI X c W tg iter mi) (hg : CG X c tg gm) (hb : CSs X c W body mb) (hs : ∀ x, foldedSetIterable iter X.env x = pure x := by intro _; rfl) : CS X c W (.For tg iter body [] pos) (sFor mi gm mb) :=
  weakS (ps_for hp cf.calm hi hg hb hs) fun Dn σ H ⟨g, Z, δ, S, s, sl, q⟩ => ⟨g, Z, δ, S, s, sl, Post.flow sl q fun ds S1 g1 J H1 le1 s1 it q1 => for_ok it s1 (sl.up le1) q1⟩

/-! ### comprehensions -/
abbrev W0 : WX := fun _ _ _ _ => False
theorem Slots.wipe {g : Wd} {δ : Sl} {σ : L2.St} (s : Slots c g δ σ) : ∀ vs : List Nat, Slots c g (wipeD δ vs) (L2.wipe σ vs)
  | [] => s
  | v :: vs => (Slots.wipe s vs).forget v none
theorem SimH.frame {g : Wd} {S : Sto} {Z H : Hp} (s : SimH c g S Z H) {p : Addr} (hp : H p = none) (o : HO) : SimH c g S (upd Z p o) (upd H p o) := by
  have b := s.beside hp o
  refine ⟨b.gk, s.zk.new (s.zk.gone hp), fun a u e => ?_, b.len, b.nd, fun n a u e1 e2 => ?_⟩
  · by_cases ha : a = p
    · rw [ha]; exact s.gk.gone hp
    · rw [upd_ne ha] at e; exact s.zg a u e
  obtain ⟨h1, h2, h3⟩ := b.cell n a u e1 e2
  have hne : a ≠ p := fun z => s.not_new hp (z ▸ List.mem_of_getElem? e1)
  exact ⟨h1, (upd_ne hne).trans h2, h3⟩
theorem SimH.reframe {g : Wd} {S : Sto} {Z H : Hp} {p : Addr} {o o' : HO} (s : SimH c g S (upd Z p o) H) : SimH c g S (upd Z p o') (upd H p o') := by
  have hg : g.G p = none := s.zg p o upd_same
  refine ⟨s.gk.aside hg, fun a u e => ?_, fun a u e => ?_, s.len, s.nd, fun n a u e1 e2 => ?_⟩
  · by_cases ha : a = p
    · subst ha
      rw [upd_same] at e ⊢
      exact e
    · have e' : upd Z p o a = some u := by rw [upd_ne ha] at e ⊢; exact e
      rw [upd_ne ha]
      exact s.zk a u e'
  · by_cases ha : a = p
    · rw [ha]; exact hg
    · have e' : upd Z p o a = some u := by rw [upd_ne ha] at e ⊢; exact e
      exact s.zg a u e'
  · obtain ⟨h1, h2, h3⟩ := s.cell n a u e1 e2
    have hne : a ≠ p := fun z => by
      rw [z, upd_same] at h2
      cases h2
    refine ⟨h1, ?_, h3.at (upd_ne hne)⟩
    rw [upd_ne hne] at h2 ⊢
    exact h2
theorem SimH.unframe {g : Wd} {S : Sto} {Z H : Hp} {p : Addr} {o : HO} (s : SimH c g S (upd Z p o) H) (hz : Z p = none) : SimH c g S Z H := by
  refine ⟨s.gk, fun a u e => s.zk a u ?_, fun a u e => s.zg a u ?_, s.len, s.nd, fun n a u e1 e2 => ?_⟩
  · rw [upd_ne (ne_of_none e hz)]; exact e
  · rw [upd_ne (ne_of_none e hz)]; exact e
  · obtain ⟨h1, h2, h3⟩ := s.cell n a u e1 e2
    have hne : a ≠ p := fun z => by
      rw [z, upd_same] at h2
      cases h2
    rw [upd_ne hne] at h2
    exact ⟨h1, h2, h3⟩
/-- a list that was made aside stands from now on -/
theorem SimH.settle {g : Wd} {S : Sto} {Z H : Hp} {p : Addr} {vs : List V} (s : SimH c g S (upd Z p (.lst vs)) H) (hz : Z p = none) : g.le ⟨upd g.G p (.lst vs), g.ι⟩ ∧ SimH c ⟨upd g.G p (.lst vs), g.ι⟩ S Z H := by
  have hg : g.G p = none := s.zg p _ upd_same
  have hH : H p = some (.lst vs) := s.zk p _ upd_same
  have le : g.le ⟨upd g.G p (.lst vs), g.ι⟩ := ⟨fun x u e => (upd_ne (ne_of_none e hg)).trans e, List.prefix_rfl⟩
  have u := s.unframe hz
  refine ⟨le, fun a o e => ?_, u.zk, fun a o e => (upd_ne (ne_of_none e hz)).trans (u.zg a o e), u.len, u.nd, fun n a o e1 e2 => ?_⟩
  · by_cases ha : a = p
    · subst ha
      have e' : some (HO.lst vs) = some o := upd_same.symm.trans e
      cases e'
      exact .inl hH
    · exact u.gk a o (by rw [← e]; exact (upd_ne ha).symm)
  · obtain ⟨h1, h2, h3⟩ := s.cell n a o e1 e2
    have hne : a ≠ p := fun z => by
      rw [z, upd_same] at h2
      cases h2
    rw [upd_ne hne] at h2
    exact ⟨(upd_ne hne).trans h1, h2, h3.up le⟩
/-- .. or is a cell -/
theorem SimH.settleC {g : Wd} {S : Sto} {Z H : Hp} {p : Addr} {vs : List V} {ds : List D} (s : SimH c g S (upd Z p (.lst vs)) H) (hz : Z p = none) (r : RepL c g ds vs) (hc : D.cleanL ds = true) :
    g.le ⟨g.G, g.ι ++ [p]⟩ ∧ SimH c ⟨g.G, g.ι ++ [p]⟩ (S ++ [.lst ds]) Z H := by
  have hg : g.G p = none := s.zg p _ upd_same
  have hH : H p = some (.lst vs) := s.zk p _ upd_same
  have le : g.le ⟨g.G, g.ι ++ [p]⟩ := ⟨fun _ _ e => e, ⟨[p], rfl⟩⟩
  have u := s.unframe hz
  have np : p ∉ g.ι := fun h => by
    obtain ⟨n, o, e1, e2⟩ := u.mem_cell h
    have := (s.cell n p o e1 e2).2.1
    rw [upd_same] at this
    cases this
  refine ⟨le, u.gk, u.zk, u.zg, by simp [u.len], ?_, fun n a o e1 e2 => ?_⟩
  · rw [List.nodup_append]
    exact ⟨u.nd, by simp, fun a ha b hb => by simp at hb; subst hb; exact fun q => np (q ▸ ha)⟩
  · by_cases hn : n < S.length
    · have hn' : n < g.ι.length := u.len ▸ hn
      have e1' : g.ι[n]? = some a := by
        have : (g.ι ++ [p])[n]? = some a := e1
        rwa [List.getElem?_append_left hn'] at this
      rw [List.getElem?_append_left hn] at e2
      obtain ⟨h1, h2, h3⟩ := u.cell n a o e1' e2
      exact ⟨h1, h2, h3.up le⟩
    · have e0 : n = S.length := by
        have h2 := (List.getElem?_eq_some_iff.mp e2).1
        simp at h2
        omega
      subst e0
      have e1' : (g.ι ++ [p])[S.length]? = some a := e1
      rw [← u.len] at e1'
      simp at e1' e2
      subst e1' e2
      exact ⟨hg, hz, hc, vs, hH, RepL.up le r⟩
theorem Post.noX {α β : Type} {rp : Wd → α → β → Prop} {g : Wd} {Z : Hp} {r : R α} {Q : β → Hp → Prop} {E E' : XK} (h : Post c rp g Z (noX r) Q E) : Post c rp g Z r Q E' := by
  cases r with
  | exc k vs S => exact False.elim h
  | _ => exact h
theorem noX_bind {α β : Type} (r : R α) (f : α → Sto → R β) : noX (r.bind f) = (noX r).bind fun a S => noX (f a S) := by
  cases r <;> rfl
theorem wipe_get (σ : L2.St) : ∀ (vs : List Nat) (i : Nat), (L2.wipe σ vs)[i]? = if i ∈ vs ∧ i < σ.length then some none else σ[i]?
  | [], i => by simp [L2.wipe]
  | v :: vs, i => by
    unfold L2.wipe
    by_cases h : v = i
    · subst h
      by_cases hl : v < σ.length
      · rw [List.getElem?_set_self (by rw [wipe_length]; exact hl), if_pos ⟨List.mem_cons_self, hl⟩]
      · rw [if_neg fun q => hl q.2, List.getElem?_eq_none_iff.mpr (by rw [List.length_set, wipe_length]; omega), List.getElem?_eq_none_iff.mpr (by omega)]
    · rw [List.getElem?_set_ne h, wipe_get σ vs i]
      have : (i ∈ v :: vs) ↔ i ∈ vs := ⟨fun q => (List.mem_cons.mp q).resolve_left fun z => h z.symm, List.mem_cons_of_mem _⟩
      simp only [this]
theorem wipe_off {ts vs : List Nat} {σ σ' : L2.St} (o : Off ts (L2.wipe σ vs) σ') (h : ∀ i ∈ ts, i ∈ vs) : L2.wipe σ' vs = L2.wipe σ vs := by
  apply List.ext_getElem?
  intro i
  have hl : σ'.length = σ.length := by rw [o.1, wipe_length]
  rw [wipe_get, wipe_get, hl]
  by_cases hv : i ∈ vs ∧ i < σ.length
  · rw [if_pos hv, if_pos hv]
  · rw [if_neg hv, if_neg hv]
    by_cases hv2 : i ∈ vs
    · have : ¬ i < σ.length := fun q => hv ⟨hv2, q⟩
      rw [List.getElem?_eq_none_iff.mpr (by omega), List.getElem?_eq_none_iff.mpr (by omega)]
    · rw [o.2 i fun q => hv2 (h i q), wipe_get, if_neg hv]
/-- what a comprehension's turns come to -/
theorem lc_ok {g1 : Wd} {Z : Hp} {gm : MG} {mt : MT} {me : ME} {ds : List D} {δ : Sl} {vs : List Nat} {S : Sto} {J : It} {H : Hp} {σ : L2.St} {Q : VK} {fin : List D → Sto → R D} {E : XK} (it : ItOk c g1 Z J ds) (hlen : ds.length ≤ 16777216) (hts : ∀ i ∈ gm.ts, i ∈ vs)
    (s : SimH c g1 S Z H) (sl : Slots c g1 δ (L2.wipe σ vs)) (q : Post c (Rep c) g1 Z ((noX (lcGo gm mt me δ ds [] S)).bind fin) Q E)
    (hfin : ∀ g' S' H' p ws acc, g1.le g' → SimH c g' S' (upd Z p (.lst ws)) H' → Z p = none → RepL c g' acc ws → Post c (Rep c) g' Z (fin acc S') Q E → Q (.ref p) H') (p : Addr) (hp : H p = none) :
    ∃ V : Nat → Nat → Hp → Prop, (∃ m, V 0 m (upd H p (.lst []))) ∧ ∀ i m H, V i m H → (J.stop i H ∧ Q (.ref p) H) ∨ (J.go i H ∧ ∃ Nx : Hp → Prop, (∀ H', Nx H' → ∃ m', m' < m ∧ V (i + 1) m' H') ∧
      ∀ x H', J.yld i H x H' → gM c gm x (L2.wipe σ vs) H' fun σ2 H2 => L2.wipe σ2 vs = L2.wipe σ vs ∧ tM c W0 mt σ2 H2 fun b H3 => if b = true then eM c W0 me σ2 H3 fun y H4 => ∃ acc, H4 p = some (.lst acc) ∧ acc.length < sizeLine ∧ Nx (upd H4 p (.lst (acc ++ [y]))) else Nx H3) := by
  have zp : Z p = none := s.zk.gone hp
  have ze : ∀ ws, ∀ a o, Z a = some o → upd Z p (.lst ws) a = some o := fun ws a o e => (upd_ne (ne_of_none e zp)).trans e
  refine ⟨fun i m H' => m = ds.length - i ∧ i ≤ ds.length ∧ ∃ g' S' acc ws, g1.le g' ∧ SimH c g' S' (upd Z p (.lst ws)) H' ∧ RepL c g' acc ws ∧ acc.length ≤ i ∧ Post c (Rep c) g' Z ((noX (lcGo gm mt me δ (ds.drop i) acc S')).bind fin) Q E,
    ⟨ds.length, by simp, Nat.zero_le _, g1, S, [], [], .refl g1, s.frame hp _, RepL.nil, Nat.le_refl _, q⟩, ?_⟩
  rintro i m H' ⟨rfl, hi, g', S', acc, ws, le, s', ra, hacc, q'⟩
  by_cases hlt : i < ds.length
  · right
    obtain ⟨go, yl⟩ := (it g' _ S' H' i le (ze ws) s').2 ds[i] (by simp [hlt])
    refine ⟨go, fun H2 => ∃ g2 S2 acc2 ws2, g1.le g2 ∧ SimH c g2 S2 (upd Z p (.lst ws2)) H2 ∧ RepL c g2 acc2 ws2 ∧ acc2.length ≤ i + 1 ∧ Post c (Rep c) g2 Z ((noX (lcGo gm mt me δ (ds.drop (i + 1)) acc2 S2)).bind fin) Q E,
      fun H2 h => ⟨ds.length - (i + 1), by omega, rfl, by omega, h⟩, fun x H2 y => ?_⟩
    obtain ⟨g2, le2, s2, rx⟩ := yl x H2 y
    rw [List.drop_eq_getElem_cons hlt] at q'
    unfold lcGo at q'
    split at q'
    · exact q'.elim
    · rename_i δ1 hg
      refine ⟨g2, _, δ, S', ds[i], s2, (sl.up le).up le2, rx, δ1, hg, fun σ3 sl3 off => ⟨wipe_off off hts, g2, _, δ1, S', s2, sl3, ?_⟩⟩
      rw [noX_bind] at q'
      have leA := le.trans le2
      cases e1 : mt δ1 S' with
      | bad => rw [e1] at q'; exact q'.elim
      | exc kk us S2 => rw [e1] at q'; exact q'.elim
      | ok b S2 =>
        rw [e1] at q'
        intro g3 b' H3 le3 s3 eb
        subst eb
        have q3 := Post.up (le2.trans le3) q'
        cases b with
        | false => exact ⟨g3, S2, acc, ws, leA.trans le3, s3, ra.up (le2.trans le3), by omega, q3⟩
        | true =>
          refine ⟨g3, _, δ1, S2, s3, sl3.up le3, ?_⟩
          have q4 : Post c (Rep c) g3 Z ((noX ((me δ1 S2).bind fun y S2 => lcGo gm mt me δ (ds.drop (i + 1)) (acc ++ [y]) S2)).bind fin) Q E := q3
          rw [noX_bind] at q4
          cases e2 : me δ1 S2 with
          | bad => rw [e2] at q4; exact q4.elim
          | exc kk us S3 => rw [e2] at q4; exact q4.elim
          | ok d S3 =>
            rw [e2] at q4
            intro g4 v H4 le4 s4 rv
            have hH : H4 p = some (.lst ws) := s4.zk p _ upd_same
            refine ⟨ws, hH, by rw [ra.length, sizeLine_eq]; omega, g4, S3, acc ++ [d], ws ++ [v], (leA.trans le3).trans le4, s4.reframe, ?_, by rw [List.length_append]; simp; omega, Post.up le4 q4⟩
            exact (ra.up ((le2.trans le3).trans le4)).app (RepL.cons rv RepL.nil)
  · left
    have e0 : i = ds.length := by omega
    subst e0
    rw [List.drop_length] at q'
    exact ⟨(it g' _ S' H' _ le (ze ws) s').1 (Nat.le_refl _), hfin g' S' H' p ws acc le s' zp ra q'⟩
def finL (acc : List D) (S : Sto) : R D := .ok (.lst acc) S
def finC (acc : List D) (S : Sto) : R D := if D.cleanL acc = true then .ok (.loc S.length) (S ++ [.lst acc]) else .bad
theorem finL_ok {g1 : Wd} {Z : Hp} {Q : VK} {E : XK} : ∀ g' S' H' p ws acc, g1.le g' → SimH c g' S' (upd Z p (.lst ws)) H' → Z p = none → RepL c g' acc ws → Post c (Rep c) g' Z (finL acc S') Q E → Q (.ref p) H' := fun g' S' H' p ws acc le s hz r q => by
  obtain ⟨le2, s2⟩ := s.settle hz
  refine q _ _ _ le2 s2 ?_
  rw [Rep]
  exact ⟨p, ws, rfl, .inl (.inl upd_same), r.up le2⟩
theorem finC_ok {g1 : Wd} {Z : Hp} {Q : VK} {E : XK} : ∀ g' S' H' p ws acc, g1.le g' → SimH c g' S' (upd Z p (.lst ws)) H' → Z p = none → RepL c g' acc ws → Post c (Rep c) g' Z (finC acc S') Q E → Q (.ref p) H' := fun g' S' H' p ws acc le s hz r q => by
  unfold finC at q
  split at q
  · rename_i hc
    obtain ⟨le2, s2⟩ := s.settleC hz r hc
    refine q _ _ _ le2 s2 ?_
    rw [Rep]
    exact ⟨p, rfl, by rw [← s.len]; simp⟩
  · exact q.elim
abbrev FinOk (c : RC) (fin : List D → Sto → R D) : Prop := ∀ {g1 : Wd} {Z : Hp} {Q : VK} {E : XK}, ∀ g' S' H' p ws acc, g1.le g' → SimH c g' S' (upd Z p (.lst ws)) H' → Z p = none → RepL c g' acc ws → Post c (Rep c) g' Z (fin acc S') Q E → Q (.ref p) H'
theorem lc_read {mi : MA} {gm : MG} {mt : MT} {me : ME} {vs : List Nat} {fin : List D → Sto → R D} (hfin : FinOk c fin) (hts : ∀ i ∈ gm.ts, i ∈ vs) {σ : L2.St} {H : Hp} {Q : VK} (h : eM c W (mLc mi gm vs mt me fin) σ H Q) :
    tLc (iM c W mi) (gM c gm) (tM c W0 mt) (eM c W0 me) vs σ H Q := by
  obtain ⟨g, Z, δ, S, s, sl, q⟩ := h
  refine ⟨g, Z, δ, S, s, sl, Post.bind q fun ds S1 g1 J H1 eS le1 s1 it q1 => ?_⟩
  split at q1
  · rename_i hlen
    exact fun p hp => lc_ok it hlen hts s1 ((sl.up le1).wipe vs) q1 (hfin (g1 := g1)) p hp
  · exact q1.elim
/-- [e for t in it if ..], as a value -/
theorem ce_lc {elt tg iter : Expr} {ifs : List Expr} {scope : Scope} {own : List (Str × Nat)} {mi : MA} {gm : MG} {mt : MT} {me : ME} {fin : List D → Sto → R D} (cf : Cf k X c) (hN : X.N.Nodup) (hfin : FinOk c fin) (hi : CI X c W tg iter mi) (ok : BlkOk X.N X.env.scope scope own)
    (hts : ∀ i ∈ gm.ts, i ∈ own.map (·.2))
    (hg : ∀ (s : Shared) (H : Hp) (C : Addr) (cl : List (Str × Addr)) (fp : List Addr), CG (X.blk s H scope (compEnvC scope cl C X.env) fp) c tg gm)
    (ht : ∀ (s : Shared) (H : Hp) (C : Addr) (cl : List (Str × Addr)) (fp : List Addr), PTs (X.blk s H scope (compEnvC scope cl C X.env) fp) ifs (tM c W0 mt))
    (he : ∀ (s : Shared) (H : Hp) (C : Addr) (cl : List (Str × Addr)) (fp : List Addr), CE (X.blk s H scope (compEnvC scope cl C X.env) fp) c W0 elt me) (hs : ∀ x, foldedSetIterable iter X.env x = pure x := by intro _; rfl) :
    CE X c W (.ListComp elt [⟨tg, iter, ifs, 0⟩] scope pos) (mLc mi gm (own.map (·.2)) mt me fin) :=
  weakE (pe_lc cf.calm hN hi ok hg ht he hs) fun σ H Q h => lc_read hfin hts h
/-- y = [..] -/
theorem cs_setLc {i : Nat} {y : Str} {py spos : Pos} {elt tg iter : Expr} {ifs : List Expr} {scope : Scope} {own : List (Str × Nat)} {mi : MA} {gm : MG} {mt : MT} {me : ME} {fin : List D → Sto → R D} (cf : Cf k X c) (hN : X.N.Nodup) (hfin : FinOk c fin) (hi : CI X c W tg iter mi)
    (ok : BlkOk X.N X.env.scope scope own) (hts : ∀ i ∈ gm.ts, i ∈ own.map (·.2))
    (hg : ∀ (s : Shared) (H : Hp) (C : Addr) (cl : List (Str × Addr)) (fp : List Addr), CG (X.blk s H scope (compEnvC scope cl C X.env) fp) c tg gm)
    (ht : ∀ (s : Shared) (H : Hp) (C : Addr) (cl : List (Str × Addr)) (fp : List Addr), PTs (X.blk s H scope (compEnvC scope cl C X.env) fp) ifs (tM c W0 mt))
    (he : ∀ (s : Shared) (H : Hp) (C : Addr) (cl : List (Str × Addr)) (fp : List Addr), CE (X.blk s H scope (compEnvC scope cl C X.env) fp) c W0 elt me)
    (hsw : swapsWith (.ListComp elt [⟨tg, iter, ifs, 0⟩] scope pos) (some (.Name y py)) spos.line X.env = pure true) (hy : X.N[i]? = some y := by rfl) (hyl : X.env.scope.names.lookup y = some .local := by rfl) (hs : ∀ x, foldedSetIterable iter X.env x = pure x := by intro _; rfl) :
    CS X c W (.Assign [.Name y py] (.ListComp elt [⟨tg, iter, ifs, 0⟩] scope pos) spos) (sSet i (mLc mi gm (own.map (·.2)) mt me fin)) :=
  weakS (ps_setLc cf.calm hN hy hyl hsw hi ok hg ht he hs) fun Dn σ H ⟨g, Z, δ, S, s, sl, q⟩ => lc_read hfin hts ⟨g, Z, δ, S, s, sl, Post.flow sl q fun d S1 g1 v H1 le1 s1 r1 q1 => q1 g1 _ H1 (.refl g1) s1 ((sl.up le1).set i r1)⟩
theorem cts_nil : PTs X [] (tM c W tOk) := ⟨fun pins s σ H Q I ⟨g, Z, δ, S, s', sl, q⟩ => pts_nil.run pins s σ H Q I (q g true H (.refl g) s' rfl)⟩
theorem cts_one {t : Expr} {mt : MT} (h : CT X c W t mt) : PTs X [t] (tM c W mt) := pts_one h
end
end DL

end
section
/-! DL, part e: defs and their calls. The promise of a def is its mirror. -/
namespace DL
open PySem PySem.Spec PyProof.Rows L2

/-- a def that keeps a promise where no repr is under way -/
structure FnG (P : Program) (w : World) (K : PySem.W.Frag) (mg : Str → Option Value) (base : Heap) (k : Nat) (f : Addr) (fd : FuncData) (ps : List Str) (sp : Sp) : Prop where
  len : ∀ vs H Q E, sp vs H Q E → vs.length = ps.length
  run : ∀ (A : Around) (outer : List Env) (s : Shared) (H : Hp) (args : Args) (us : List Value) (vs : List V) (Q : VK) (E : XK), A.guards = some [] → Room k A → Env0 P w K mg base A outer s H → BindsTo s fd args (ps.zip us) → Vals vs us → sp vs H Q E →
    codeAny (model P w) A (.call (.ref f) args) (CR (L2.CX P w) outer P w H s Q E) s
theorem FnG.mono {P : Program} {w : World} {K : PySem.W.Frag} {mg : Str → Option Value} {base : Heap} {j k : Nat} {f : Addr} {fd : FuncData} {ps : List Str} {sp : Sp} (F : FnG P w K mg base j f fd ps sp) (h : j ≤ k) : FnG P w K mg base k f fd ps sp :=
  ⟨F.len, fun A outer s H args us vs Q E hg hr => F.run A outer s H args us vs Q E hg (hr.mono h)⟩

/-- a body keeps its def's promise -/
theorem fnG_body {P : Program} {w : World} {K : PySem.W.Frag} {mg : Str → Option Value} {base : Heap} {k : Nat} {f : Addr} {x qual : Str} {params : Arguments} {body : List Stmt} {scope : Scope} {dvs : List V} {kws : List (Str × V)} {fd : FuncData} {N ps : List Str} {sp : Sp}
    (F : FunD K x qual params body scope dvs kws f fd) (S : FnScope N ps scope) (len : ∀ vs H Q E, sp vs H Q E → vs.length = ps.length)
    (hbody : ∀ (cdv : Value) (A : Around) (outer : List Env) (s : Shared) (H : Hp) (vs : List V) (Q : VK) (E : XK), A.guards = some [] → Room k (A.deeper (envOfC qual scope s.heap.objs.size f cdv)) → sp vs H Q E →
      ∃ t, PSs (cxOf (L2.CX P w) P w K mg base N qual scope f cdv A outer s H E) body t ∧ t { nx := fun _ H' => Q .non H', rt := Q } (start N vs) H) : FnG P w K mg base (k + 1) f fd ps sp := by
  obtain ⟨oc, od, dV, kV, doc, pm, an, cdv, ct, osl, rfl, lk, hcd, _, _⟩ := F.ex
  refine ⟨len, ?_⟩
  intro A outer s H args us vs Q E hgd hr e0 hb r hsp
  have inHeap : K.In s.heap := e0.mod.kin.keeps fun b o e => (e0.bs b o e).1
  have noLim : s.heap.NoLimit := e0.mod.nolimit.keeps fun b o e => (e0.bs b o e).1
  have kinds : ∀ y ∈ ps.zip us, scope.names.lookup y.1 = some .local ∨ (scope.names.lookup y.1 = some .cell ∧ ((cellsFrom (s.heap.objs.size + 1) scope.names []).lookup y.1).isSome = true) := by
    rintro ⟨n, v⟩ hy
    rcases S.par n (List.of_mem_zip hy).1 with q | q
    · exact .inl q
    · exact .inr ⟨q, PySem.W.cellsFrom_some _ _ _ (.inl q)⟩
  refine codeAny_call_function hr.depth (inHeap _ _ lk) rfl S.co S.gen rfl (PySem.W.codeRec_of inHeap hcd) (hb _ _ _ _ (wpAny_newFunctionEnv_cells S.kind kinds ?_))
  rintro env rfl s1 cal
  obtain ⟨t, pt, hq⟩ := hbody cdv A outer s H vs Q E hgd (hr.deeper _) hsp
  have I0 := inv_start (CX := L2.CX P w) (E := E) S hr.hd e0 (len _ _ _ _ hsp) r cal
  refine ⟨noLim.keeps cal.toInCall.keep, codeAny_func (wpAny_mono (pt.run [] s1 (start N vs) H _ I0 hq) ?_ fun e s' hs => hs)⟩
  rintro (_ | _ | _ | u) s' hs
  · obtain ⟨_, H', J, q⟩ := hs
    exact ⟨.non, H', J.os, J.bare, J.base, J.hok, rfl, q⟩
  · obtain ⟨_, _, _, q⟩ := hs
    exact q.elim
  · obtain ⟨_, _, _, q⟩ := hs
    exact q.elim
  · obtain ⟨v, _, H', J, rv, q⟩ := hs
    exact ⟨v, H', J.os, J.bare, J.base, J.hok, rv, q⟩

/-! ### a def's mirror -/
/-- what is handed back: the cells that the def made are let go; one that is handed back stands from now on -/
def finD (n0 : Nat) (d : D) (S : Sto) : R D := if S.length = n0 then .ok d S else if n0 ≤ S.length then (match d with
  | .loc n => if n < n0 then .ok d (S.take n0) else (match S[n]? with
    | some (.lst xs) => .ok (.lst xs) (S.take n0)
    | _ => .bad)
  | d => if d.clean = true then .ok d (S.take n0) else .bad) else .bad
/-- .. one cell that is handed back is a cell -/
def finK (n0 : Nat) (d : D) (S : Sto) : R D := if n0 ≤ S.length then (match d with
  | .loc n => if n < n0 then .bad else (match S[n]? with
    | some (.lst xs) => .ok (.loc n0) (S.take n0 ++ [.lst xs])
    | _ => .bad)
  | _ => .bad) else .bad
/-- .. all cells stay -/
def finW (_ : Nat) (d : D) (S : Sto) : R D := .ok d S
def finX (n0 : Nat) (k : Nat) (vs : List D) (S : Sto) : R D := if S.length = n0 then .exc k vs S else if n0 ≤ S.length ∧ D.cleanL vs = true then .exc k vs (S.take n0) else .bad
def mDef (fin : Nat → D → Sto → R D) (n : Nat) (m : MS) : MF := fun ds S => match m (ds.map some ++ List.replicate (n - ds.length) none) S with
  | .nx _ S' => fin S.length .non S'
  | .ret d S' => fin S.length d S'
  | .exc k vs _ S' => finX S.length k vs S'
  | _ => .bad
def spM (c : RC) (n : Nat) (f : MF) : Sp := fun vs H Q E => ∃ g Z S ds, SimH c g S Z H ∧ RepL c g ds vs ∧ ds.length = n ∧ Post c (Rep c) g Z (f ds S) Q E

section
variable {c : RC} {g g' : Wd} {S S' : Sto} {Z H : Hp}
mutual
theorem Rep.clean {G : Hp} {ι ι' : List Addr} : ∀ {d : D} {v : V}, d.clean = true → Rep c ⟨G, ι⟩ d v → Rep c ⟨G, ι'⟩ d v
  | .non, v, _, h => by simpa only [Rep] using h
  | .bl b, v, _, h => by simpa only [Rep] using h
  | .int i, v, _, h => by simpa only [Rep] using h
  | .str s, v, _, h => by simpa only [Rep] using h
  | .glb u, v, _, h => by simpa only [Rep] using h
  | .lst ds, v, hc, h => by
    rw [Rep] at h ⊢
    obtain ⟨a, vs, e, s, r⟩ := h
    exact ⟨a, vs, e, s, RepL.clean hc r⟩
  | .tup ds, v, hc, h => by
    rw [Rep] at h ⊢
    obtain ⟨a, vs, e, s, r⟩ := h
    exact ⟨a, vs, e, s, RepL.clean hc r⟩
  | .dic ks ds, v, hc, h => by
    rw [Rep] at h ⊢
    obtain ⟨a, kvs, e, s, q, r⟩ := h
    exact ⟨a, kvs, e, s, q, RepL.clean hc r⟩
  | .ins k ds, v, hc, h => by
    rw [Rep] at h ⊢
    obtain ⟨a, dx, fs, vs, e, s, q, r⟩ := h
    exact ⟨a, dx, fs, vs, e, s, q, RepL.clean hc r⟩
  | .exv k ds, v, hc, h => by
    rw [Rep] at h ⊢
    obtain ⟨a, dd, e, s, q⟩ := h
    refine ⟨a, dd, e, s, ?_⟩
    rcases q with q | ⟨d, fs, vs, e1, e2, e3, r⟩
    · exact .inl q
    · exact .inr ⟨d, fs, vs, e1, e2, e3, RepL.clean hc r⟩
  | .loc n, v, hc, h => by cases hc
theorem RepL.clean {G : Hp} {ι ι' : List Addr} : ∀ {ds : List D} {vs : List V}, D.cleanL ds = true → RepL c ⟨G, ι⟩ ds vs → RepL c ⟨G, ι'⟩ ds vs
  | [], vs, _, h => by simpa only [RepL] using h
  | d :: ds, vs, hc, h => by
    rw [D.cleanL, Bool.and_eq_true] at hc
    rw [RepL] at h ⊢
    obtain ⟨v, r, e, p, q⟩ := h
    exact ⟨v, r, e, Rep.clean hc.1 p, RepL.clean hc.2 q⟩
end
theorem CellRep.clean {G H : Hp} {ι ι' : List Addr} {a : Addr} : ∀ {o : O}, CellRep c ⟨G, ι⟩ H a o → CellRep c ⟨G, ι'⟩ H a o
  | .lst ds, ⟨h, vs, q, r⟩ => ⟨h, vs, q, RepL.clean h r⟩
  | .dic ks ds, ⟨h, kvs, q, z, r⟩ => ⟨h, kvs, q, z, RepL.clean h r⟩
  | .dct ks ds, ⟨h, kvs, q, z, r⟩ => ⟨h, kvs, q, z, RepL.clean h r⟩
  | .ins k ds, ⟨h, dx, fs, vs, q, z, r⟩ => ⟨h, dx, fs, vs, q, z, RepL.clean h r⟩
/-- the last cells are let go -/
theorem SimH.cut (s : SimH c g' S' Z H) (le : g.le g') {n : Nat} (hn : g.ι.length = n) (hS : n ≤ S'.length) : g.le ⟨g'.G, g.ι⟩ ∧ SimH c ⟨g'.G, g.ι⟩ (S'.take n) Z H := by
  obtain ⟨r, hr⟩ := le.i
  refine ⟨⟨le.g, List.prefix_rfl⟩, s.gk, s.zk, s.zg, ?_, ?_, fun m a o e1 e2 => ?_⟩
  · show g.ι.length = _
    rw [List.length_take, hn]
    omega
  · have nd := s.nd
    rw [← hr, List.nodup_append] at nd
    exact nd.1
  · have hm : m < n := by
      have := (List.getElem?_eq_some_iff.mp e1).1
      rw [← hn]
      exact this
    have e1' : g'.ι[m]? = some a := pre_get le.i e1
    rw [List.getElem?_take_of_lt hm] at e2
    obtain ⟨h1, h2, h3⟩ := s.cell m a o e1' e2
    exact ⟨h1, h2, CellRep.clean (ι := g'.ι) h3⟩
/-- a cell that was let go stands -/
theorem SimH.fix (s : SimH c g S Z H) {a : Addr} {o : HO} (ha : H a = some o) (hi : a ∉ g.ι) (hz : Z a = none) (hg : g.G a = none) : g.le ⟨upd g.G a o, g.ι⟩ ∧ SimH c ⟨upd g.G a o, g.ι⟩ S Z H := by
  have le : g.le ⟨upd g.G a o, g.ι⟩ := ⟨fun x u e => (upd_ne (ne_of_none e hg)).trans e, List.prefix_rfl⟩
  refine ⟨le, fun b u e => ?_, s.zk, fun b u e => ?_, s.len, s.nd, fun n b u e1 e2 => ?_⟩
  · by_cases hb : b = a
    · subst hb
      have e' : some o = some u := upd_same.symm.trans e
      cases e'
      exact .inl ha
    · exact s.gk b u (by rw [← e]; exact (upd_ne hb).symm)
  · have hb : b ≠ a := fun q => by
      rw [q, hz] at e
      cases e
    exact (upd_ne hb).trans (s.zg b u e)
  · obtain ⟨h1, h2, h3⟩ := s.cell n b u e1 e2
    have hb : b ≠ a := fun q => hi (q ▸ List.mem_of_getElem? e1)
    exact ⟨(upd_ne hb).trans h1, h2, h3.up le⟩
theorem fin_keep {d : D} {Q : VK} {E : XK} (hlen : g.ι.length = S.length) (q : Post c (Rep c) g Z (finD S.length d S') Q E) : ∀ g' v H, g.le g' → SimH c g' S' Z H → Rep c g' d v → Q v H := by
  intro g' v H le s r
  unfold finD at q
  split at q
  · exact q g' v H le s r
  · split at q
    · rename_i hS
      obtain ⟨le1, s1⟩ := s.cut le hlen hS
      have other : (if d.clean = true then R.ok d (S'.take S.length) else .bad) = R.ok d (S'.take S.length) → Post c (Rep c) g Z (R.ok d (S'.take S.length)) Q E → d.clean = true → Q v H := fun _ q hc => q _ _ _ le1 s1 (Rep.clean (ι := g'.ι) hc r)
      split at q
      · rename_i n
        split at q
        · rename_i hn
          refine q _ _ _ le1 s1 ?_
          rw [Rep] at r ⊢
          obtain ⟨a, rfl, e⟩ := r
          obtain ⟨rr, hr⟩ := le.i
          refine ⟨a, rfl, ?_⟩
          rw [← hr, List.getElem?_append_left (by omega)] at e
          exact e
        · rename_i hn
          split at q
          · rename_i xs hx
            rw [Rep] at r
            obtain ⟨a, rfl, e⟩ := r
            obtain ⟨h1, h2, hc, vs, hH, rs⟩ := s.cell n a _ e hx
            have na : a ∉ g.ι := fun h => by
              obtain ⟨m, hm, em⟩ := List.getElem_of_mem h
              have e2 : g'.ι[m]? = some a := pre_get le.i (by simp [hm, em])
              have := nodup_at s.nd e e2
              omega
            obtain ⟨le2, s2⟩ := s1.fix hH na h2 h1
            refine q _ _ _ (le1.trans le2) s2 ?_
            rw [Rep]
            exact ⟨a, vs, rfl, .inl (.inl upd_same), RepL.up le2 (RepL.clean (ι := g'.ι) hc rs)⟩
          · exact q.elim
      · split at q
        · rename_i hc
          exact q _ _ _ le1 s1 (Rep.clean (ι := g'.ι) hc r)
        · exact q.elim
    · exact q.elim
theorem fin_cell {d : D} {Q : VK} {E : XK} (hlen : g.ι.length = S.length) (q : Post c (Rep c) g Z (finK S.length d S') Q E) : ∀ g' v H, g.le g' → SimH c g' S' Z H → Rep c g' d v → Q v H := by
  intro g' v H le s r
  unfold finK at q
  split at q
  · rename_i hS
    obtain ⟨le1, s1⟩ := s.cut le hlen hS
    split at q
    · rename_i n
      split at q
      · exact q.elim
      · rename_i hn
        split at q
        · rename_i xs hx
          rw [Rep] at r
          obtain ⟨a, rfl, e⟩ := r
          obtain ⟨h1, h2, hc, vs, hH, rs⟩ := s.cell n a _ e hx
          have na : a ∉ g.ι := fun h => by
            obtain ⟨m, hm, em⟩ := List.getElem_of_mem h
            have e2 : g'.ι[m]? = some a := pre_get le.i (by simp [hm, em])
            have := nodup_at s.nd e e2
            omega
          have hl : S.length ≤ S'.length := hS
          have lt : (S'.take S.length).length = g.ι.length := by rw [List.length_take, hlen]; omega
          refine q ⟨g'.G, g.ι ++ [a]⟩ _ H ⟨le.g, ⟨[a], rfl⟩⟩ ⟨s1.gk, s1.zk, s1.zg, by simp [lt], ?_, fun m b o e1 e2 => ?_⟩ ?_
          · rw [List.nodup_append]
            exact ⟨s1.nd, by simp, fun x hx y hy => by simp at hy; subst hy; exact fun z => na (z ▸ hx)⟩
          · by_cases hm : m < g.ι.length
            · have e1' : g.ι[m]? = some b := by
                have : (g.ι ++ [a])[m]? = some b := e1
                rwa [List.getElem?_append_left hm] at this
              rw [List.getElem?_append_left (by rw [lt]; exact hm)] at e2
              obtain ⟨k1, k2, k3⟩ := s1.cell m b o e1' e2
              exact ⟨k1, k2, CellRep.clean (ι := g.ι) k3⟩
            · have e0 : m = g.ι.length := by
                have := (List.getElem?_eq_some_iff.mp e1).1
                simp at this
                omega
              subst e0
              have e1' : (g.ι ++ [a])[g.ι.length]? = some b := e1
              simp at e1'
              rw [← lt] at e2
              simp at e2
              subst e1' e2
              exact ⟨h1, h2, hc, vs, hH, RepL.clean (ι := g'.ι) hc rs⟩
          · rw [Rep]
            refine ⟨a, rfl, ?_⟩
            show (g.ι ++ [a])[S.length]? = some a
            rw [← hlen]
            simp
        · exact q.elim
    · exact q.elim
  · exact q.elim
theorem fin_whole {d : D} {Q : VK} {E : XK} (hlen : g.ι.length = S.length) (q : Post c (Rep c) g Z (finW S.length d S') Q E) : ∀ g' v H, g.le g' → SimH c g' S' Z H → Rep c g' d v → Q v H := q
theorem fin_exc {k : Nat} {vs : List D} {Q : VK} {E : XK} (hlen : g.ι.length = S.length) (q : Post c (Rep c) g Z (finX S.length k vs S') Q E) : ∀ g' dd H, g.le g' → SimH c g' S' Z H → XRep c g' H k vs dd → E (.ref (c.cl k)) dd H := by
  intro g' dd H le s r
  unfold finX at q
  split at q
  · exact q g' dd H le s r
  · split at q
    · rename_i hS
      obtain ⟨le1, s1⟩ := s.cut le hlen hS.1
      refine q _ dd H le1 s1 ?_
      rcases r with r | ⟨d, fs, ws, e1, e2, e3, r⟩
      · exact .inl r
      · exact .inr ⟨d, fs, ws, e1, e2, e3, RepL.clean (ι := g'.ι) hS.2 r⟩
    · exact q.elim
end
/-- what a way to hand back must do -/
abbrev FinD (c : RC) (fin : Nat → D → Sto → R D) : Prop := ∀ {g : Wd} {S S' : Sto} {Z : Hp} {d : D} {Q : VK} {E : XK}, g.ι.length = S.length → Post c (Rep c) g Z (fin S.length d S') Q E → ∀ g' v H, g.le g' → SimH c g' S' Z H → Rep c g' d v → Q v H
theorem slots_start {c : RC} {g : Wd} {N : List Str} : ∀ {ds : List D} {vs : List V}, RepL c g ds vs → Slots c g (ds.map some ++ List.replicate (N.length - ds.length) none) (start N vs) := fun {ds vs} r => by
  unfold L2.start
  have hl := r.length
  refine ⟨by simp [hl], fun i d e => ?_⟩
  by_cases hi : i < ds.length
  · rw [List.getElem?_append_left (by simpa using hi), List.getElem?_map] at e
    obtain ⟨d', h1, h2⟩ := Option.map_eq_some_iff.mp e
    cases h2
    obtain ⟨v, h3, h4⟩ := r.get h1
    refine ⟨v, ?_, h4⟩
    rw [List.getElem?_append_left (by simp [hl, hi]), List.getElem?_map, h3]
    rfl
  · rw [List.getElem?_append_right (by simpa using Nat.le_of_not_lt hi)] at e
    have := List.eq_of_mem_replicate (List.mem_of_getElem? e)
    cases this
/-- THE RULE for a def: its body's mirror is its promise -/
theorem def_ok {P : Program} {w : World} {K : PySem.W.Frag} {mg : Str → Option Value} {base : Heap} {k : Nat} {f : Addr} {x qual : Str} {params : Arguments} {body : List Stmt} {scope : Scope} {dvs : List V} {kws : List (Str × V)} {fd : FuncData} {N ps : List Str} {c : RC} {fin : Nat → D → Sto → R D} {m : MS}
    (hK : c.K = K) (F : FunD K x qual params body scope dvs kws f fd) (S : FnScope N ps scope) (hfin : FinD c fin)
    (hbody : ∀ (cdv : Value) (A : Around) (outer : List Env) (s : Shared) (H : Hp) (E : XK), Cf k (cxOf (L2.CX P w) P w K mg base N qual scope f cdv A outer s H E) c → CSs (cxOf (L2.CX P w) P w K mg base N qual scope f cdv A outer s H E) c (fun cls d _ H => E cls d H) body m) :
    FnG P w K mg base (k + 1) f fd ps (spM c ps.length (mDef fin N.length m)) := by
  refine fnG_body F S (fun vs H Q E h => ?_) fun cdv A outer s H vs Q E hg hr h => ?_
  · obtain ⟨g, Z, St, ds, _, r, hl, _⟩ := h
    rw [r.length, hl]
  · obtain ⟨g, Z, St, ds, sm, r, hl, q⟩ := h
    refine ⟨sM c (fun cls d _ H => E cls d H) m, hbody _ _ _ _ _ _ ⟨hK, hg, hr, rfl⟩, g, Z, _, St, sm, slots_start r, ?_⟩
    unfold mDef at q
    split at q
    · rename_i e
      rw [e]
      exact fun g' σ H' le s' sl => hfin sm.len q g' .non H' le s' Rep.non
    · rename_i e
      rw [e]
      exact fun g' v H' le s' rv => hfin sm.len q g' v H' le s' rv
    · rename_i e
      rw [e]
      exact fun g' dd σ H' le s' sl x => fin_exc sm.len q g' dd H' le s' x
    · exact q.elim

/-! ### calls -/
section
variable {X : Cx} {c : RC} {W : WX} {k n : Nat} {f C : Addr} {fd : FuncData} {ps : List Str} {fm : MF} {x : Str} {p pos : Pos} {e : Expr} {es : List Expr} {m : MA}
theorem run_G {sp : Sp} {pins : List (Addr × Obj)} {σ : L2.St} {H : Hp} {s : Shared} {Q : VK} {us : List Value} {vs : List V} {ds : List Value} {dvs : List V} (cf : Cf k X c) (tk : Takes X W) (F : FnG X.prog X.w X.K X.mg X.base k f fd ps sp) (hb : Binds X.K fd ps ds) (hd : Vals dvs ds)
    (I : Inv X pins σ H s) (r : Vals vs us) (h : sp (vs ++ dvs) H Q fun cls d H' => W cls d σ H') : wpAny (model X.prog X.w) X.A (call (.ref f) us) (EP X pins σ Q) X.xe s := by
  have r2 : Vals (vs ++ dvs) (us ++ ds) := r.append hd
  have hl : (us ++ ds).length = ps.length := by rw [← r2.length, F.len _ _ _ _ h]
  refine wpAny_call (codeAny_mono (F.run X.A X.stack s H ⟨us, []⟩ (us ++ ds) (vs ++ dvs) Q _ cf.gd cf.hr I.env0 (hb s us I.kIn hl) r2 h) ?_)
  rintro (err | (_ | _ | _ | u)) s' hq
  · exact passAt tk σ pins H s err s' I hq
  · exact hq.elim
  · exact hq.elim
  · exact hq.elim
  · exact I.after hq
theorem spM_of {g : Wd} {Z : Hp} {S : Sto} {H : Hp} {ds : List D} {vs : List V} {Q : VK} {E : XK} (s : SimH c g S Z H) (r : RepL c g ds vs) (hn : ds.length = n) (q : Post c (Rep c) g Z (fm ds S) Q E) : spM c n fm vs H Q E := ⟨g, Z, S, ds, s, r, hn, q⟩
/-- f(e, ..), all the parameters that have no default given -/
def cut (n : Nat) (fm : MF) (more : List D) : MF := fun ds S => if ds.length + more.length = n then fm (ds ++ more) S else .bad
theorem ce_call {ds : List Value} {dvs : List V} {more : List D} (cf : Cf k X c) (tk : Takes X W) (F : FnG X.prog X.w X.K X.mg X.base k f fd ps (spM c n fm)) (hm : X.mg x = some (.ref f)) (hk : PySem.W.keepIn X.K (.ref f) = true) (hb : Binds X.K fd ps ds) (hd : Vals dvs ds) (hmore : ∀ g, RepL c g more dvs)
    (ha : CA X c W (e :: es) m) (hg : Gl X x := by rfl) (hdb : (x == ("__debug__" : Str)) = false := by decide) (he : starEach (e :: es) X.env = (false, eval e X.env) :: starEach es X.env := by rfl) (hpl : (backTo pos (starEach es X.env)).any (·.1) = false := by rfl) :
    CE X c W (.Call (.Name x p) (e :: es) [] pos) (mCall (cut n fm more) m) := by
  refine ⟨fun pins s σ H Q I ⟨g, Z, δ, S, sm, sl, q⟩ => ?_⟩
  refine wpAny_Call_Name_kw (ld_glob I hg hm ?_ hdb)
  refine PySem.W.callWith_K (h₀ := X.base) I.ok.mod.kin hk (thn (ha.run pos pins s σ H _ I ⟨g, Z, δ, S, sm, sl, Post.bind (Q := fun vs H1 => spM c n fm (vs ++ dvs) H1 Q fun cls d H' => W cls d σ H') q fun ds S1 g1 vs H1 eS le1 s1 r1 q1 => ?_⟩) fun us s1 ⟨vs, H1, I1, r, q⟩ => ⟨I1.kIn, ?_⟩) he hpl
  · unfold cut at q1
    split at q1
    · rename_i hn
      exact spM_of s1 (r1.app (hmore g1)) (by rw [List.length_append]; exact hn) q1
    · exact q1.elim
  · exact run_G cf tk F hb hd I1 r q
theorem ce_call0 {ds : List Value} {dvs : List V} {more : List D} (cf : Cf k X c) (tk : Takes X W) (F : FnG X.prog X.w X.K X.mg X.base k f fd ps (spM c n fm)) (hm : X.mg x = some (.ref f)) (hk : PySem.W.keepIn X.K (.ref f) = true) (hb : Binds X.K fd ps ds) (hd : Vals dvs ds) (hmore : ∀ g, RepL c g more dvs)
    (hg : Gl X x := by rfl) (hdb : (x == ("__debug__" : Str)) = false := by decide) : CE X c W (.Call (.Name x p) [] [] pos) (mCall (cut n fm more) mNil) := by
  refine ⟨fun pins s σ H Q I ⟨g, Z, δ, S, sm, sl, q⟩ => ?_⟩
  refine wpAny_Call_Name_kw (ld_glob I hg hm ?_ hdb)
  refine PySem.W.callWith_K0 I.kIn hk (run_G (us := []) (vs := []) cf tk F hb hd I .nil ?_)
  have q' : Post c (Rep c) g Z (cut n fm more [] S) Q _ := q
  unfold cut at q'
  split at q'
  · rename_i hn
    exact spM_of sm (hmore g) (by simpa using hn) q'
  · exact q'.elim
/-- no default -/
theorem ce_callN (cf : Cf k X c) (tk : Takes X W) (F : FnG X.prog X.w X.K X.mg X.base k f fd ps (spM c n fm)) (hm : X.mg x = some (.ref f)) (hk : PySem.W.keepIn X.K (.ref f) = true) (hb : Binds X.K fd ps [])
    (ha : CA X c W (e :: es) m) (hg : Gl X x := by rfl) (hdb : (x == ("__debug__" : Str)) = false := by decide) (he : starEach (e :: es) X.env = (false, eval e X.env) :: starEach es X.env := by rfl) (hpl : (backTo pos (starEach es X.env)).any (·.1) = false := by rfl) :
    CE X c W (.Call (.Name x p) (e :: es) [] pos) (mCall (cut n fm []) m) := ce_call cf tk F hm hk hb .nil (fun _ => RepL.nil) ha hg hdb he hpl
end
end DL

end
section
/-! DL, part f: own errors of any base, made by an __init__ that stores its parameters; read, held as values. -/
namespace DL
open PySem PySem.Spec PyProof.Rows L2

/-- what the written part says of an error's class -/
structure ExF (K : PySem.W.Frag) (C : Addr) (B newId initId : String) (bmB : List Value) : Prop where
  FB : ExcBaseFacts B newId initId bmB
  SF : StoreFacts B bmB "object.__setattr__" "object"
  ini : PySem.W.excInitIn K C bmB newId = true
  ov : PySem.W.excOver K C bmB = true
  hd : PySem.W.hasDictIn K C = true
  sa : PySem.W.findIn K (.ref C) "__setattr__" = some (some (.builtin "object.__setattr__"))
  ga : PySem.W.findIn K (.ref C) "__getattribute__" = some (some (.builtin "BaseException.__getattribute__"))
  gg : PySem.W.findIn K (.ref C) "__getattr__" = some none
  exC : PySem.W.subIn K (.ref C) (.type "BaseException") = some true
  tyC : PySem.W.typeIn K (.ref C) = some (.type "type")
  kC : PySem.W.keepIn K (.ref C) = true

section
open Builtin Builtin.ObjectAttr
variable {prog : Program} {w : World} {A : Around} {R : Result → Shared → Prop} {hp : Heap} {g : Array GenState} {d : Drawn} {t : Nat} {os : OsState} {K : PySem.W.Frag} {C : Addr} {B newId initId : String} {bmB : List Value}
theorem hasDict_of (h : PySem.W.hasDictIn K C = true) : ∃ cd, PySem.W.clsIn K C = some cd ∧ cd.hasDict = true := by
  unfold PySem.W.hasDictIn at h
  cases e : PySem.W.clsIn K C with
  | none => rw [e] at h; cases h
  | some cd => rw [e] at h; exact ⟨cd, rfl, h⟩
/-- x.name = v, the first attribute of an error -/
theorem sets_first (T : ExF K C B newId initId bmB) {name : Str} {tk : Tok} {v : Value} {x : Addr} {fv : Array Value} (X : K.In hp) (hx : hp.get? x = some { cls := .ref C, data := .fields fv }) (no : PySem.W.takerIn K C name = some none)
    (fin : ∀ h' tk' dx, (∀ b o, b ≠ x → hp.get? b = some o → h'.get? b = some o) → hp.objs.size ≤ dx → dx ≠ x → h'.get? x = some { cls := .ref C, dict := some dx, data := .fields fv } → h'.Ns1 dx (fun y => if y = name then some v else none) → R (.ok (.ret .none)) ⟨h', g, d, tk', os⟩) :
    codeAny (model prog w) A (.call (.builtin "object.__setattr__") ⟨[.ref x, .str name tk, v], []⟩) R ⟨hp, g, d, t, os⟩ := by
  have inst : PySem.W.InstAt hp x { cls := .ref C, data := .fields fv } C none := ⟨hx, rfl, rfl, trivial⟩
  refine PySem.W.osa_openX T.SF X inst T.ov no fun b => ?_
  obtain ⟨cd, hcd, hdi⟩ := hasDict_of T.hd
  have away : hp.objs.size ≠ x := Ne.symm (Nat.ne_of_lt (Heap.lt_size hx))
  have lk := PySem.W.looks_clsIn (M := model prog w) X hcd
  obtain ⟨nm, bs, mro, ns, qn, hd, sn, sb, ab, col, del⟩ := cd
  obtain rfl : hd = true := hdi
  show wpAny _ _ (storeInOwnDict (.ref x) (.ref C) (.str name tk) name v b) _ _ _
  unfold storeInOwnDict ownDictForStores
  repeat (first | with_reducible refine PySem.HandSPX.store_in_new ?_ ?_ | with_reducible refine wpAny_loadPart_at hx ?_ | with_reducible refine lk.at ?_ | wp_step)
  · exact ⟨_, #[], _, (Heap.get?_update_ne _ _ _ _ away).trans (Heap.get?_push_at rfl rfl), rfl, fun e he => absurd he (by simp), fun _ => rfl⟩
  · intro h2 tk2 hn2 same
    refine fin h2 tk2 hp.objs.size (fun c o hc ho => ?_) (Nat.le_refl _) away ?_ hn2
    · refine (same.2 c (Nat.ne_of_lt (Heap.lt_size ho))).trans ?_
      rw [Heap.get?_update_ne _ _ _ _ hc]
      exact Heap.get?_push_of_some _ ho
    · refine (same.2 x away.symm).trans ?_
      exact Heap.get?_update_self _ (Heap.get?_push_of_some _ hx) rfl
/-- a further one -/
theorem sets_next (T : ExF K C B newId initId bmB) {name : Str} {tk : Tok} {v : Value} {x dx : Addr} {fv : Array Value} {m0 : Str → Option Value} {nl : List Str} (X : K.In hp) (hx : hp.get? x = some { cls := .ref C, dict := some dx, data := .fields fv }) (hns : hp.Ns1 dx m0) (hw : Within m0 nl)
    (few : nl.length ≤ 1000) (no : PySem.W.takerIn K C name = some none)
    (fin : ∀ h' tk', (∀ b o, b ≠ dx → hp.get? b = some o → h'.get? b = some o) → h'.Ns1 dx (fun y => if y = name then some v else m0 y) → R (.ok (.ret .none)) ⟨h', g, d, tk', os⟩) :
    codeAny (model prog w) A (.call (.builtin "object.__setattr__") ⟨[.ref x, .str name tk, v], []⟩) R ⟨hp, g, d, t, os⟩ := by
  obtain ⟨oD, _, _, hoD, _, _⟩ := hns.count hw
  have inst : PySem.W.InstAt hp x { cls := .ref C, dict := some dx, data := .fields fv } C (some oD) := ⟨hx, rfl, rfl, hoD⟩
  refine PySem.W.osa_openX T.SF X inst T.ov no fun b => ?_
  obtain ⟨cd, hcd, hdi⟩ := hasDict_of T.hd
  have lk := PySem.W.looks_clsIn (M := model prog w) X hcd
  obtain ⟨nm, bs, mro, ns, qn, hd, sn, sb, ab, col, del⟩ := cd
  obtain rfl : hd = true := hdi
  show wpAny _ _ (storeInOwnDict (.ref x) (.ref C) (.str name tk) name v b) _ _ _
  unfold storeInOwnDict ownDictForStores
  repeat (first | with_reducible refine PySem.OEX.store_in_old hns hw few ?_ | with_reducible refine wpAny_loadPart_at hx ?_ | with_reducible refine lk.at ?_ | wp_step)
  intro h2 tk2 hn2 same
  exact fin h2 tk2 (fun c o hc ho => (same.2 c hc).trans ho) hn2
end

section
variable {X : Cx} {pins : List (Addr × Obj)} {σ : L2.St} {H : Hp} {s : Shared} {a C dx : Addr} {f : Str} {y : V} {u : Value} {fs : List (Str × V)} {Q : Unit → Shared → Prop} {E : Value → Shared → Prop} {A : Around} {B newId initId : String} {bmB : List Value}
/-- what is beside an error under way, when it gets its dict -/
theorem kept_beside {P : Program} {w : World} {hp h' : Heap} (ok : HOk P w H hp) (e : H a = some (exo a C none)) (hnd : H dx = none) (k : ∀ b o, b ≠ a → hp.get? b = some o → h'.get? b = some o) (ea : ObjOk P w (upd (upd H dx (exd dx fs)) a (exo a C (some dx))) h' a (exo a C (some dx)))
    (ed : ObjOk P w (upd (upd H dx (exd dx fs)) a (exo a C (some dx))) h' dx (exd dx fs)) : HOk P w (upd (upd H dx (exd dx fs)) a (exo a C (some dx))) h' := by
  intro b o q
  by_cases hb : b = a
  · subst hb
    rw [upd_same] at q
    cases q
    exact ea
  · by_cases hd : b = dx
    · subst hd
      rw [upd_ne hb, upd_same] at q
      cases q
      exact ed
    · rw [upd_ne hb, upd_ne hd] at q
      refine (ok b o q).stay (fun c v hc z => ?_) (fun c hc => ?_) fun c xs hc => ?_
      · refine k c v ?_ z
        rcases hc with rfl | hc
        · exact hb
        · exact at_ne e hc exo_own
      · rw [upd_ne (at_ne e hc exo_own), upd_ne (ne_of_none hc hnd)]
        exact hc
      · rw [upd_ne (at_ne e hc exo_tup), upd_ne (ne_of_none hc hnd)]
        exact hc
theorem ost_first (T : ExF X.K C B newId initId bmB) (I : Inv X pins σ H s) (e : H a = some (exo a C none)) (no : NoAttr X.K C f) (ry : RelV y u)
    (h : ∀ dx s', H dx = none → dx ≠ a → Inv X pins σ (upd (upd H dx (exd dx [(f, y)])) a (exo a C (some dx))) s' → Q () s') : wpAny (model X.prog X.w) A (setAttr (.ref a) f u) Q E s := by
  obtain ⟨t1, ho⟩ := exo_at I.hok e
  obtain ⟨hp, g, d, t, os⟩ := s
  have inst : PySem.W.InstAt hp a { cls := .ref C, data := .fields #[.ref t1, .none, .none, .none, .bool false, .none] } C none := ⟨ho, rfl, rfl, trivial⟩
  refine PySem.W.set_plain I.kIn inst T.sa (sets_first T I.kIn ho no.taker fun h' tk' dx k dn dne hx hn => ?_)
  have hnd : H dx = none := I.hok.fresh dn
  have old : ∀ {b : Addr} {o : Obj}, hp.get? b = some o → b ≠ dx := fun z q => by
    have := Heap.lt_size z
    rw [q] at this
    exact absurd (Nat.lt_of_lt_of_le this dn) (Nat.lt_irrefl _)
  have na : ∀ {b : Addr}, H b = none → b ≠ a := fun n z => by rw [z, e] at n; cases n
  refine h dx _ hnd dne (I.un (t' := tk') ?_ (kept_beside I.hok e hnd k (exo_ok hx) (exd_ok hn (relO_put (fs := []) ry fun g => True.intro))))
  refine ⟨fun b o q n _ _ => k b o (na n) q, fun b o q n _ _ => ⟨o.slots, k b o (na n) q⟩, fun b o q n _ => ?_, fun b o q _ => ?_, fun b xs q => ?_, fun b o v q => ?_, fun b ps q => ⟨#[], ?_⟩⟩
  · rw [upd_ne (na n), upd_ne (old q)]
    exact n
  · by_cases hb : b = a
    · exact ⟨_, hb ▸ hx⟩
    · exact ⟨o, k b o hb q⟩
  · rw [upd_ne (at_ne e q exo_tup), upd_ne (ne_of_none q hnd)]
    exact q
  · rw [upd_ne (at_ne e q exo_frz), upd_ne (ne_of_none q hnd)]
    exact q
  · rw [upd_ne (at_ne e q exo_tbl), upd_ne (ne_of_none q hnd), q]
    simp
theorem ost_next (T : ExF X.K C B newId initId bmB) (I : Inv X pins σ H s) (e : H a = some (exo a C (some dx))) (ed : H dx = some (exd dx fs)) (hl : fs.length ≤ 900) (no : NoAttr X.K C f) (ry : RelV y u)
    (h : ∀ s', Inv X pins σ (upd H dx (exd dx ((f, y) :: fs))) s' → Q () s') : wpAny (model X.prog X.w) A (setAttr (.ref a) f u) Q E s := by
  obtain ⟨t1, ho⟩ := exo_at I.hok e
  obtain ⟨mA, hns, rel⟩ := exd_at I.hok ed
  obtain ⟨hp, g, d, t, os⟩ := s
  have hw := within_of rel
  have few : (fs.map (·.1)).length ≤ 1000 := by rw [List.length_map]; omega
  obtain ⟨oD, _, _, hoD, _, _⟩ := hns.count hw
  have inst : PySem.W.InstAt hp a { cls := .ref C, dict := some dx, data := .fields #[.ref t1, .none, .none, .none, .bool false, .none] } C (some oD) := ⟨ho, rfl, rfl, hoD⟩
  refine PySem.W.set_plain I.kIn inst T.sa (sets_next T I.kIn ho hns hw few no.taker fun h' tk' k hn => ?_)
  have there : ∃ o, h'.get? dx = some o := by
    obtain ⟨o, _, _, e', _⟩ := hn
    exact ⟨o, e'⟩
  exact h _ (I.write (t' := tk') (x := dx) (e := dx) (o := exd dx ((f, y) :: fs)) (by rw [ed]; exact True.intro) (.inl rfl) k there (exd_ok hn (relO_put ry rel)))
end

/-! ### the __init__ of an error: self.f = f, once to thrice -/
/-- the promise -/
def spX (c : RC) (k n : Nat) : Sp := fun vs H Q _ => ∃ a ws, vs = .ref a :: ws ∧ ws.length = n ∧ H a = some (exo a (c.cl k) none) ∧ ∀ d fs, H d = none → d ≠ a → Att (c.fl k) ws fs → Q .non (upd (upd H d (exd d fs)) a (exo a (c.cl k) (some d)))
def tFst (K : PySem.W.Frag) (f : Str) (to te : TE) : TS := fun Dn σ H => te σ H fun y H1 => to σ H1 fun x H2 => ∃ (a C : Addr) (B newId initId : String) (bmB : List Value), x = .ref a ∧ ExF K C B newId initId bmB ∧ NoAttr K C f ∧
  ((H2 a = some (exo a C none) ∧ ∀ dx, H2 dx = none → dx ≠ a → Dn.nx σ (upd (upd H2 dx (exd dx [(f, y)])) a (exo a C (some dx)))) ∨
    ∃ (dx : Addr) (fs : List (Str × V)), H2 a = some (exo a C (some dx)) ∧ H2 dx = some (exd dx fs) ∧ fs.length ≤ 900 ∧ Dn.nx σ (upd H2 dx (exd dx ((f, y) :: fs))))
theorem ps_fst {X : Cx} {o e : Expr} {to te : TE} {f : Str} {p' pos : Pos} (ho : PE X o to) (he : PE X e te) (hs : swapsWith e (some (.Attribute o f p')) pos.line X.env = pure false := by rfl) : PS X (.Assign [.Attribute o f p'] e pos) (tFst X.K f to te) := by
  refine ⟨fun pins s σ H Dn I h => plainObj_wpAny_Assign_Attribute (thn (he.run pins s σ H _ I h) fun v s1 ⟨y, H1, I1, r1, q1⟩ => thn (ho.run pins s1 σ H1 _ I1 q1) fun u s2 ⟨x, H2, I2, r2, a, C, B, ni, ii, bm, ex, T, hno, q⟩ => ?_) hs⟩
  subst ex
  obtain rfl : u = Value.ref a := r2
  rcases q with ⟨ea, q⟩ | ⟨dx, fs, ea, ed, hl, q⟩
  · exact ost_first T I2 ea hno r1 fun dx s' n ne J => ⟨σ, _, J, q dx n ne⟩
  · exact ost_next T I2 ea ed hl hno r1 fun s' J => ⟨σ, _, J, q⟩
/-- what one error's class brings -/
structure ErrF (c : RC) (k : Nat) : Prop where
  ex : ∃ B newId initId bmB, ExF c.K (c.cl k) B newId initId bmB
  no : ∀ f ∈ c.fl k, NoAttr c.K (c.cl k) f
  nd : (c.fl k).Nodup
theorem upd_comm {H : Hp} {a b : Addr} {o u : HO} (h : a ≠ b) : upd (upd H a o) b u = upd (upd H b u) a o := by
  funext x
  unfold upd
  by_cases h1 : x = a
  · have : ¬ x = b := fun z => h (h1.symm.trans z)
    simp [h1, h]
  · by_cases h2 : x = b
    · simp [h2, Ne.symm h]
    · simp [h1, h2]
theorem lkc {f g : Str} {v : V} {fs : List (Str × V)} : ((f, v) :: fs).lookup g = if g = f then some v else fs.lookup g := by
  by_cases h : g = f
  · subst h
    simp [List.lookup]
  · have : (g == f) = false := by simpa using h
    simp [List.lookup, this, h]
theorem att1 {f : Str} {v : V} : Att [f] [v] [(f, v)] := ⟨fun i u e => by
  match i, e with
  | 0, e => cases e; exact ⟨f, rfl, by rw [lkc, if_pos rfl]⟩, fun g h => by
  have : g ≠ f := by simpa using h
  rw [lkc, if_neg this]; rfl, Nat.le_refl _⟩
theorem att2 {f1 f2 : Str} {v1 v2 : V} (h : f1 ≠ f2) : Att [f1, f2] [v1, v2] [(f2, v2), (f1, v1)] := ⟨fun i u e => by
  match i, e with
  | 0, e => cases e; exact ⟨f1, rfl, by rw [lkc, if_neg h, lkc, if_pos rfl]⟩
  | 1, e => cases e; exact ⟨f2, rfl, by rw [lkc, if_pos rfl]⟩, fun g h => by
  have : g ≠ f1 ∧ g ≠ f2 := by simpa using h
  rw [lkc, if_neg this.2, lkc, if_neg this.1]; rfl, Nat.le_refl _⟩
theorem att3 {f1 f2 f3 : Str} {v1 v2 v3 : V} (h : f1 ≠ f2) (h' : f1 ≠ f3) (h'' : f2 ≠ f3) : Att [f1, f2, f3] [v1, v2, v3] [(f3, v3), (f2, v2), (f1, v1)] := ⟨fun i u e => by
  match i, e with
  | 0, e => cases e; exact ⟨f1, rfl, by rw [lkc, if_neg h', lkc, if_neg h, lkc, if_pos rfl]⟩
  | 1, e => cases e; exact ⟨f2, rfl, by rw [lkc, if_neg h'', lkc, if_pos rfl]⟩
  | 2, e => cases e; exact ⟨f3, rfl, by rw [lkc, if_pos rfl]⟩, fun g h => by
  have : g ≠ f1 ∧ g ≠ f2 ∧ g ≠ f3 := by simpa using h
  rw [lkc, if_neg this.2.2, lkc, if_neg this.2.1, lkc, if_neg this.1]; rfl, Nat.le_refl _⟩
section
variable {P : Program} {w : World} {K : PySem.W.Frag} {mg : Str → Option Value} {base : Heap} {c : RC} {k : Nat} {f : Addr} {fd : FuncData} {x qual : Str} {params : Arguments} {scope : Scope} {dvs : List V} {kws : List (Str × V)}
theorem init1 {body : List Stmt} {p1 : Str} (hK : c.K = K) (F : FunD K x qual params body scope dvs kws f fd) (S : FnScope ["self", p1] ["self", p1] scope) (T : ErrF c k) (hf : c.fl k = [p1])
    (hb : ∀ X : Cx, X.N = (["self", p1] : List Str) → X.env.scope = scope → PSs X body (tFst X.K p1 (tVar 0) (tVar 1))) : FnG P w K mg base 1 f fd ["self", p1] (spX c k 1) := by
  refine fnG_body F S (fun vs H Q E h => ?_) fun cdv A outer s H vs Q E hg hr h => ⟨_, hb _ rfl rfl, ?_⟩
  · obtain ⟨a, ws, rfl, hl, _⟩ := h
    simp [hl]
  · obtain ⟨a, ws, rfl, hl, ha, q⟩ := h
    match ws, hl with
    | [v], _ =>
      obtain ⟨B, ni, ii, bm, ex⟩ := T.ex
      subst hK
      refine ⟨v, rfl, _, rfl, a, _, B, ni, ii, bm, rfl, ex, T.no p1 (by rw [hf]; exact List.mem_cons_self), .inl ⟨ha, fun dx hn hne => q dx _ hn hne (by rw [hf]; exact att1)⟩⟩
theorem init2 {body : List Stmt} {p1 p2 : Str} (hK : c.K = K) (F : FunD K x qual params body scope dvs kws f fd) (S : FnScope ["self", p1, p2] ["self", p1, p2] scope) (T : ErrF c k) (hf : c.fl k = [p1, p2])
    (hb : ∀ X : Cx, X.N = (["self", p1, p2] : List Str) → X.env.scope = scope → PSs X body (tSeq (tFst X.K p1 (tVar 0) (tVar 1)) (tFst X.K p2 (tVar 0) (tVar 2)))) : FnG P w K mg base 1 f fd ["self", p1, p2] (spX c k 2) := by
  refine fnG_body F S (fun vs H Q E h => ?_) fun cdv A outer s H vs Q E hg hr h => ⟨_, hb _ rfl rfl, ?_⟩
  · obtain ⟨a, ws, rfl, hl, _⟩ := h
    simp [hl]
  · obtain ⟨a, ws, rfl, hl, ha, q⟩ := h
    match ws, hl with
    | [v, v2], _ =>
      obtain ⟨B, ni, ii, bm, ex⟩ := T.ex
      subst hK
      have nd := T.nd
      rw [hf] at nd
      have hne12 : p1 ≠ p2 := by
        intro z
        rw [z] at nd
        simp at nd
      refine ⟨v, rfl, _, rfl, a, _, B, ni, ii, bm, rfl, ex, T.no p1 (by rw [hf]; exact List.mem_cons_self), .inl ⟨ha, fun dx hn hne => ?_⟩⟩
      refine ⟨v2, rfl, _, rfl, a, _, B, ni, ii, bm, rfl, ex, T.no p2 (by rw [hf]; simp), .inr ⟨dx, _, upd_same, (by rw [upd_ne hne, upd_same]), by simp, ?_⟩⟩
      have q2 := q dx [(p2, v2), (p1, v)] hn hne (by rw [hf]; exact att2 hne12)
      rw [upd_comm (Ne.symm hne), upd_upd]
      exact q2
theorem init3 {body : List Stmt} {p1 p2 p3 : Str} (hK : c.K = K) (F : FunD K x qual params body scope dvs kws f fd) (S : FnScope ["self", p1, p2, p3] ["self", p1, p2, p3] scope) (T : ErrF c k) (hf : c.fl k = [p1, p2, p3])
    (hb : ∀ X : Cx, X.N = (["self", p1, p2, p3] : List Str) → X.env.scope = scope → PSs X body (tSeq (tFst X.K p1 (tVar 0) (tVar 1)) (tSeq (tFst X.K p2 (tVar 0) (tVar 2)) (tFst X.K p3 (tVar 0) (tVar 3))))) : FnG P w K mg base 1 f fd ["self", p1, p2, p3] (spX c k 3) := by
  refine fnG_body F S (fun vs H Q E h => ?_) fun cdv A outer s H vs Q E hg hr h => ⟨_, hb _ rfl rfl, ?_⟩
  · obtain ⟨a, ws, rfl, hl, _⟩ := h
    simp [hl]
  · obtain ⟨a, ws, rfl, hl, ha, q⟩ := h
    match ws, hl with
    | [v, v2, v3], _ =>
      obtain ⟨B, ni, ii, bm, ex⟩ := T.ex
      subst hK
      have nd := T.nd
      rw [hf] at nd
      have hne : p1 ≠ p2 ∧ p1 ≠ p3 ∧ p2 ≠ p3 := by
        simp only [List.nodup_cons, List.mem_cons, List.not_mem_nil, or_false, not_or] at nd
        exact ⟨nd.1.1, nd.1.2, nd.2.1⟩
      refine ⟨v, rfl, _, rfl, a, _, B, ni, ii, bm, rfl, ex, T.no p1 (by rw [hf]; exact List.mem_cons_self), .inl ⟨ha, fun dx hn hda => ?_⟩⟩
      refine ⟨v2, rfl, _, rfl, a, _, B, ni, ii, bm, rfl, ex, T.no p2 (by rw [hf]; simp), .inr ⟨dx, _, upd_same, (by rw [upd_ne hda, upd_same]), by simp, ?_⟩⟩
      refine ⟨v3, rfl, _, rfl, a, _, B, ni, ii, bm, rfl, ex, T.no p3 (by rw [hf]; simp), .inr ⟨dx, _, (by rw [upd_ne (Ne.symm hda), upd_same]), upd_same, by simp, ?_⟩⟩
      have q2 := q dx [(p3, v3), (p2, v2), (p1, v)] hn hda (by rw [hf]; exact att3 hne.1 hne.2.1 hne.2.2)
      rw [upd_upd, upd_comm (Ne.symm hda), upd_upd]
      exact q2
end
end DL

end
section
/-! DL, part g: own errors as values, their attributes, isinstance; repr; displays of dicts. -/
namespace DL
open PySem PySem.Spec PyProof.Rows L2

section
variable {X : Cx} {pins : List (Addr × Obj)} {σ : L2.St} {H : Hp} {s : Shared} {h' : Heap}
/-- a new thing at a place that was empty -/
theorem laid_at {a : Addr} {o : HO} {t' : Nat} (I : Inv X pins σ H s) (k : ∀ b u, s.heap.get? b = some u → h'.get? b = some u) (hn : s.heap.get? a = none) (new : ObjOk X.prog X.w (upd H a o) h' a o) : Inv X pins σ (upd H a o) { s with heap := h', toks := t' } := by
  have hna : H a = none := I.hok.gone hn
  have off : ∀ {b : Addr} {u : Obj}, s.heap.get? b = some u → b ≠ a := fun q z => by
    rw [z, hn] at q
    cases q
  refine I.un ⟨fun b u q _ _ _ => k b u q, fun b u q _ _ _ => ⟨u.slots, k b u q⟩, fun b u q n _ => ?_, fun b u q _ => ⟨u, k b u q⟩, fun b xs q => ?_, fun b u v q => ?_, fun b ps q => ⟨#[], ?_⟩⟩ fun b u q => ?_
  · rw [upd_ne (off q)]
    exact n
  · rw [upd_ne (ne_of_none q hna)]
    exact q
  · rw [upd_ne (ne_of_none q hna)]
    exact q
  · rw [upd_ne (ne_of_none q hna), q]
    simp
  · by_cases hb : b = a
    · subst hb
      rw [upd_same] at q
      cases q
      exact new
    · rw [upd_ne hb] at q
      refine (I.hok b u q).stay (fun c v hc z => k c v z) (fun c hc => ?_) fun c xs hc => ?_
      · rw [upd_ne (ne_of_none hc hna)]
        exact hc
      · rw [upd_ne (ne_of_none hc hna)]
        exact hc
end

/-! ### making an error -/
def fExc (k n : Nat) (xs : List D) (S : Sto) : R D := if xs.length = n ∧ n ≤ 1000 then .ok (.exv k xs) S else .bad
section
variable {X : Cx} {c : RC} {W : WX} {k n j : Nat} {x : Str} {p pos : Pos} {e : Expr} {es : List Expr} {m : MA}
/-- what stands for making an error of class k from n things -/
structure ErrM (P : Program) (w : World) (K : PySem.W.Frag) (mg : Str → Option Value) (base : Heap) (c : RC) (j k n : Nat) : Prop where
  T : ErrF c k
  kC : PySem.W.keepIn K (.ref (c.cl k)) = true
  mi : ∃ fI fd ps, PySem.W.findIn K (.ref (c.cl k)) "__init__" = some (some (.ref fI)) ∧ PySem.W.typeIn K (.ref fI) = some (.type "function") ∧ FnG P w K mg base j fI fd ps (spX c k n) ∧ Binds K fd ps []
theorem guards_make {A : Around} {C : Addr} {us : List Value} (h : A.guards = some []) : (A.under (.builtin "type.__call__" ⟨.ref C :: us, []⟩)).guards = some [] := by
  have hg : (Code.builtin "type.__call__" ⟨.ref C :: us, []⟩).isGuard = false := by
    show guardIds.contains "type.__call__" = false
    decide +kernel
  simp [Around.under, Code.guards, hg, pushGuards, h]
theorem exv_rep {g : Wd} {S : Sto} {Z H1 : Hp} {ds : List D} {vs : List V} {a d : Addr} {fs : List (Str × V)} {Q : VK} {E : XK} (s1 : SimH c g S Z H1) (r1 : RepL c g ds vs) (ha : H1 a = none) (hd : H1 d = none) (hda : d ≠ a) (at_ : Att (c.fl k) vs fs)
    (q : Post c (Rep c) g Z (.ok (.exv k ds) S) Q E) : Q (.ref a) (upd (upd H1 d (exd d fs)) a (exo a (c.cl k) (some d))) := by
  obtain ⟨le2, s2⟩ := s1.new hd (exd d fs)
  have ha2 : upd H1 d (exd d fs) a = none := by
    rw [upd_ne (Ne.symm hda)]
    exact ha
  obtain ⟨le3, s3⟩ := s2.new ha2 (exo a (c.cl k) (some d))
  refine q _ _ _ (le2.trans le3) s3 ?_
  rw [Rep]
  refine ⟨a, some d, rfl, upd_same, .inr ⟨d, fs, vs, rfl, ?_, at_, RepL.up (le2.trans le3) r1⟩⟩
  show upd (upd g.G d (exd d fs)) a _ d = _
  rw [upd_ne hda, upd_same]
theorem ce_exc (cf : Cf (j + 1) X c) (tk : Takes X W) (M : ErrM X.prog X.w X.K X.mg X.base c j k n) (hm : X.mg x = some (.ref (c.cl k))) (ha : CA X c W (e :: es) m)
    (hg : Gl X x := by rfl) (hdb : (x == ("__debug__" : Str)) = false := by decide) (he : starEach (e :: es) X.env = (false, eval e X.env) :: starEach es X.env := by rfl) (hpl : (backTo pos (starEach es X.env)).any (·.1) = false := by rfl) :
    CE X c W (.Call (.Name x p) (e :: es) [] pos) (mCall (fExc k n) m) := by
  obtain ⟨fI, fd, ps, iC, tI, F1, hb⟩ := M.mi
  obtain ⟨B, newId, initId, bmB, T⟩ := M.T.ex
  refine ⟨fun pins s σ H Q I ⟨g, Z, δ, S, sm, sl, q⟩ => ?_⟩
  refine wpAny_Call_Name_kw (ld_glob I hg hm ?_ hdb)
  refine PySem.W.callWith_K (h₀ := X.base) I.ok.mod.kin M.kC (thn (ha.run pos pins s σ H _ I ⟨g, Z, δ, S, sm, sl, Post.bind (Q := fun vs H1 => ∃ g1 S1 ds, SimH c g1 S1 Z H1 ∧ RepL c g1 ds vs ∧ ds.length = n ∧ n ≤ 1000 ∧ Post c (Rep c) g1 Z (.ok (.exv k ds) S1) Q fun cls d H' => W cls d σ H') q fun ds S1 g1 vs H1 eS le1 s1 r1 q1 => ?_⟩) fun us s1 hx => ?_) he hpl
  · unfold fExc at q1
    split at q1
    · rename_i hz
      exact ⟨g1, S1, ds, s1, r1, hz.1, hz.2, q1⟩
    · exact q1.elim
  obtain ⟨vs, H1, I1, r1, g1, S1, ds, s1', rp, hn, hz, q1⟩ := hx
  refine ⟨I1.kIn, ?_⟩
  show wpAny _ _ (call (.ref (c.cl k)) us) _ _ _
  have kk0 : c.K = X.K := cf.kk
  obtain ⟨nm, N', qn, bs, bm, hdct, sn, sub, ab, col, dd, k0, k1, k2, k3, k5, hC, hT⟩ := PySem.W.excInit_of I1.kIn (by rw [← kk0]; exact T.ini)
  obtain ⟨hp, gs, dr, tok, os⟩ := s1
  have hsz : hp.objs.size ≤ hp.objs.size + 1 := Nat.le_succ _
  have hna : H1 (hp.objs.size + 1) = none := I1.hok.fresh hsz
  have lvs : vs.length = n := by rw [rp.length, hn]
  have lus : us.length = n := by rw [← Paired.length r1, lvs]
  have I2 : Inv X pins σ (upd H1 (hp.objs.size + 1) (exo (hp.objs.size + 1) (c.cl k) none)) ⟨(hp.push (PySem.W.kdv_tup us)).push (PySem.HandSPX.excO (c.cl k) hp.objs.size), gs, dr, tok, os⟩ :=
    I1.laid (t' := tok) (a := hp.objs.size + 1) (o := exo (hp.objs.size + 1) (c.cl k) none) (h' := (hp.push (PySem.W.kdv_tup us)).push (PySem.HandSPX.excO (c.cl k) hp.objs.size)) (fun b o e => Heap.get?_push_of_some _ (Heap.get?_push_of_some _ e)) hsz (exo_ok (t1 := hp.objs.size) (by heap_get))
  have sp1 : spX c k n (V.ref (hp.objs.size + 1) :: vs) (upd H1 (hp.objs.size + 1) (exo (hp.objs.size + 1) (c.cl k) none)) (fun v H2 => v = .non ∧ Q (.ref (hp.objs.size + 1)) H2) (fun cls d H' => W cls d σ H') := by
    refine ⟨_, vs, rfl, lvs, upd_same, fun d fs hd hda at_ => ⟨rfl, ?_⟩⟩
    rw [upd_ne hda] at hd
    rw [upd_comm (Ne.symm hda), upd_upd]
    exact exv_rep s1' rp hna hd hda at_ q1
  have lps : (Value.ref (hp.objs.size + 1) :: us).length = ps.length := by
    have e1 := F1.len _ _ _ _ sp1
    rw [List.length_cons, lvs] at e1
    rw [List.length_cons, lus, e1]
  have hus : us.length ≤ sizeLine := by
    rw [lus, sizeLine_eq]
    omega
  refine wpAny_call (PySem.HandSPX.call_own T.FB hT hC (PySem.W.looks_findIn I1.kIn iC) (fun self => PySem.W.bind_fn I1.kIn self tI) hus
    (codeAny_mono (F1.run _ X.stack _ _ ⟨Value.ref (hp.objs.size + 1) :: us, []⟩ (Value.ref (hp.objs.size + 1) :: us) (V.ref (hp.objs.size + 1) :: vs) _ _ (guards_make cf.gd) (cf.hr.make (c.cl k) us []) (I2.env0.make (c.cl k) us []) ?_ (Paired.cons (show RelV (V.ref (hp.objs.size + 1)) (Value.ref (hp.objs.size + 1)) from rfl) r1) sp1) fun r s' hq => ?_))
  · have := hb ⟨(hp.push (PySem.W.kdv_tup us)).push (PySem.HandSPX.excO (c.cl k) hp.objs.size), gs, dr, tok, os⟩ (Value.ref (hp.objs.size + 1) :: us) I2.kIn (by simpa using lps)
    simpa using this
  · rcases r with err | (_ | _ | _ | u)
    · exact passAt tk σ pins _ _ err s' I2 hq
    · exact hq.elim
    · exact hq.elim
    · exact hq.elim
    · obtain ⟨v, H', J, rv, ev, q2⟩ := I2.after hq
      subst ev
      exact ⟨rv, .ref (hp.objs.size + 1), H', J, rfl, q2⟩
/-- an error of a class without an __init__, made of nothing -/
theorem ce_exc0 {B newId initId : String} {bmB : List Value} (cf : Cf j X c) (F : ExcBaseFacts B newId initId bmB) (ei : PySem.W.excIn X.K (c.cl k) bmB newId = true) (kC : PySem.W.keepIn X.K (.ref (c.cl k)) = true) (hm : X.mg x = some (.ref (c.cl k)))
    (hg : Gl X x := by rfl) (hdb : (x == ("__debug__" : Str)) = false := by decide) : CE X c W (.Call (.Name x p) [] [] pos) (mC (.exv k [])) := by
  refine ⟨fun pins s σ H Q I ⟨g, Z, δ, S, sm, sl, q⟩ => ?_⟩
  refine wpAny_Call_Name_kw (ld_glob I hg hm ?_ hdb)
  refine PySem.W.callWith_K0 I.kIn kC ?_
  obtain ⟨bm, N', nm, qn, bs, hdct, sn, sub, ab, col, dd, k0, k1, k2, k3, k5, mN, hC, hN, hni, T⟩ := exc_obj I.kIn ei
  obtain ⟨hp, gs, dr, tok, os⟩ := s
  refine wpAny_call_exc_subT F T hC hN hni (fun h' a hx => ?_) (by show 0 ≤ sizeLine; omega)
  obtain ⟨t1, ho, _, _⟩ := hx.there
  have hna : H a = none := I.hok.gone hx.new
  obtain ⟨le, s2⟩ := sm.new hna (exo a (c.cl k) none)
  refine ⟨.ref a, _, laid_at (t' := tok) I hx.keeps hx.new (exo_ok ho), rfl, q _ _ _ le s2 ?_⟩
  rw [Rep]
  exact ⟨a, none, rfl, upd_same, .inl ⟨rfl, rfl⟩⟩
end

/-! ### reading an attribute; isinstance -/
def attOf (fl : Nat → List Str) (f : Str) : D → Sto → Option D
  | .exv k ds, _ => if k < 100 then (match (fl k).idxOf? f with
    | some i => ds[i]?
    | none => none) else none
  | _, _ => none
def fAtt (fl : Nat → List Str) (f : Str) (x : D) (S : Sto) : R D := match attOf fl f x S with
  | some d => .ok d S
  | none => .bad
/-- what stands for an error held as a value -/
structure ErrA (K : PySem.W.Frag) (C : Addr) : Prop where
  hd : PySem.W.hasDictIn K C = true
  ga : PySem.W.findIn K (.ref C) "__getattribute__" = some (some (.builtin "BaseException.__getattribute__"))
  gg : PySem.W.findIn K (.ref C) "__getattr__" = some none
  ex : PySem.W.subIn K (.ref C) (.type "BaseException") = some true
  cl : (PySem.W.clsIn K C).isSome = true
  ic : PySem.W.findIn K (.ref C) "__class__" = some (some (.builtin "object.__class__"))
  hn : PySem.W.specialIn K (.builtin "object.__class__") "__get__" = some (some (.builtin "getset_descriptor.__get__"))
  ht : PySem.W.takesIn K (.builtin "object.__class__") = some true
  hm : PySem.W.mroIn K C (.type "object") = some true
/-- .. of all classes -/
structure RcOk (c : RC) : Prop where
  ea : ∀ k f, k < 100 → f ∈ c.fl k → ErrA c.K (c.cl k)
  no : ∀ k f, k < 100 → f ∈ c.fl k → NoAttr c.K (c.cl k) f
theorem Kp.exo {G H : Hp} {a C : Addr} {dd : Option Addr} (k : Kp G H) (h : G a = some (exo a C dd)) : H a = some (exo a C dd) := by
  rcases k a _ h with q | ⟨_, _, e, _⟩
  · exact q
  · have e' : HO.ext _ = HO.dK _ := e
    cases e'
theorem Kp.exd {G H : Hp} {d : Addr} {fs : List (Str × V)} (k : Kp G H) (h : G d = some (L2.exd d fs)) : H d = some (L2.exd d fs) := by
  rcases k d _ h with q | ⟨_, _, e, _⟩
  · exact q
  · have e' : HO.ext _ = HO.dK _ := e
    cases e'
theorem idx_at {l : List Str} {f : Str} {i : Nat} (h : l.idxOf? f = some i) : l[i]? = some f := by
  unfold List.idxOf? at h
  have h2 := List.findIdx?_eq_some_iff_getElem.mp h
  obtain ⟨hi, e, _⟩ := h2
  rw [List.getElem?_eq_getElem hi]
  have : l[i] = f := by simpa using e
  rw [this]
section
variable {X : Cx} {c : RC} {W : WX} {k n j : Nat} {f : Str} {p pos : Pos} {e : Expr} {m : ME}
/-- an error at a, as the heap has it -/
theorem exv_inst {pins : List (Addr × Obj)} {σ : L2.St} {H : Hp} {s : Shared} {g : Wd} {S : Sto} {Z : Hp} {ds : List D} {v : V} (I : Inv X pins σ H s) (sm : SimH c g S Z H) (r : Rep c g (.exv k ds) v) :
    ∃ (a : Addr) (dd : Option Addr) (ox : Obj) (od : Option Obj), v = .ref a ∧ PySem.W.InstAt s.heap a ox (c.cl k) od ∧ ((ds = [] ∧ dd = none) ∨ ∃ (vs : List V) (fs : List (Str × V)) (mA : Str → Option Value) (o : Obj), Att (c.fl k) vs fs ∧ RepL c g ds vs ∧ od = some o ∧ (∀ name, PySem.W.lookIn name o = some (mA name)) ∧ ∀ y, RelO (fs.lookup y) (mA y)) := by
  rw [Rep] at r
  obtain ⟨a, dd, rfl, ea, q⟩ := r
  have eH := sm.gk.exo ea
  obtain ⟨t1, ho⟩ := exo_at I.hok eH
  rcases q with ⟨rfl, rfl⟩ | ⟨d, fs, vs, rfl, ed, at_, rs⟩
  · exact ⟨a, none, _, none, rfl, ⟨ho, rfl, rfl, trivial⟩, .inl ⟨rfl, rfl⟩⟩
  · obtain ⟨mA, hns, rel⟩ := exd_at I.hok (sm.gk.exd ed)
    obtain ⟨od, e1, e2⟩ := lookIn_ns hns
    exact ⟨a, some d, _, some od, rfl, ⟨ho, rfl, rfl, e1⟩, .inr ⟨vs, fs, mA, od, at_, rs, rfl, e2, rel⟩⟩
theorem ce_att {fl : Nat → List Str} (cf : Cf j X c) (ok : RcOk c) (hfl : fl = c.fl) (he : CE X c W e m) (hb : attributeBase e f X.env (eval e X.env) = eval e X.env := by rfl) : CE X c W (.Attribute e f pos) (mUn (fAtt fl f) m) := by
  subst hfl
  refine ⟨fun pins s σ H Q I ⟨g, Z, δ, S, sm, sl, q⟩ => ?_⟩
  refine attr_of hb (thn (he.run pins s σ H _ I ⟨g, Z, δ, S, sm, sl, Post.bind (Q := fun v H1 => ∃ g1 S1 d, SimH c g1 S1 Z H1 ∧ Rep c g1 d v ∧ Post c (Rep c) g1 Z (fAtt c.fl f d S1) Q fun cls d H' => W cls d σ H') q fun d S1 g1 v H1 _ le1 s1 r1 q1 => ⟨g1, S1, d, s1, r1, q1⟩⟩) fun u s1 hx => ?_)
  obtain ⟨x, H1, I1, rx, g1, S1, d, sm1, r1, q1⟩ := hx
  unfold fAtt attOf at q1
  cases d with
  | exv k ds =>
    simp only at q1
    by_cases hk : k < 100
    · rw [if_pos hk] at q1
      cases e1 : (c.fl k).idxOf? f with
      | none => rw [e1] at q1; exact q1.elim
      | some i =>
        rw [e1] at q1
        simp only at q1
        cases e2 : ds[i]? with
        | none => rw [e2] at q1; exact q1.elim
        | some y =>
          rw [e2] at q1
          have hi := idx_at e1
          have hmem : f ∈ c.fl k := List.mem_of_getElem? hi
          have ea := ok.ea k f hk hmem
          have no := ok.no k f hk hmem
          rw [cf.kk] at ea no
          obtain ⟨a, dd, ox, od, rfl, inst, z⟩ := exv_inst I1 sm1 r1
          obtain rfl : u = Value.ref a := rx
          rcases z with ⟨rfl, _⟩ | ⟨vs, fs, mA, o, at_, rs, rfl, lk, rel⟩
          · simp at e2
          · obtain ⟨w, hw, rw'⟩ := rs.get e2
            obtain ⟨f', h1, h2⟩ := at_.at_ i w hw
            rw [hi] at h1
            cases h1
            have rr := rel f
            rw [h2] at rr
            cases hmf : mA f with
            | none => rw [hmf] at rr; exact rr.elim
            | some uu =>
              rw [hmf] at rr
              have rr' : RelV w uu := rr
              refine PySem.HandSPX.exc_get I1.kIn inst ea.ga ea.gg ea.ex (PySem.W.findObj_own ea.hd no rfl (by rw [lk, hmf])) (handed_of rr') ?_
              exact ⟨w, H1, I1.tok _, rr', q1 g1 w H1 (.refl g1) sm1 rw'⟩
    · rw [if_neg hk] at q1
      exact q1.elim
  | _ => exact q1.elim

/-! isinstance -/
inductive TD where
  | b (n : String)
  | c (k : Nat)
  deriving DecidableEq
def tyD : D → Sto → Option TD
  | .non, _ => some (.b "NoneType")
  | .bl _, _ => some (.b "bool")
  | .int _, _ => some (.b "int")
  | .str _, _ => some (.b "str")
  | .lst _, _ => some (.b "list")
  | .tup _, _ => some (.b "tuple")
  | .dic _ _, _ => some (.b "dict")
  | .exv k _, _ => some (.c k)
  | _, _ => none
def fIsi (sub : TD → Option Bool) (x : D) (S : Sto) : R D := match tyD x S with
  | some t => (match sub t with
    | some b => .ok (.bl b) S
    | none => .bad)
  | none => .bad
def TD.v (c : RC) : TD → Value
  | .b n => .type n
  | .c k => .ref (c.cl k)
def TD.ok (c : RC) : TD → Prop
  | .b _ => True
  | .c k => ErrA c.K (c.cl k)
def KitD (K : PySem.W.Frag) (H : Hp) (x : V) (t : Value) : Prop := ∀ {X : Cx} {pins : List (Addr × Obj)} {σ : L2.St} {s : Shared} {u : Value}, X.K = K → Inv X pins σ H s → RelV x u → ∃ P : Heap → Prop, PySem.W.KitX X.K u t P ∧ P s.heap ∧ u ≠ .builtin "__main__.__loader__#opaque"
theorem kit_D {g : Wd} {S : Sto} {Z H : Hp} {d : D} {v : V} {t : TD} (sm : SimH c g S Z H) (r : Rep c g d v) (e : tyD d S = some t) (ok : t.ok c) : KitD c.K H v (t.v c) := by
  intro X pins σ s u hK I rv
  have base : ∀ {t' : Value}, TyX c.K H v t' → ∃ P : Heap → Prop, PySem.W.KitX X.K u t' P ∧ P s.heap ∧ u ≠ .builtin "__main__.__loader__#opaque" := fun ty => by
    rw [← hK] at ty
    exact kit_of I rv ty
  cases d with
  | non => cases e; rw [Rep] at r; subst r; exact base (.base .non)
  | bl b => cases e; rw [Rep] at r; subst r; exact base (.base (.bl b))
  | int b => cases e; rw [Rep] at r; subst r; exact base (.base (.int b))
  | str b => cases e; rw [Rep] at r; subst r; exact base (.base (.str b))
  | lst xs =>
    cases e
    rw [Rep] at r
    obtain ⟨a, vs, rfl, q, _⟩ := r
    rcases sm.gk.lst q with (q | ⟨ob, q⟩) | q
    · exact base (.base (.lst q))
    · exact base (.base (.frz q))
    · obtain ⟨o, _, _, q1, q2, _⟩ := q
      exact base (.kList q1 q2)
  | tup xs =>
    cases e
    rw [Rep] at r
    obtain ⟨a, vs, rfl, q, _⟩ := r
    rcases sm.gk.tup q with (q | ⟨ob, q⟩) | q
    · exact base (.base (.tup q))
    · exact base (.fTuple q)
    · obtain ⟨o, _, _, q1, q2, _⟩ := q
      exact base (.kTuple q1 q2)
  | dic ks ds =>
    cases e
    rw [Rep] at r
    obtain ⟨a, kvs, rfl, q, _⟩ := r
    rcases sm.gk.rd q with q | ⟨ob, q⟩
    · exact base (.base (.dK q))
    · exact base (.fDict q)
  | exv k ds =>
    cases e
    have ok' : ErrA c.K (c.cl k) := ok
    rw [← hK] at ok'
    obtain ⟨a, dd, ox, od, rfl, inst, _⟩ := exv_inst I sm r
    obtain rfl : u = Value.ref a := rv
    exact ⟨_, PySem.W.kitx_exc ok'.cl ok'.ga ok'.gg ok'.ex ok'.ic ok'.hn ok'.ht ok'.hm, inst, fun z => nomatch z⟩
  | _ => cases e
def rIsD (K : PySem.W.Frag) : List V → Hp → VK → Prop := fun xs H Q => ∃ (x cv : V) (t u : Value) (b : Bool), xs = [x, cv] ∧ ClsV cv u ∧ KitD K H x t ∧ PySem.W.kitOne K t u = some b ∧ Q (.bl b) H
theorem call_isD : CallR X (.builtin "isinstance") (rIsD X.K) := by
  intro pins s σ H xs us Q I r h
  obtain ⟨x, cv, t, u, b, rfl, k, kit, e, q⟩ := h
  obtain ⟨u1, u2, rfl, r1, r2⟩ := vals2 r
  have e2 := k.eq r2
  subst e2
  obtain ⟨P, Z, p, hx⟩ := kit rfl I r1
  exact PySem.W.kia_one Z I.kIn p e hx fun tk => ⟨.bl b, H, I.tok tk, rfl, q⟩
theorem ce_isi {x : Str} {p2 : Pos} {cv : V} {u : Value} {sub : TD → Option Bool} (cf : Cf j X c) (kv : ClsV cv u) (hs : ∀ t b, sub t = some b → t.ok c ∧ PySem.W.kitOne c.K (t.v c) u = some b) (he : CE X c W e m) (hx : PE X (.Name x p2) (tC cv))
    (hm : X.mg "isinstance" = none) (hg : Gl X "isinstance" := by rfl) (hn : starEach (e :: [.Name x p2]) X.env = (false, eval e X.env) :: starEach [.Name x p2] X.env := by rfl) (hn2 : starEach [.Name x p2] X.env = (false, eval (.Name x p2) X.env) :: starEach [] X.env := by rfl)
    (hpl : (backTo pos (starEach [.Name x p2] X.env)).any (·.1) = false := by rfl) :
    CE X c W (.Call (.Name "isinstance" p) [e, .Name x p2] [] pos) (mUn (fIsi sub) m) := by
  refine weakE (pe_callB call_isD hg hm PyProof.Rows.boot_isinstance (pa_cons he (pa_cons hx pa_nil hn2) hn) (he := hn) (hpl := hpl)) fun σ H Q ⟨g, Z, δ, S, sm, sl, q⟩ => ⟨g, Z, δ, S, sm, sl, Post.bind q fun d S1 g1 v H1 _ le1 s1 r1 q1 => ?_⟩
  unfold fIsi at q1
  cases e1 : tyD d S1 with
  | none => rw [e1] at q1; exact q1.elim
  | some t =>
    rw [e1] at q1
    simp only at q1
    cases e2 : sub t with
    | none => rw [e2] at q1; exact q1.elim
    | some b =>
      rw [e2] at q1
      obtain ⟨h1, h2⟩ := hs t b e2
      refine ⟨v, cv, t.v c, u, b, rfl, kv, ?_, ?_, q1 g1 (.bl b) H1 (.refl g1) s1 Rep.bl⟩
      · rw [← cf.kk]
        exact kit_D s1 r1 e1 h1
      · rw [← cf.kk]
        exact h2
end
end DL

end
section
/-! DL, part h: repr; displays of dicts. -/
namespace DL
open PySem PySem.Spec PyProof.Rows L2

def keyPy : Key → PyData
  | .inl i => .int i
  | .inr x => .str x
mutual
def D.pyr : D → Option PyData
  | .non => some .none
  | .bl b => some (.bool b)
  | .int i => some (.int i)
  | .str s => some (.str s)
  | .lst xs => (D.pyrL xs).map .list
  | .tup xs => (D.pyrL xs).map .tuple
  | .dic ks ds => (D.pyrL ds).bind fun ps => if ks.length = ps.length then some (.dict ((ks.map keyPy).zip ps)) else none
  | _ => none
def D.pyrL : List D → Option (List PyData)
  | [] => some []
  | d :: r => match D.pyr d, D.pyrL r with
    | some p, some ps => some (p :: ps)
    | _, _ => none
end
def D.pyrS (S : Sto) : D → Option PyData
  | .loc n => match S[n]? with
    | some (.lst xs) => (D.pyrL xs).map .list
    | _ => none
  | d => d.pyr
/-- the written part knows the table of modules -/
def SysIn (K : PySem.W.Frag) : Prop := ∃ o, K.lookup sysModules = some o ∧ o.cls = .type "dict"
section
variable {X : Cx} {pins : List (Addr × Obj)} {σ : L2.St} {H : Hp} {s : Shared} {c : RC} {g : Wd} {S : Sto} {Z : Hp}
theorem list_rd (I : Inv X pins σ H s) (sy : SysIn X.K) {a : Addr} {vs : List V} {ps : List PyData} (q : SqL X.K H a vs) (hr : ∀ us, Vals vs us → ∃ as, ReadsAll s.heap us ps as ∧ sysModules ∉ as) : ∃ as, Reads s.heap (.ref a) (.list ps) as ∧ sysModules ∉ as := by
  obtain ⟨its, rv, ⟨o, n, ho, hc, _, hd⟩, _⟩ := I.list q
  obtain ⟨as, h1, h2⟩ := hr its rv
  refine ⟨_, Reads.list ho hc hd h1, fun h => ?_⟩
  rcases List.mem_cons.mp h with h | h
  · obtain ⟨o2, k1, k2⟩ := sy
    have k3 := I.kIn _ _ k1
    rw [h, ho] at k3
    have k4 := Option.some.inj k3
    rw [← k4, hc] at k2
    exact absurd k2 (by decide)
  · exact h2 h
theorem pairs_vals {kvs : List (Key × V)} {vs : List (Key × Value)} (h : KV kvs vs) : Vals (kvs.map (·.2)) (vs.map (·.2)) ∧ kvs.map (·.1) = vs.map (·.1) := by
  induction h with
  | nil => exact ⟨.nil, rfl⟩
  | cons a b ih => exact ⟨.cons a.2 ih.1, by rw [List.map_cons, List.map_cons, a.1, ih.2]⟩
theorem pairs_keys {P : Program} {w : World} {hp : Heap} {es : List DictEntry} {vs : List (Key × Value)} (h : Pairs (mixKind P w) es vs) : ReadsAll hp (es.map (·.key)) ((vs.map (·.1)).map keyPy) [] ∧ es.map (·.val) = vs.map (·.2) := by
  induction h with
  | nil => exact ⟨.nil, rfl⟩
  | @cons e kv es kvs k1 k2 _ ih =>
    refine ⟨?_, by rw [List.map_cons, List.map_cons, k2, ih.2]⟩
    have hk : Reads hp e.key (keyPy kv.1) [] := by
      rcases keyIs_shape (show keyIs kv.1 e.key = true from k1) with ⟨i, t, h1, h2⟩ | ⟨x, t, h1, h2⟩
      · rw [h2, h1]; exact Reads.int i t
      · rw [h2, h1]; exact Reads.str x t
    exact ReadsAll.cons (as := []) (bs := []) hk ih.1
theorem zip_map {α β : Type} : ∀ {xs : List α} {ys : List β}, xs.length = ys.length → (xs.zip ys).map (·.1) = xs ∧ (xs.zip ys).map (·.2) = ys
  | [], [], _ => ⟨rfl, rfl⟩
  | x :: xs, y :: ys, h => by
    have := zip_map (xs := xs) (ys := ys) (by simpa using h)
    simp [this.1, this.2]
  | [], _ :: _, h => by simp at h
  | _ :: _, [], h => by simp at h
mutual
theorem rd_ok (I : Inv X pins σ H s) (sm : SimH c g S Z H) (hK : c.K = X.K) (sy : SysIn X.K) : ∀ {d : D} {v : V} {u : Value} {p : PyData}, Rep c g d v → RelV v u → d.pyr = some p → ∃ as, Reads s.heap u p as ∧ sysModules ∉ as
  | .non, v, u, p, r, rv, e => by
    cases e
    rw [Rep] at r; subst r
    obtain rfl : u = Value.none := rv
    exact ⟨[], .none, by simp⟩
  | .bl b, v, u, p, r, rv, e => by
    cases e
    rw [Rep] at r; subst r
    obtain rfl : u = Value.bool b := rv
    exact ⟨[], .bool b, by simp⟩
  | .int b, v, u, p, r, rv, e => by
    cases e
    rw [Rep] at r; subst r
    obtain ⟨t, rfl⟩ : ∃ t, u = Value.int b t := rv
    exact ⟨[], .int b t, by simp⟩
  | .str b, v, u, p, r, rv, e => by
    cases e
    rw [Rep] at r; subst r
    obtain ⟨t, rfl⟩ : ∃ t, u = Value.str b t := rv
    exact ⟨[], .str b t, by simp⟩
  | .lst xs, v, u, p, r, rv, e => by
    rw [D.pyr] at e
    obtain ⟨ps, e1, rfl⟩ := Option.map_eq_some_iff.mp e
    rw [Rep] at r
    obtain ⟨a, vs, rfl, q, rs⟩ := r
    obtain rfl : u = Value.ref a := rv
    have q2 := sm.gk.lst q
    rw [hK] at q2
    exact list_rd I sy q2 fun us rus => rdL_ok I sm hK sy rs rus e1
  | .tup xs, v, u, p, r, rv, e => by
    rw [D.pyr] at e
    obtain ⟨ps, e1, rfl⟩ := Option.map_eq_some_iff.mp e
    rw [Rep] at r
    obtain ⟨a, vs, rfl, q, rs⟩ := r
    obtain rfl : u = Value.ref a := rv
    have q2 := sm.gk.tup q
    rw [hK] at q2
    obtain ⟨its, rus, ⟨o, ho, hc, n, hd⟩, _⟩ := I.tuple q2
    obtain ⟨as, h1, h2⟩ := rdL_ok I sm hK sy rs rus e1
    exact ⟨as, Reads.tuple ho hc hd h1, h2⟩
  | .dic ks ds, v, u, p, r, rv, e => by
    rw [D.pyr] at e
    obtain ⟨ps, e1, e2⟩ := Option.bind_eq_some_iff.mp e
    by_cases hl : ks.length = ps.length
    · rw [if_pos hl] at e2
      cases e2
      rw [Rep] at r
      obtain ⟨a, kvs, rfl, q, hks, rs⟩ := r
      obtain rfl : u = Value.ref a := rv
      obtain ⟨_, hsy, vs, rel, o, es, ep, ho, hc, hd, _, hp, _⟩ := dk_rd I.hok (sm.gk.rd q)
      obtain ⟨rvs, kk⟩ := pairs_vals rel
      obtain ⟨as, h1, h2⟩ := rdL_ok I sm hK sy rs rvs e1
      obtain ⟨k1, k2⟩ := pairs_keys (hp := s.heap) hp
      have hz := zip_map (xs := ks.map keyPy) (ys := ps) (by simpa using hl)
      rw [← kk, hks] at k1
      rw [← k2] at h1
      refine ⟨_, Reads.dict (kvs := (ks.map keyPy).zip ps) (as := []) (bs := as) ho hc.1 hd (by rw [hz.1]; exact k1) (by rw [hz.2]; exact h1), fun h => ?_⟩
      rcases List.mem_append.mp h with h | h
      · have h' : sysModules = a := by simpa using h
        rw [h'] at hsy
        simp at hsy
      · exact h2 h
    · rw [if_neg hl] at e2
      cases e2
  | .ins _ _, _, _, _, _, _, e => by cases e
  | .exv _ _, _, _, _, _, _, e => by cases e
  | .loc _, _, _, _, _, _, e => by cases e
  | .glb _, _, _, _, _, _, e => by cases e
theorem rdL_ok (I : Inv X pins σ H s) (sm : SimH c g S Z H) (hK : c.K = X.K) (sy : SysIn X.K) : ∀ {ds : List D} {vs : List V} {us : List Value} {ps : List PyData}, RepL c g ds vs → Vals vs us → D.pyrL ds = some ps → ∃ as, ReadsAll s.heap us ps as ∧ sysModules ∉ as
  | [], vs, us, ps, r, rv, e => by
    rw [D.pyrL] at e
    cases e
    rw [RepL] at r
    subst r
    cases rv
    exact ⟨[], .nil, by simp⟩
  | d :: ds, vs, us, ps, r, rv, e => by
    rw [D.pyrL] at e
    rw [RepL] at r
    obtain ⟨v, r', rfl, r1, r2⟩ := r
    cases rv with
    | cons rv1 rv2 =>
      cases h1 : D.pyr d with
      | none => rw [h1] at e; cases e
      | some p =>
        cases h2 : D.pyrL ds with
        | none => rw [h1, h2] at e; cases e
        | some qs =>
          rw [h1, h2] at e
          cases e
          obtain ⟨as, a1, a2⟩ := rd_ok I sm hK sy r1 rv1 h1
          obtain ⟨bs, b1, b2⟩ := rdL_ok I sm hK sy r2 rv2 h2
          refine ⟨_, .cons a1 b1, fun h => ?_⟩
          rcases List.mem_append.mp h with h | h
          · exact a2 h
          · exact b2 h
end
theorem rdS_ok (I : Inv X pins σ H s) (sm : SimH c g S Z H) (hK : c.K = X.K) (sy : SysIn X.K) {d : D} {v : V} {u : Value} {p : PyData} (r : Rep c g d v) (rv : RelV v u) (e : d.pyrS S = some p) : ∃ as, Reads s.heap u p as ∧ sysModules ∉ as := by
  cases d with
  | loc n =>
    simp only [D.pyrS] at e
    split at e
    · rename_i xs hn
      obtain ⟨ps, e1, rfl⟩ := Option.map_eq_some_iff.mp e
      rw [Rep] at r
      obtain ⟨a, rfl, ha⟩ := r
      obtain rfl : u = Value.ref a := rv
      obtain ⟨_, _, _, vs, q, rs⟩ := sm.cell n a _ ha hn
      exact list_rd I sy (SqL.of q) fun us rus => rdL_ok I sm hK sy rs rus e1
    · cases e
  | _ => exact rd_ok I sm hK sy r rv e
end
def fRepr (xs : List D) (S : Sto) : R D := match xs with
  | [x] => (match x.pyrS S with
    | some p => if p.showable = true ∧ p.depth ≤ 60 ∧ p.shown.length ≤ 16777216 then .ok (.str p.shown) S else .bad
    | none => .bad)
  | _ => .bad
def rRpr (c : RC) : List V → Hp → VK → Prop := fun xs H Q => ∃ (g : Wd) (S : Sto) (Z : Hp) (d : D) (v : V) (p : PyData), xs = [v] ∧ SimH c g S Z H ∧ Rep c g d v ∧ d.pyrS S = some p ∧ p.showable = true ∧ p.depth ≤ 60 ∧ p.shown.length ≤ sizeLine ∧ Q (.str p.shown) H
theorem call_rpr {X : Cx} {c : RC} {k : Nat} (cf : Cf k X c) (sy : SysIn X.K) : CallR X (.builtin "repr") (rRpr c) := by
  intro pins s σ H xs us Q I r h
  obtain ⟨g, S, Z, d, v, p, rfl, sm, rp, e, h1, h2, h3, q⟩ := h
  cases r with
  | @cons _ u _ _ rv t =>
    cases t
    obtain ⟨as, hr, hn⟩ := rdS_ok I sm cf.kk sy rp rv e
    have un : X.A.units + (p.depth + 1) < cLine := by have := cf.hr.units; omega
    have fin : ∀ (h' : Heap) (t tk : Tok), (∀ b o, s.heap.get? b = some o → h'.get? b = some o) → EP X pins σ Q (.str p.shown t) { s with heap := h', toks := tk } := fun h' t tk hk => ⟨.str p.shown, H, I.kept hk, ⟨t, rfl⟩, q⟩
    have fin0 : ∀ (t tk : Tok), EP X pins σ Q (.str p.shown t) { s with toks := tk } := fun t tk => ⟨.str p.shown, H, I.tok tk, ⟨t, rfl⟩, q⟩
    cases hr with
    | none => exact PySem.P.repr_of_none (fin0 _ _)
    | bool b => exact PySem.P.repr_of_bool (fin0 _ _)
    | int i t => exact PySem.P.repr_of_int (by simpa [PyData.showable] using h1) (fin0 _ _)
    | str x t => exact PySem.P.repr_of_str (fin0 _ _) h3
    | list a1 a2 a3 a4 => exact repr_of_reads' (.list a1 a2 a3 a4) h1 (fun _ => hn) cf.gd un (fun _ _ e => e) fin h3
    | tuple a1 a2 a3 a4 => exact repr_of_reads' (.tuple a1 a2 a3 a4) h1 (fun _ => hn) cf.gd un (fun _ _ e => e) fin h3
    | dict a1 a2 a3 a4 a5 => exact repr_of_reads' (.dict a1 a2 a3 a4 a5) h1 (fun _ => hn) cf.gd un (fun _ _ e => e) fin h3
theorem cl_repr {c : RC} : ClD c (rRpr c) fRepr := fun g Z S H x v Q E sm rp q => by
  unfold fRepr at q
  match x, rp, q with
  | [d], rp, q =>
    obtain ⟨v1, r, rfl, r1, r2⟩ := rp.cons_inv
    cases r2.nil_inv
    cases e : d.pyrS S with
    | none => simp only [e] at q; exact q.elim
    | some p =>
      simp only [e] at q
      by_cases hc : p.showable = true ∧ p.depth ≤ 60 ∧ p.shown.length ≤ 16777216
      · rw [if_pos hc] at q
        exact ⟨g, S, Z, d, v1, p, rfl, sm, r1, e, hc.1, hc.2.1, sz hc.2.2, q g _ H (.refl g) sm Rep.str⟩
      · rw [if_neg hc] at q
        exact q.elim
  | [], _, q => exact q.elim
  | _ :: _ :: _, _, q => exact q.elim

/-! ### displays of dicts -/
theorem SimH.settleO {c : RC} {g : Wd} {S : Sto} {Z H : Hp} {p : Addr} {o : HO} (s : SimH c g S (upd Z p o) H) (hz : Z p = none) (hH : H p = some o) : g.le ⟨upd g.G p o, g.ι⟩ ∧ SimH c ⟨upd g.G p o, g.ι⟩ S Z H := by
  have hg : g.G p = none := s.zg p _ upd_same
  have u := s.unframe hz
  have le : g.le ⟨upd g.G p o, g.ι⟩ := ⟨fun x u e => (upd_ne (ne_of_none e hg)).trans e, List.prefix_rfl⟩
  refine ⟨le, fun a v e => ?_, u.zk, fun a v e => (upd_ne (ne_of_none e hz)).trans (u.zg a v e), u.len, u.nd, fun n a v e1 e2 => ?_⟩
  · by_cases ha : a = p
    · subst ha
      have e' : some o = some v := upd_same.symm.trans e
      cases e'
      exact .inl hH
    · exact u.gk a v (by rw [← e]; exact (upd_ne ha).symm)
  · obtain ⟨h1, h2, h3⟩ := s.cell n a v e1 e2
    have hne : a ≠ p := fun z => by
      rw [z, upd_same] at h2
      cases h2
    rw [upd_ne hne] at h2
    exact ⟨(upd_ne hne).trans h1, h2, h3.up le⟩
section
variable {X : Cx} {c : RC} {W : WX} {pos p1 : Pos} {e : Expr} {m : ME}
/-- {} that will not change -/
theorem ce_dic0 : CE X c W (.Dict [] [] pos) (mC (.dic [] [])) := weakE pe_dnewK fun σ H Q ⟨g, Z, δ, S, s, sl, q⟩ p hp => by
  obtain ⟨le, s'⟩ := s.new hp (.dK [])
  refine q _ _ _ le s' ?_
  rw [Rep]
  exact ⟨p, [], rfl, .inl upd_same, rfl, RepL.nil⟩
/-- {'k': e} -/
def fDic1 (k : Str) (x : D) (S : Sto) : R D := .ok (.dic [.inr k] [x]) S
theorem ce_dic1 {k : Str} {j} (he : CE X c W e m) : CE X c W (.Dict [some (.Constant (.str k) j p1)] [e] pos) (mUn (fDic1 k) m) := by
  refine weakE (pe_disp (pps_cons (pe_str (x := k)) he pps_nil) rfl rfl (by simp) (by simp)) fun σ H Q ⟨g, Z, δ, S, s, sl, q⟩ p hp => ?_
  have hz := s.zk.gone hp
  have s1 := s.frame hp (.dK [])
  show eM c W m σ (upd H p (.dK [])) _
  refine ⟨g, upd Z p (.dK []), δ, S, s1, sl, ?_⟩
  have q' : Post c (Rep c) g Z ((m δ S).bind fun x S1 => fDic1 k x S1) Q (fun cls d H' => W cls d σ H') := q
  cases em : m δ S with
  | ok x S1 =>
    rw [em] at q'
    intro g' v H2 le s2 r2
    have hH2 : H2 p = some (.dK []) := s2.zk p _ upd_same
    refine ⟨hH2, [(.inr k, v)], rfl, by simp, ?_⟩
    obtain ⟨le3, s3⟩ := (s2.reframe (o' := .dK [(.inr k, v)])).settleO hz upd_same
    refine q' _ _ _ (le.trans le3) s3 ?_
    rw [Rep]
    exact ⟨p, [(.inr k, v)], rfl, .inl upd_same, rfl, RepL.cons (Rep.up le3 r2) RepL.nil⟩
  | exc k' vs S1 =>
    rw [em] at q'
    exact fun g' dd H2 le s2 x => q' g' dd H2 le (s2.unframe hz) x
  | bad =>
    rw [em] at q'
    exact q'.elim
end
end DL

end
section
/-! DL, part i: what the head tells; the law's end. -/
namespace DL
open PySem PySem.Spec PyProof.Rows L2

/-! ### the hook: defs, facts, one Bool, the table of modules too -/
abbrev ZK (n : Nat) (g : Addr → Option Obj) : PySem.W.Frag := He.frG g (sysModules :: He.asD g n)
def zObs (n : Nat) (fa : List He.Fa) (fn : List He.DefD) (ex : PySem.W.Frag → Bool) (g : Addr → Option Obj) : He.AlD × Bool := (He.obsD fa fn (ZK n g), ex (ZK n g))
def zHook (n : Nat) (fa : List He.Fa) (fn : List He.DefD) (ex : PySem.W.Frag → Bool) : PySem.W.Hook where
  α := He.AlD × Bool
  obs := fun s => zObs n fa fn ex s.heap.get?
  val := fun _ => (He.valD fn, true)
  says := fun _ h => ∃ K : PySem.W.Frag, K.In h ∧ He.SaysD fa fn K ∧ ex K = true
  of := fun _ s e => ⟨ZK n s.heap.get?, He.frG_in, congrArg Prod.fst e, congrArg Prod.snd e⟩
  keeps := fun _ _ _ ⟨K, h1, h2⟩ k => ⟨K, PySem.W.Frag.In.keeps h1 k, h2⟩
theorem zObs_eq {n : Nat} {fa : List He.Fa} {fn : List He.DefD} {ex : PySem.W.Frag → Bool} {g : Addr → Option Obj} {s : Shared} (h : ∀ a, g a = s.heap.get? a) : zObs n fa fn ex g = (zHook n fa fn ex).obs s := by
  have e : g = s.heap.get? := funext h
  rw [e] <;> rfl
def sysB (K : PySem.W.Frag) : Bool := match K.lookup sysModules with
  | some ⟨.type c, _, _, _⟩ => decide (c = "dict")
  | _ => false
theorem sysB_ok {K : PySem.W.Frag} (h : sysB K = true) : SysIn K := by
  unfold sysB at h
  cases q : K.lookup sysModules with
  | none => rw [q] at h; cases h
  | some o =>
    rw [q] at h
    obtain ⟨oc, od, dt, sl⟩ := o
    cases oc with
    | type c =>
      have e : c = "dict" := of_decide_eq_true h
      exact ⟨_, q, by rw [e]⟩
    | _ => cases h

/-! ### errors, by one Bool a class -/
def eqT (a b : Option Value) : Bool := decide (a = b)
/-- held, read, asked for its class -/
def errAB (K : PySem.W.Frag) (C : Addr) : Bool :=
  PySem.W.hasDictIn K C && (decide (PySem.W.findIn K (.ref C) "__getattribute__" = some (some (.builtin "BaseException.__getattribute__"))) && (decide (PySem.W.findIn K (.ref C) "__getattr__" = some none) && (decide (PySem.W.subIn K (.ref C) (.type "BaseException") = some true)
    && ((PySem.W.clsIn K C).isSome && (decide (PySem.W.findIn K (.ref C) "__class__" = some (some (.builtin "object.__class__"))) && (decide (PySem.W.specialIn K (.builtin "object.__class__") "__get__" = some (some (.builtin "getset_descriptor.__get__")))
    && (decide (PySem.W.takesIn K (.builtin "object.__class__") = some true) && decide (PySem.W.mroIn K C (.type "object") = some true))))))))
theorem band {a b : Bool} (h : (a && b) = true) : a = true ∧ b = true := Bool.and_eq_true_iff.mp h
theorem errAB_ok {K : PySem.W.Frag} {C : Addr} (h : errAB K C = true) : ErrA K C := by
  unfold errAB at h
  obtain ⟨h1, h⟩ := band h
  obtain ⟨h2, h⟩ := band h
  obtain ⟨h3, h⟩ := band h
  obtain ⟨h4, h⟩ := band h
  obtain ⟨h5, h⟩ := band h
  obtain ⟨h6, h⟩ := band h
  obtain ⟨h7, h⟩ := band h
  obtain ⟨h8, h9⟩ := band h
  exact ⟨h1, of_decide_eq_true h2, of_decide_eq_true h3, of_decide_eq_true h4, h5, of_decide_eq_true h6, of_decide_eq_true h7, of_decide_eq_true h8, of_decide_eq_true h9⟩
/-- made by an __init__ that stores -/
def errMB (K : PySem.W.Frag) (C : Addr) (bm : List Value) (nid : String) (fs : List Str) : Bool :=
  PySem.W.excInitIn K C bm nid && (PySem.W.excOver K C bm && (decide (PySem.W.findIn K (.ref C) "__setattr__" = some (some (.builtin "object.__setattr__"))) && (decide (PySem.W.typeIn K (.ref C) = some (.type "type")) && (PySem.W.keepIn K (.ref C)
    && (decide (PySem.W.findIn K (.ref C) "__init__" = some (some (.ref (He.ma K C "__init__")))) && (decide (PySem.W.typeIn K (.ref (He.ma K C "__init__")) = some (.type "function")) && fs.all fun f => decide (PySem.W.findIn K (.ref C) f = some none)))))))
structure ErrK (K : PySem.W.Frag) (C : Addr) (fs : List Str) : Prop where
  ex : ∃ B newId initId bmB, ExF K C B newId initId bmB
  kC : PySem.W.keepIn K (.ref C) = true
  ini : PySem.W.findIn K (.ref C) "__init__" = some (some (.ref (He.ma K C "__init__")))
  ty : PySem.W.typeIn K (.ref (He.ma K C "__init__")) = some (.type "function")
  no : ∀ f ∈ fs, NoAttr K C f
theorem errMB_ok {K : PySem.W.Frag} {C : Addr} {bm : List Value} {B nid iid : String} {fs : List Str} (FB : ExcBaseFacts B nid iid bm) (SF : StoreFacts B bm "object.__setattr__" "object") (a : ErrA K C) (h : errMB K C bm nid fs = true) : ErrK K C fs := by
  unfold errMB at h
  obtain ⟨h1, h⟩ := band h
  obtain ⟨h2, h⟩ := band h
  obtain ⟨h3, h⟩ := band h
  obtain ⟨h4, h⟩ := band h
  obtain ⟨h5, h⟩ := band h
  obtain ⟨h6, h⟩ := band h
  obtain ⟨h7, h8⟩ := band h
  exact ⟨⟨B, nid, iid, bm, ⟨FB, SF, h1, h2, a.hd, of_decide_eq_true h3, a.ga, a.gg, a.ex, of_decide_eq_true h4, h5⟩⟩, h5, of_decide_eq_true h6, of_decide_eq_true h7, fun f hf => show PySem.W.findIn K (.ref C) f = some none from of_decide_eq_true (List.all_eq_true.mp h8 f hf)⟩
theorem ErrK.f {c : RC} {k : Nat} (e : ErrK c.K (c.cl k) (c.fl k)) (nd : (c.fl k).Nodup) : ErrF c k := ⟨e.ex, e.no, nd⟩

section
variable {P : Program} {w : World} {K : PySem.W.Frag} {mg : Str → Option Value} {base : Heap} {c : RC} {k : Nat} {f : Addr} {fd : FuncData} {x qual : Str} {params : Arguments} {scope : Scope} {dvs : List V} {kws : List (Str × V)}
abbrev asg (p : Str) (p1 p2 p3 p4 : Pos) : Stmt := .Assign [.Attribute (.Name "self" p1) p p2] (.Name p p3) p4
theorem fst_of {X : Cx} {N : List Str} {p : Str} {i : Nat} {p1 p2 p3 p4 : Pos} (hX : X.N = N) (hs : X.env.scope = scope) (h0 : N[0]? = some ("self" : Str)) (hi : N[i]? = some p) (l0 : scope.names.lookup ("self" : Str) = some NameKind.local) (l1 : scope.names.lookup p = some NameKind.local) (hd : (p == ("__debug__" : Str)) = false)
    (hcd : (p == ("__classdict__" : Str)) = false) : PS X (asg p p1 p2 p3 p4) (tFst X.K p (tVar 0) (tVar i)) :=
  ps_fst (pe_var (i := 0) (by rw [hX]; exact h0) (by rw [hs]; exact .inl l0)) (pe_var (i := i) (by rw [hX]; exact hi) (by rw [hs]; exact .inl l1) hd hcd)
def lok (scope : Scope) (p : Str) : Bool := decide (scope.names.lookup p = some NameKind.local) && (!(p == ("__debug__" : Str)) && !(p == ("__classdict__" : Str)))
theorem lok_ok {p : Str} (h : lok scope p = true) : scope.names.lookup p = some NameKind.local ∧ (p == ("__debug__" : Str)) = false ∧ (p == ("__classdict__" : Str)) = false := by
  unfold lok at h
  obtain ⟨h1, h⟩ := band h
  obtain ⟨h2, h3⟩ := band h
  exact ⟨of_decide_eq_true h1, by simpa using h2, by simpa using h3⟩
theorem ini1 {p : Str} {p1 p2 p3 p4 : Pos} (hK : c.K = K) (F : FunD K x qual params [asg p p1 p2 p3 p4] scope dvs kws f fd) (hS : C8.scC ["self", p] ["self", p] scope = true) (T : ErrF c k) (hf : c.fl k = [p]) (hl : (lok scope "self" && lok scope p) = true) :
    FnG P w K mg base 1 f fd ["self", p] (spX c k 1) := by
  obtain ⟨l0, l1⟩ := band hl
  have k0 := lok_ok l0
  have k1 := lok_ok l1
  exact init1 hK F (C8.fnScope_by hS) T hf fun X hN hs => pss_one (fst_of hN hs rfl rfl k0.1 k1.1 k1.2.1 k1.2.2)
theorem ini2 {p q : Str} {p1 p2 p3 p4 q1 q2 q3 q4 : Pos} (hK : c.K = K) (F : FunD K x qual params [asg p p1 p2 p3 p4, asg q q1 q2 q3 q4] scope dvs kws f fd) (hS : C8.scC ["self", p, q] ["self", p, q] scope = true) (T : ErrF c k) (hf : c.fl k = [p, q])
    (hl : (lok scope "self" && (lok scope p && lok scope q)) = true) : FnG P w K mg base 1 f fd ["self", p, q] (spX c k 2) := by
  obtain ⟨l0, l1⟩ := band hl
  obtain ⟨l1, l2⟩ := band l1
  have k0 := lok_ok l0
  have k1 := lok_ok l1
  have k2 := lok_ok l2
  exact init2 hK F (C8.fnScope_by hS) T hf fun X hN hs => pss_cons (fst_of hN hs rfl rfl k0.1 k1.1 k1.2.1 k1.2.2) (pss_one (fst_of hN hs rfl rfl k0.1 k2.1 k2.2.1 k2.2.2))
theorem ini3 {p q r : Str} {p1 p2 p3 p4 q1 q2 q3 q4 r1 r2 r3 r4 : Pos} (hK : c.K = K) (F : FunD K x qual params [asg p p1 p2 p3 p4, asg q q1 q2 q3 q4, asg r r1 r2 r3 r4] scope dvs kws f fd) (hS : C8.scC ["self", p, q, r] ["self", p, q, r] scope = true) (T : ErrF c k)
    (hf : c.fl k = [p, q, r]) (hl : (lok scope "self" && (lok scope p && (lok scope q && lok scope r))) = true) : FnG P w K mg base 1 f fd ["self", p, q, r] (spX c k 3) := by
  obtain ⟨l0, l1⟩ := band hl
  obtain ⟨l1, l2⟩ := band l1
  obtain ⟨l2, l3⟩ := band l2
  have k0 := lok_ok l0
  have k1 := lok_ok l1
  have k2 := lok_ok l2
  have k3 := lok_ok l3
  exact init3 hK F (C8.fnScope_by hS) T hf fun X hN hs => pss_cons (fst_of hN hs rfl rfl k0.1 k1.1 k1.2.1 k1.2.2) (pss_cons (fst_of hN hs rfl rfl k0.1 k2.1 k2.2.1 k2.2.2) (pss_one (fst_of hN hs rfl rfl k0.1 k3.1 k3.2.1 k3.2.2)))
end

/-! ### the end -/
/-- a base under what is tracked: at most the script -/
theorem base_G {P : Program} {w : World} {K : PySem.W.Frag} {mg mb : Str → Option Value} {H : Hp} {a : Addr} {vs : List Value} {s : Shared} (KX : K.In s.heap) (hns : s.heap.Ns mainGlobals mg) (hb : s.heap.Ns builtinsNs mb) (hbb : ∀ x : Str, x ≠ "__name__" → mb x = bootBuiltins x)
    (hlim : s.heap.NoLimit) (hg : s.gens = #[]) (ha : s.heap.get? a = some { cls := .type "list", data := .seq vs.toArray }) (only : ∀ b, H b ≠ none → b = a ∧ K.lookup a = none) (hok : HOk P w H s.heap) :
    K.In (hidT s.heap H) ∧ (hidT s.heap H).Ns mainGlobals mg ∧ Env0 P w K mg (hidT s.heap H) callerA [] s H := by
  have none_of : ∀ {b : Addr}, b ≠ a → H b = none := fun {b} h => by
    cases q : H b with
    | none => rfl
    | some u => exact absurd (only b (by rw [q]; simp)).1 h
  have dict_of : ∀ {b : Addr} {m : Str → Option Value}, s.heap.Ns b m → (hidT s.heap H).Ns b m := fun {b m} ⟨o, es, ep, e, d, r⟩ => by
    refine ⟨o, es, ep, hidT_get e (none_of fun z => ?_), d, r⟩
    rw [z, ha] at e
    rw [← Option.some.inj e] at d
    have d' : Data.seq vs.toArray _ = Data.dict es ep := d
    cases d'
  have inK : K.In (hidT s.heap H) := fun b o e => by
    refine hidT_get (KX b o e) ?_
    cases q : H b with
    | none => rfl
    | some u =>
      obtain ⟨z1, z2⟩ := only b (by rw [q]; simp)
      rw [z1, z2] at e
      cases e
  obtain ⟨mc, c1, c2⟩ := hlim
  have md : Mod K mg (hidT s.heap H) := ⟨inK, dict_of hns, ⟨mb, dict_of hb, hbb⟩, ⟨mc, dict_of c1, c2⟩⟩
  exact ⟨inK, dict_of hns, ⟨rfl, md, fun b o e => of_hidT e, Nat.le_of_eq (hidT_size _ _), trivial, fun b hb' => absurd (show b ∈ ([] : List Addr) from hb') (by simp), hok, .of_eq hg⟩⟩
theorem law_G {P : Program} {w : World} {K : PySem.W.Frag} {mg mb : Str → Option Value} {k : Nat} {fa a : Addr} {fd : FuncData} {x : Str} {sp : Sp} {s : Shared} {vs : List Value} {ns : List Int} (KX : K.In s.heap) (hns : s.heap.Ns mainGlobals mg) (hb : s.heap.Ns builtinsNs mb)
    (hbb : ∀ x : Str, x ≠ "__name__" → mb x = bootBuiltins x) (hlim : s.heap.NoLimit) (hg : s.gens = #[]) (ha : s.heap.get? a = some { cls := .type "list", data := .seq vs.toArray }) (hi : IntsAre vs ns) (hl : ns.length ≤ sizeLine) (hr : Room k callerA)
    (F : ∀ base : Heap, K.In base → base.Ns mainGlobals mg → FnG P w K mg base k fa fd [x] sp) (hbind : ∀ (s : Shared) (u : Value), BindsTo s fd ⟨[u], []⟩ [(x, u)])
    (hsp : ∀ H : Hp, SqL K H a (ns.map V.int) → sp [.ref a] H (fun v _ => v = .bl true) fun _ _ _ => False) :
    codeAny (model P w) callerA (.call (.ref fa) ⟨[.ref a], []⟩) (fun r s' => r = .ok (.ret (.bool true)) ∧ OldK s.heap s'.heap ∧ s'.os = s.os ∧ AllBare s'.gens) s := by
  have run : ∀ H : Hp, HOk P w H s.heap → SqL K H a (ns.map V.int) → (∀ b, H b ≠ none → b = a ∧ K.lookup a = none) → (∀ b u, H b = some u → ∃ o xs, u = .frz o (.lst xs)) →
      codeAny (model P w) callerA (.call (.ref fa) ⟨[.ref a], []⟩) (fun r s' => r = .ok (.ret (.bool true)) ∧ OldK s.heap s'.heap ∧ s'.os = s.os ∧ AllBare s'.gens) s := by
    intro H hok hS only frz
    obtain ⟨b1, b2, e0⟩ := base_G (P := P) (w := w) KX hns hb hbb hlim hg ha only hok
    refine codeAny_mono ((F _ b1 b2).run callerA [] s H ⟨[.ref a], []⟩ [.ref a] [.ref a] _ _ rfl hr e0 (hbind s (.ref a)) (.cons rfl .nil) (hsp H hS)) fun r s' h => ?_
    rcases r with er | (_ | _ | _ | u)
    · obtain ⟨_, _, _, _, _, _, _, _, _, _, _, _, z⟩ := h
      exact z.elim
    · exact False.elim h
    · exact False.elim h
    · exact False.elim h
    · obtain ⟨v, H', os, bare, un, hok', rv, q⟩ := h
      have q' : v = .bl true := q
      rw [q'] at rv
      obtain rfl : u = Value.bool true := rv
      refine ⟨rfl, OldK.of_keep fun b o e => ?_, os, bare⟩
      cases hq : H b with
      | none => exact un.keep b o e hq (fun z => absurd (show b ∈ ([] : List Addr) from z) (by simp)) (by simp)
      | some u =>
        obtain ⟨ob, xs, rfl⟩ := frz b u hq
        have z1 := (hok b _ hq).1
        have z2 := (hok' b _ (un.frzs b ob _ hq)).1
        rw [e] at z1
        rw [Option.some.inj z1]
        exact z2
  cases hk : K.lookup a with
  | some o =>
    have e := (KX a o hk).symm.trans ha
    have eo := Option.some.inj e
    rw [eo] at hk
    exact run (fun _ => none) (fun b u z => absurd (show (none : Option HO) = some u from z) (by simp)) (.inr ⟨_, vs.toArray, _, hk, rfl, rfl, rfl, by rw [List.size_toArray, hi.length]; exact hl, by simpa using vals_ints hi⟩) (fun b z => absurd rfl z)
      fun b u z => absurd (show (none : Option HO) = some u from z) (by simp)
  | none =>
    have at1 : ∀ {b : Addr} {u : HO}, upd (fun _ => none) a (HO.frz { cls := .type "list", data := .seq vs.toArray } (.lst (ns.map V.int))) b = some u → b = a ∧ u = .frz { cls := .type "list", data := .seq vs.toArray } (.lst (ns.map V.int)) := fun {b u} z => by
      by_cases hb' : b = a
      · rw [hb', upd_same] at z
        exact ⟨hb', (Option.some.inj z).symm⟩
      · rw [upd_ne hb'] at z
        cases z
    refine run (upd (fun _ => none) a (.frz { cls := .type "list", data := .seq vs.toArray } (.lst (ns.map V.int)))) (fun b u z => ?_) (.inl (.inr ⟨_, upd_same⟩)) (fun b z => ?_) fun b u z => ⟨_, _, (at1 z).2⟩
    · obtain ⟨rfl, rfl⟩ := at1 z
      exact ⟨ha, by rw [List.length_map]; exact hl, vs, _, vals_ints hi, ha⟩
    · cases hq : upd (fun _ => none) a (HO.frz { cls := .type "list", data := .seq vs.toArray } (.lst (ns.map V.int))) b with
      | none => exact absurd hq z
      | some u => exact ⟨(at1 hq).1, hk⟩
theorem walk_G {l : PySem.W.OpenLaw} {n k : Nat} {q : Program} {loose : List Str} {XP : (Str → Option Value) → Heap → Prop} {YP : World → Heap → Prop} {d : DefRec} {x : Str} (hn : l.most = some n) (hn2 : n ≤ sizeLine) (hdf : d.params.defaults = []) (hr : Room k callerA)
    (F : ∀ (w : World) (mg : Str → Option Value) (fa : Addr) (h : Heap), YP w h → h.Ns mainGlobals mg → mg d.name = some (.ref fa) →
      ∃ (K : PySem.W.Frag) (fd : FuncData) (sp : Sp), K.In h ∧ (∀ (s : Shared) (u : Value), BindsTo s fd ⟨[u], []⟩ [(x, u)]) ∧ (∀ (H : Hp) (a : Addr) (ns : List Int), ns.length ≤ n → SqL K H a (ns.map V.int) → sp [.ref a] H (fun v _ => v = .bl true) fun _ _ _ => False) ∧
        ∀ base : Heap, K.In base → base.Ns mainGlobals mg → FnG l.prog w K mg base k fa fd [x] sp) : PySem.W.WalkO q loose XP YP l.row.toRowW d [] (fun f vs => PySem.call f vs) := by
  refine Att.attach_call hn hdf fun w s₀ s mg mb fa o pm cd doc a vs ns G Y ho hd hcd hmg hobj hints hlen hg => ?_
  obtain ⟨K, fd, sp, KX, hb, hsp, hF⟩ := F w mg fa _ Y G.T.g hmg
  exact law_G KX G.T.g G.T.b G.T.builtins G.T.nolimit hg hobj hints (Nat.le_trans hlen hn2) hr hF hb fun H hS => hsp H a ns hlen hS
/-- the script, as data -/
def dScript (ns : List Int) : List D := [.lst (ns.map D.int)]
theorem script_ok {c : RC} {K : PySem.W.Frag} {H : Hp} {a : Addr} {ns : List Int} {f : MF} (hK : c.K = K) (hS : SqL K H a (ns.map V.int)) (h : ∃ S, f (dScript ns) [] = .ok (.bl true) S) : spM c 1 f [.ref a] H (fun v _ => v = .bl true) fun _ _ _ => False := by
  obtain ⟨S, e⟩ := h
  have allI : ∀ (g : Wd) (l : List Int), RepL c g (l.map D.int) (l.map V.int) := fun g l => by
    induction l with
    | nil => exact RepL.nil
    | cons i r ih => exact RepL.cons Rep.int ih
  refine ⟨⟨H, []⟩, fun _ => none, [], dScript ns, ⟨Kp.refl H, fun _ _ e => (by cases e), fun _ _ e => (by cases e), rfl, List.nodup_nil, fun n a o e => by simp at e⟩, RepL.cons ?_ RepL.nil, rfl, ?_⟩
  · rw [Rep]
    exact ⟨a, _, rfl, by rw [hK]; exact hS, allI _ ns⟩
  · rw [e]
    intro g' v H' _ _ r
    exact r.bl_inv
end DL

end
section
/-! DL, part j: what a printed walk leans on. -/
namespace DL
open PySem PySem.Spec PyProof.Rows L2
theorem Cf.blk {k : Nat} {X : Cx} {c : RC} (cf : Cf k X c) {s : Shared} {H : Hp} {scope : Scope} {cenv : Env} {fp : List Addr} : Cf k (X.blk s H scope cenv fp) c := ⟨cf.kk, cf.gd, cf.hr, cf.calm⟩
/-- a def of the module, called by its name, no default -/
structure Cal (P : Program) (w : World) (K : PySem.W.Frag) (mg : Str → Option Value) (base : Heap) (c : RC) (k : Nat) (x : Str) (n : Nat) (fm : MF) : Prop where
  ex : ∃ f fd ps, mg x = some (.ref f) ∧ PySem.W.keepIn K (.ref f) = true ∧ Binds K fd ps [] ∧ FnG P w K mg base k f fd ps (spM c n fm)
section
variable {X : Cx} {c : RC} {W : WX} {j k n : Nat} {fm : MF} {x : Str} {p pos : Pos} {e : Expr} {es : List Expr} {m : MA}
theorem ce_cal (cf : Cf k X c) (tk : Takes X W) (C : Cal X.prog X.w X.K X.mg X.base c j x n fm) (hjk : j ≤ k) (ha : CA X c W (e :: es) m) (hg : Gl X x := by rfl) (hdb : (x == ("__debug__" : Str)) = false := by decide) (he : starEach (e :: es) X.env = (false, eval e X.env) :: starEach es X.env := by rfl)
    (hpl : (backTo pos (starEach es X.env)).any (·.1) = false := by rfl) : CE X c W (.Call (.Name x p) (e :: es) [] pos) (mCall (cut n fm []) m) := by
  obtain ⟨f, fd, ps, hm, hk, hb, F⟩ := C.ex
  exact ce_callN cf tk (F.mono hjk) hm hk hb ha hg hdb he hpl
end
/-- the built-in classes that own errors stand over -/
def bnOf : Nat → String
  | 0 => "ValueError"
  | 1 => "LookupError"
  | 2 => "RuntimeError"
  | _ => "OverflowError"
def bmOf : Nat → List Value
  | 0 => [.type "ValueError", .type "Exception", .type "BaseException", .type "object"]
  | 1 => [.type "LookupError", .type "Exception", .type "BaseException", .type "object"]
  | 2 => [.type "RuntimeError", .type "Exception", .type "BaseException", .type "object"]
  | _ => [.type "OverflowError", .type "ArithmeticError", .type "Exception", .type "BaseException", .type "object"]
def nidOf : Nat → String
  | 0 => "ValueError.__new__"
  | 1 => "LookupError.__new__"
  | 2 => "RuntimeError.__new__"
  | _ => "OverflowError.__new__"
theorem base_facts (b : Nat) : ∃ iid, ExcBaseFacts (bnOf b) (nidOf b) iid (bmOf b) ∧ StoreFacts (bnOf b) (bmOf b) "object.__setattr__" "object" := by
  match b with
  | 0 => exact ⟨_, PySem.F.excBase_ValueError, PySem.F.store_ValueError⟩
  | 1 => exact ⟨_, PySem.F.excBase_LookupError, PySem.F.store_LookupError⟩
  | 2 => exact ⟨_, PySem.F.excBase_RuntimeError, PySem.F.store_RuntimeError⟩
  | _ + 3 => exact ⟨_, PySem.F.excBase_OverflowError, PySem.F.store_OverflowError⟩
def blkB (N : List Str) (sc scope : Scope) (own : List (Str × Nat)) : Bool :=
  decide (scope.kind = .function) && (scope.names.all (fun y => decide (scope.names.lookup y.1 = some y.2)) && (own.all (fun p => decide (N[p.2]? = some p.1)) && (scope.names.all (fun y => !decide (y.2 = .free) || (decide (sc.names.lookup y.1 = some .cell) || decide (sc.names.lookup y.1 = some .free)))
    && scope.names.all (fun y => !(decide (y.2 = .local) || decide (y.2 = .cell)) || (decide (y.1 ∈ own.map (·.1)) || !decide (y.1 ∈ N))))))
theorem blk_by {N : List Str} {sc scope : Scope} {own : List (Str × Nat)} (h : blkB N sc scope own = true) : BlkOk N sc scope own := by
  unfold blkB at h
  obtain ⟨h1, h⟩ := band h
  obtain ⟨h2, h⟩ := band h
  obtain ⟨h3, h⟩ := band h
  obtain ⟨h4, h5⟩ := band h
  refine ⟨of_decide_eq_true h1, fun y hy => of_decide_eq_true (List.all_eq_true.mp h2 y hy), fun p hp => of_decide_eq_true (List.all_eq_true.mp h3 p hp), fun y hy e => ?_, fun y hy e => ?_⟩
  · have := List.all_eq_true.mp h4 y hy
    simpa [e] using this
  · have := List.all_eq_true.mp h5 y hy
    rcases e with e | e <;> simpa [e] using this
end DL

end
section
/-! DL, part k: running mirrors in the plain. -/
namespace DL
open PySem PySem.Spec L2
section
variable {a b : MS} {δ δ1 δ2 : Sl} {S S1 S2 : Sto} {m me mo mi : ME} {mt : MT} {ma : MA} {gm : MG} {d : D} {ds : List D} {i j : Nat} {r : F}
theorem seq_nx (h : a δ S = .nx δ1 S1) : sSeq a b δ S = b δ1 S1 := by
  unfold sSeq
  rw [h]
theorem seq_ret (h : a δ S = .ret d S1) : sSeq a b δ S = .ret d S1 := by
  unfold sSeq
  rw [h]
theorem seq_exc {k : Nat} {vs : List D} (h : a δ S = .exc k vs δ1 S1) : sSeq a b δ S = .exc k vs δ1 S1 := by
  unfold sSeq
  rw [h]
theorem set_ok (h : m δ S = .ok d S1) : sSet i m δ S = .nx (δ.set i (some d)) S1 := by
  unfold sSet
  rw [h]
  rfl
theorem ret_ok (h : m δ S = .ok d S1) : sRet m δ S = .ret d S1 := by
  unfold sRet
  rw [h]
  rfl
theorem drop_ok (h : m δ S = .ok d S1) : sDrop m δ S = .nx δ S1 := by
  unfold sDrop
  rw [h]
  rfl
theorem if_t (h : mt δ S = .ok true S1) : sIf mt a b δ S = a δ S1 := by
  unfold sIf
  rw [h]
  rfl
theorem if_f (h : mt δ S = .ok false S1) : sIf mt a b δ S = b δ S1 := by
  unfold sIf
  rw [h]
  rfl
theorem if_pass (h : mt δ S = .ok false S1) : sIf mt a sNx δ S = .nx δ S1 := if_f h
theorem for_ok' (h : ma δ S = .ok ds S1) : sFor ma gm b δ S = forGo gm b ds δ S1 := by
  unfold sFor
  rw [h]
  rfl
theorem par_ok {x y : D} (h : ma δ S = .ok [x, y] S1) : sPar i j ma δ S = .nx ((δ.set i (some x)).set j (some y)) S1 := by
  unfold sPar
  rw [h]
  rfl
theorem asg_ok (h : m δ S = .ok d S1) (hg : gm.f d δ = some δ1) : sAsg m gm δ S = .nx δ1 S1 := by
  unfold sAsg
  rw [h]
  simp only [R.flow_ok, hg]
theorem un_ok {f : D → Sto → R D} (h : m δ S = .ok d S1) : mUn f m δ S = f d S1 := by
  unfold mUn
  rw [h]
  rfl
theorem bin_ok {f : D → D → Sto → R D} {x y : D} (h : m δ S = .ok x S1) (k : me δ S1 = .ok y S2) : mBin f m me δ S = f x y S2 := by
  unfold mBin
  rw [h, R.bind_ok, k]
  rfl
theorem call_ok {f : List D → Sto → R D} (h : ma δ S = .ok ds S1) : mCall f ma δ S = f ds S1 := by
  unfold mCall
  rw [h]
  rfl
theorem cons_ok (h : m δ S = .ok d S1) (k : ma δ S1 = .ok ds S2) : mCons m ma δ S = .ok (d :: ds) S2 := by
  unfold mCons
  rw [h, R.bind_ok, k]
  rfl
theorem nil_ok : mNil δ S = .ok [] S := rfl
theorem c_ok : mC d δ S = .ok d S := rfl
theorem var_ok (h : δ[i]? = some (some d)) : mVar i δ S = .ok d S := by
  unfold mVar
  rw [h]
theorem test_ok {k : Bool} (h : m δ S = .ok (.bl k) S1) : mTest m δ S = .ok k S1 := by
  unfold mTest
  rw [h]
  rfl
theorem ifE_t (h : mt δ S = .ok true S1) : mIf mt m me δ S = m δ S1 := by
  unfold mIf
  rw [h]
  rfl
theorem ifE_f (h : mt δ S = .ok false S1) : mIf mt m me δ S = me δ S1 := by
  unfold mIf
  rw [h]
  rfl
/-- a loop over whose items the body keeps P -/
theorem for_keep {P : Sl → Sto → Prop} (hb : ∀ d ∈ ds, ∀ δ S, P δ S → ∃ δ0 δ' S', gm.f d δ = some δ0 ∧ b δ0 S = .nx δ' S' ∧ P δ' S') : ∀ δ S, P δ S → ∃ δ' S', forGo gm b ds δ S = .nx δ' S' ∧ P δ' S' := by
  induction ds with
  | nil => exact fun δ S h => ⟨δ, S, rfl, h⟩
  | cons d r ih =>
    intro δ S h
    obtain ⟨δ0, δ1, S1, e1, e2, h1⟩ := hb d List.mem_cons_self δ S h
    obtain ⟨δ', S', e, h'⟩ := ih (fun d hd => hb d (List.mem_cons_of_mem _ hd)) δ1 S1 h1
    refine ⟨δ', S', ?_, h'⟩
    unfold forGo
    rw [e1]
    simp only [e2]
    exact e
end
/-- the data that are as they are kept -/
theorem atI_nat {α : Type} {xs : List α} {i : Nat} (h : i < xs.length) : atI xs (i : Int) = some xs[i] := by
  unfold atI ixN
  rw [if_pos (by omega), if_pos (by omega)]
  simp [h]
theorem lc_go {gm : MG} {e : ME} {δ : Sl} {S : Sto} {f : D → D} : ∀ {items : List D} (acc : List D), (∀ d ∈ items, ∃ δ1, gm.f d δ = some δ1 ∧ e δ1 S = .ok (f d) S) → lcGo gm tOk e δ items acc S = .ok (acc ++ items.map f) S
  | [], acc, _ => by simp [lcGo]
  | d :: r, acc, h => by
    obtain ⟨δ1, e1, e2⟩ := h d List.mem_cons_self
    have ih := lc_go (gm := gm) (e := e) (δ := δ) (S := S) (f := f) (items := r) (acc ++ [f d]) fun d hd => h d (List.mem_cons_of_mem _ hd)
    unfold lcGo
    rw [e1]
    simp only [tOk, R.bind_ok, if_true, e2]
    rw [ih]
    simp
theorem lc_all {gm : MG} {e : ME} {mi : MA} {vs : List Nat} {fin : List D → Sto → R D} {δ : Sl} {S : Sto} {items : List D} {f : D → D} (hm : mi δ S = .ok items S) (hl : items.length ≤ 16777216) (h : ∀ d ∈ items, ∃ δ1, gm.f d (wipeD δ vs) = some δ1 ∧ e δ1 S = .ok (f d) S) :
    mLc mi gm vs tOk e fin δ S = fin (items.map f) S := by
  unfold mLc
  rw [hm, R.bind_ok, if_pos hl, lc_go [] h]
  rfl
theorem app_step {e : ME} {i : Nat} {δ : Sl} {A : Sto} {rows : List D} {v : D} (hm : δ[i]? = some (some (.loc A.length))) (he : e δ (A ++ [.lst rows]) = .ok v (A ++ [.lst rows])) (hv : v.clean = true) (hl : rows.length < 16777216) :
    sDrop (mMeth1 isSq fApp (mVar i) e) δ (A ++ [.lst rows]) = .nx δ (A ++ [.lst (rows ++ [v])]) := by
  refine drop_ok (d := .non) ?_
  have e1 : mVar i δ (A ++ [.lst rows]) = .ok (.loc A.length) (A ++ [.lst rows]) := var_ok hm
  unfold mMeth1
  rw [e1]
  simp [isSq, D.seq, he, fApp, hl, hv]
/-- equal lists of truth values -/
theorem pyL_bools : ∀ l : List Bool, D.pyL (l.map D.bl) = some (l.map PyData.bool)
  | [] => rfl
  | b :: r => by
    rw [List.map_cons, D.pyL, pyL_bools r]
    rfl
theorem lay_bools : ∀ l : List Bool, PyData.canLayAll0 (l.map PyData.bool) = true
  | [] => rfl
  | b :: r => by
    rw [List.map_cons, PyData.canLayAll0, lay_bools r]
    rfl
theorem depth_bools : ∀ l : List Bool, PyData.depthAll (l.map PyData.bool) = 0
  | [] => rfl
  | b :: r => by
    rw [List.map_cons, PyData.depthAll, depth_bools r]
    rfl
theorem eqv_bools : ∀ l : List Bool, PyData.eqvAll (l.map PyData.bool) (l.map PyData.bool) = true
  | [] => rfl
  | b :: r => by
    rw [List.map_cons, PyData.eqvAll, eqv_bools r, PyData.eqv]
    simp
theorem ne_bools (l : List Bool) (S : Sto) : fNe (.lst (l.map D.bl)) (.lst (l.map D.bl)) S = .ok (.bl false) S := by
  have e : fNe (.lst (l.map D.bl)) (.lst (l.map D.bl)) S = fNeT (.lst (l.map D.bl)) (.lst (l.map D.bl)) S := rfl
  have sh : SeqAt.shaped (.list (l.map PyData.bool)) = true := by
    unfold SeqAt.shaped
    rw [PyData.canLay0, PyData.depth, lay_bools, depth_bools]
    rfl
  rw [e, fNeT]
  simp only [D.pyS, D.py, pyL_bools, Option.map_some, sh, and_self, if_true, PyData.eqv, eqv_bools, Bool.not_true]
def RG (n : Int) (S1 : Sto) : R (List D) := if fits62 n = true then .ok ((List.range n.toNat).map fun (i : Nat) => D.int (i : Int)) S1 else .bad
theorem rg1 {m : MA} {δ : Sl} {S S1 : Sto} {n : Int} (h : m δ S = .ok [.int n] S1) : mRgI m δ S = RG n S1 := by
  unfold mRgI
  rw [h]
  rfl
theorem rg2 (n : Nat) (hn : n < 1000000) (S : Sto) : RG n S = .ok ((List.range (n : Int).toNat).map fun (i : Nat) => D.int (i : Int)) S := if_pos (fits62_nat hn)
theorem rg3 (n : Nat) (hn : n < 1000000) (S : Sto) : RG n S = .ok ((List.range n).map fun (i : Nat) => D.int (i : Int)) S := by
  rw [rg2 n hn]
  rfl
theorem range_of {m : ME} {n : Nat} {δ : Sl} {S S1 : Sto} (h : m δ S = .ok (.int (n : Int)) S1) (hn : n < 1000000) : mRgI (mCons m mNil) δ S = .ok ((List.range n).map fun (i : Nat) => D.int (i : Int)) S1 := (rg1 (cons_ok h nil_ok)).trans (rg3 n hn S1)
section
variable {m m2 m3 : ME} {δ : Sl} {S S1 S2 S3 : Sto} {x y z : D} {f : MF}
theorem call1 (h : m δ S = .ok x S1) : mCall (cut 1 f []) (mCons m mNil) δ S = f [x] S1 := (call_ok (cons_ok h nil_ok)).trans rfl
theorem call2 (h : m δ S = .ok x S1) (h2 : m2 δ S1 = .ok y S2) : mCall (cut 2 f []) (mCons m (mCons m2 mNil)) δ S = f [x, y] S2 := (call_ok (cons_ok h (cons_ok h2 nil_ok))).trans rfl
theorem call3 (h : m δ S = .ok x S1) (h2 : m2 δ S1 = .ok y S2) (h3 : m3 δ S2 = .ok z S3) : mCall (cut 3 f []) (mCons m (mCons m2 (mCons m3 mNil))) δ S = f [x, y, z] S3 := (call_ok (cons_ok h (cons_ok h2 (cons_ok h3 nil_ok)))).trans rfl
end
end DL

end
section
/-! printed by gen.py: the mirrors and the walk. -/
namespace K22
open PySem PySem.Spec PyProof.Rows L2 DL
def top (i : Nat) : Stmt := PySem.Challenge.pw_pastnotes_k22_errors_made.main.body.getD i (.Pass ⟨0, 0, 0, 0⟩)
def FL : Nat → List Str
  | 0 => ["name"]
  | 1 => ["note"]
  | 2 => ["move"]
  | 3 => ["deed"]
  | 4 => ["keep"]
  | 5 => ["index"]
  | 6 => ["worths"]
  | 7 => ["value"]
  | 8 => ["moment"]
  | 9 => ["thing"]
  | 10 => ["index"]
  | 11 => ["target"]
  | 12 => ["back"]
  | 13 => ["side"]
  | 14 => ["price"]
  | 15 => ["line"]
  | 16 => ["name"]
  | 17 => ["deed", "column"]
  | 19 => ["name"]
  | 20 => ["name"]
  | 21 => ["moment"]
  | 22 => ["situation"]
  | 24 => ["deed", "state"]
  | 26 => ["target", "moment", "writers"]
  | 27 => ["limit"]
  | _ => []
def CNs : List Str := (["BadName", "BadNote", "BadMove", "BadDeed", "BadKeep", "BadStep", "BadValues", "BadValue", "BadMoment", "BadRow", "BadEntry", "BadTarget"] : List Str) ++ (["BadBack", "BadSide", "BadPrice", "BadText", "Twice", "NotWritten", "OtherDeeds", "NoDeed", "NoColumn", "NoMoment", "NoSituation", "NoHistory"] : List Str) ++ (["NotAllowed", "InCall", "Unsure", "TooMany"] : List Str)
def CN (k : Nat) : Str := CNs.getD k ""
def cc (K : PySem.W.Frag) : RC := ⟨K, fun k => He.ga K (CN k), FL⟩
def bases : List Nat := [0, 0, 0, 0, 0, 0, 0, 0, 0, 0, 0, 0, 0, 0, 0, 0, 0, 0, 0, 1, 1, 1, 1, 1, 2, 2, 2, 3]
/-- is an error of class k one of class j; one of the built-in class b -/
def subO (j : Nat) : TD → Option Bool
  | .c k => if k < 28 then some (k == j) else none
  | .b _ => none
def subB (b : Nat) : TD → Option Bool
  | .c k => if k < 28 then some (bases.getD k 9 == b) else none
  | .b _ => none
def d_law_bag.N : List Str := ["_law_script", "_law_at", "_law_cell", "_law_blend", "_law_k", "_law_each"]
def m_law_bag : MS := sSeq (sSet 2 (mIf (mTest (mBin fLt (mVar 1) (mCall fLenS (mCons (mVar 0) (mNil))))) (mBin fIx (mVar 0) (mVar 1)) (mC (.int 0)))) (sSeq (sSet 3 (mBin fAdd (mBin fMul (mC (.int 7411)) (mVar 1)) (mC (.int 271)))) (sSeq (sFor (mEnI (mSlice (mVar 0) none (some (mC (.int 40))))) (gT [gN 4, gN 5]) (sSet 3 (mBin fMod (mCall fInt (mCons (mBin fAdd (mBin fAdd (mBin fAdd (mBin fMul (mVar 3) (mC (.int 40014))) (mBin fMod (mCall fInt (mCons (mVar 5) (mNil))) (mC (.int 2147483399)))) (mBin fMul (mC (.int 53)) (mVar 4))) (mC (.int 17))) (mNil))) (mC (.int 2147483563))))) (sRet (mCall fLstC (mCons (mIf (mTest (mBin fGe (mCall fAbs (mCons (mVar 2) (mNil))) (mBin fPow (mC (.int 10)) (mC (.int 18))))) (mCall fAbs (mCons (mVar 2) (mNil))) (mC (.int 0))) (mCons (mVar 3) (mNil)))))))
def f_law_bag : MF := mDef finK 6 m_law_bag
def d_law_take.N : List Str := ["_law_bag_here", "_law_many", "_law_digit"]
def m_law_take : MS := sSeq (sIf (mTest (mBin fGt (mBin fIx (mVar 0) (mC (.int 0))) (mC (.int 0)))) (sSeq (sSet 2 (mBin fMod (mCall fInt (mCons (mBin fIx (mVar 0) (mC (.int 0))) (mNil))) (mVar 1))) (sSeq (sSub (mBin fDiv (mBin fIx (mVar 0) (mC (.int 0))) (mVar 1)) (mVar 0) (mC (.int 0))) (sRet (mVar 2)))) (sNx)) (sSeq (sSub (mBin fMod (mCall fInt (mCons (mBin fAdd (mBin fMul (mBin fIx (mVar 0) (mC (.int 1))) (mC (.int 40692))) (mC (.int 3571))) (mNil))) (mC (.int 2147483399))) (mVar 0) (mC (.int 1))) (sRet (mBin fMod (mBin fDiv (mBin fMod (mCall fInt (mCons (mBin fMul (mBin fDiv (mBin fIx (mVar 0) (mC (.int 1))) (mC (.int 13))) (mC (.int 69691))) (mNil))) (mC (.int 2147483563))) (mC (.int 16))) (mVar 1))))
def f_law_take : MF := mDef finD 3 m_law_take
def d_law_of.N : List Str := ["_law_bag_here", "_law_some"]
def m_law_of : MS := sRet (mBin fIx (mVar 1) (mCall (cut 2 f_law_take []) (mCons (mVar 0) (mCons (mCall fLenS (mCons (mVar 1) (mNil))) (mNil)))))
def f_law_of : MF := mDef finD 2 m_law_of
def d_law_thing.N : List Str := ["_law_bag_here", "_law_things"]
def m_law_thing : MS := sSeq (sSet 1 (mCall fLst (mCons (mC .non) (mCons (mC (.bl true)) (mCons (mC (.bl false)) (mCons (mC (.int 0)) (mCons (mC (.int 1)) (mCons (mUn fNeg (mC (.int 5))) (mCons (mBin fPow (mC (.int 10)) (mC (.int 30))) (mCons (mC (.str "")) (mCons (mC (.str "name")) (mCons (mC (.str "a b")) (mCons (mCall fLst (mNil)) (mCons (mCall fLst (mCons (mC (.int 1)) (mCons (mC (.str "x")) (mNil)))) (mCons (mCall fTup (mNil)) (mCons (mCall fTup (mCons (mC (.str "a")) (mCons (mC (.int 2)) (mNil)))) (mCons (mC (.dic [] [])) (mCons (mUn (fDic1 "state") (mC (.str "on"))) (mNil))))))))))))))))))) (sRet (mCall (cut 2 f_law_of []) (mCons (mVar 0) (mCons (mVar 1) (mNil)))))
def f_law_thing : MF := mDef finD 2 m_law_thing
def d_law_values.N : List Str := ["_law_thing_here", "_law_found"]
def m_law_values : MS := sSeq (sSet 1 (mCall fLst (mCons (mCall fTup (mCons (mCall (fExc 0 1) (mCons (mVar 0) (mNil))) (mCons (mUn (fAtt FL "name") (mCall (fExc 0 1) (mCons (mVar 0) (mNil)))) (mNil)))) (mCons (mCall fTup (mCons (mCall (fExc 1 1) (mCons (mVar 0) (mNil))) (mCons (mUn (fAtt FL "note") (mCall (fExc 1 1) (mCons (mVar 0) (mNil)))) (mNil)))) (mNil))))) (sSeq (sSet 1 (mBin fAdd (mVar 1) (mCall fLst (mCons (mCall fTup (mCons (mCall (fExc 2 1) (mCons (mVar 0) (mNil))) (mCons (mUn (fAtt FL "move") (mCall (fExc 2 1) (mCons (mVar 0) (mNil)))) (mNil)))) (mCons (mCall fTup (mCons (mCall (fExc 3 1) (mCons (mVar 0) (mNil))) (mCons (mUn (fAtt FL "deed") (mCall (fExc 3 1) (mCons (mVar 0) (mNil)))) (mNil)))) (mNil)))))) (sSeq (sSet 1 (mBin fAdd (mVar 1) (mCall fLst (mCons (mCall fTup (mCons (mCall (fExc 4 1) (mCons (mVar 0) (mNil))) (mCons (mUn (fAtt FL "keep") (mCall (fExc 4 1) (mCons (mVar 0) (mNil)))) (mNil)))) (mCons (mCall fTup (mCons (mCall (fExc 5 1) (mCons (mVar 0) (mNil))) (mCons (mUn (fAtt FL "index") (mCall (fExc 5 1) (mCons (mVar 0) (mNil)))) (mNil)))) (mNil)))))) (sSeq (sSet 1 (mBin fAdd (mVar 1) (mCall fLst (mCons (mCall fTup (mCons (mCall (fExc 6 1) (mCons (mVar 0) (mNil))) (mCons (mUn (fAtt FL "worths") (mCall (fExc 6 1) (mCons (mVar 0) (mNil)))) (mNil)))) (mCons (mCall fTup (mCons (mCall (fExc 7 1) (mCons (mVar 0) (mNil))) (mCons (mUn (fAtt FL "value") (mCall (fExc 7 1) (mCons (mVar 0) (mNil)))) (mNil)))) (mNil)))))) (sSeq (sSet 1 (mBin fAdd (mVar 1) (mCall fLst (mCons (mCall fTup (mCons (mCall (fExc 8 1) (mCons (mVar 0) (mNil))) (mCons (mUn (fAtt FL "moment") (mCall (fExc 8 1) (mCons (mVar 0) (mNil)))) (mNil)))) (mCons (mCall fTup (mCons (mCall (fExc 9 1) (mCons (mVar 0) (mNil))) (mCons (mUn (fAtt FL "thing") (mCall (fExc 9 1) (mCons (mVar 0) (mNil)))) (mNil)))) (mNil)))))) (sSeq (sSet 1 (mBin fAdd (mVar 1) (mCall fLst (mCons (mCall fTup (mCons (mCall (fExc 10 1) (mCons (mVar 0) (mNil))) (mCons (mUn (fAtt FL "index") (mCall (fExc 10 1) (mCons (mVar 0) (mNil)))) (mNil)))) (mCons (mCall fTup (mCons (mCall (fExc 11 1) (mCons (mVar 0) (mNil))) (mCons (mUn (fAtt FL "target") (mCall (fExc 11 1) (mCons (mVar 0) (mNil)))) (mNil)))) (mNil)))))) (sSeq (sSet 1 (mBin fAdd (mVar 1) (mCall fLst (mCons (mCall fTup (mCons (mCall (fExc 12 1) (mCons (mVar 0) (mNil))) (mCons (mUn (fAtt FL "back") (mCall (fExc 12 1) (mCons (mVar 0) (mNil)))) (mNil)))) (mCons (mCall fTup (mCons (mCall (fExc 13 1) (mCons (mVar 0) (mNil))) (mCons (mUn (fAtt FL "side") (mCall (fExc 13 1) (mCons (mVar 0) (mNil)))) (mNil)))) (mNil)))))) (sSeq (sSet 1 (mBin fAdd (mVar 1) (mCall fLst (mCons (mCall fTup (mCons (mCall (fExc 14 1) (mCons (mVar 0) (mNil))) (mCons (mUn (fAtt FL "price") (mCall (fExc 14 1) (mCons (mVar 0) (mNil)))) (mNil)))) (mCons (mCall fTup (mCons (mCall (fExc 15 1) (mCons (mVar 0) (mNil))) (mCons (mUn (fAtt FL "line") (mCall (fExc 15 1) (mCons (mVar 0) (mNil)))) (mNil)))) (mNil)))))) (sRet (mBin fAdd (mVar 1) (mCall fLst (mCons (mCall fTup (mCons (mCall (fExc 16 1) (mCons (mVar 0) (mNil))) (mCons (mUn (fAtt FL "name") (mCall (fExc 16 1) (mCons (mVar 0) (mNil)))) (mNil)))) (mNil))))))))))))
def f_law_values : MF := mDef finD 2 m_law_values
def d_law_kinds.N : List Str := ["_law_error", "_law_found"]
def m_law_kinds : MS := sSeq (sSet 1 (mCall fLst (mCons (mUn (fIsi (subO 0)) (mVar 0)) (mCons (mUn (fIsi (subO 1)) (mVar 0)) (mCons (mUn (fIsi (subO 2)) (mVar 0)) (mNil)))))) (sSeq (sSet 1 (mBin fAdd (mVar 1) (mCall fLst (mCons (mUn (fIsi (subO 3)) (mVar 0)) (mCons (mUn (fIsi (subO 4)) (mVar 0)) (mCons (mUn (fIsi (subO 5)) (mVar 0)) (mNil))))))) (sSeq (sSet 1 (mBin fAdd (mVar 1) (mCall fLst (mCons (mUn (fIsi (subO 6)) (mVar 0)) (mCons (mUn (fIsi (subO 7)) (mVar 0)) (mCons (mUn (fIsi (subO 8)) (mVar 0)) (mNil))))))) (sSeq (sSet 1 (mBin fAdd (mVar 1) (mCall fLst (mCons (mUn (fIsi (subO 9)) (mVar 0)) (mCons (mUn (fIsi (subO 10)) (mVar 0)) (mCons (mUn (fIsi (subO 11)) (mVar 0)) (mNil))))))) (sSeq (sSet 1 (mBin fAdd (mVar 1) (mCall fLst (mCons (mUn (fIsi (subO 12)) (mVar 0)) (mCons (mUn (fIsi (subO 13)) (mVar 0)) (mCons (mUn (fIsi (subO 14)) (mVar 0)) (mNil))))))) (sSeq (sSet 1 (mBin fAdd (mVar 1) (mCall fLst (mCons (mUn (fIsi (subO 15)) (mVar 0)) (mCons (mUn (fIsi (subO 16)) (mVar 0)) (mCons (mUn (fIsi (subO 17)) (mVar 0)) (mNil))))))) (sSeq (sSet 1 (mBin fAdd (mVar 1) (mCall fLst (mCons (mUn (fIsi (subO 18)) (mVar 0)) (mCons (mUn (fIsi (subO 19)) (mVar 0)) (mCons (mUn (fIsi (subO 20)) (mVar 0)) (mNil))))))) (sSeq (sSet 1 (mBin fAdd (mVar 1) (mCall fLst (mCons (mUn (fIsi (subO 21)) (mVar 0)) (mCons (mUn (fIsi (subO 22)) (mVar 0)) (mCons (mUn (fIsi (subO 23)) (mVar 0)) (mNil))))))) (sSeq (sSet 1 (mBin fAdd (mVar 1) (mCall fLst (mCons (mUn (fIsi (subO 24)) (mVar 0)) (mCons (mUn (fIsi (subO 25)) (mVar 0)) (mCons (mUn (fIsi (subO 26)) (mVar 0)) (mNil))))))) (sRet (mBin fAdd (mVar 1) (mCall fLst (mCons (mUn (fIsi (subO 27)) (mVar 0)) (mNil)))))))))))))
def f_law_kinds : MF := mDef finD 2 m_law_kinds
def d_law_under.N : List Str := ["_law_error", "_law_found"]
def m_law_under : MS := sSeq (sSet 1 (mCall fLst (mCons (mUn (fIsi (subB 0)) (mVar 0)) (mCons (mUn (fIsi (subB 1)) (mVar 0)) (mCons (mUn (fIsi (subB 2)) (mVar 0)) (mNil)))))) (sRet (mBin fAdd (mVar 1) (mCall fLst (mCons (mUn (fIsi (subB 3)) (mVar 0)) (mNil)))))
def f_law_under : MF := mDef finD 2 m_law_under
def dlaw.N : List Str := (["_law_script", "_law_at", "_law_bag_here", "_law_thing_here", "_law_other", "_law_third", "_law_rows", "_law_error", "_law_told", "_law_written", "_law_refused", "_law_unsure"] : List Str) ++ (["_law_k", "_law_due", "_law_place", "_law_kinds_here", "_law_n"] : List Str)
def mlaw : MS := sSeq (sFor (mRgI (mCons (mCall fMax (mCons (mC (.int 1)) (mCons (mCall fMin (mCons (mC (.int 8)) (mCons (mCall fLenS (mCons (mVar 0) (mNil))) (mNil)))) (mNil)))) (mNil))) (gN 1) (sSeq (sSet 2 (mCall (cut 2 f_law_bag []) (mCons (mVar 0) (mCons (mVar 1) (mNil))))) (sSeq (sSet 3 (mCall (cut 1 f_law_thing []) (mCons (mVar 2) (mNil)))) (sSeq (sPar 4 5 (mCons (mCall (cut 1 f_law_thing []) (mCons (mVar 2) (mNil))) (mCons (mCall (cut 1 f_law_thing []) (mCons (mVar 2) (mNil))) (mNil)))) (sSeq (sSet 6 (mLc (mSeqI (mCall (cut 1 f_law_values []) (mCons (mVar 3) (mNil)))) (gT [gN 7, gN 8]) [7, 8] (tOk) (mCall fTup (mCons (mVar 7) (mCons (mVar 8) (mCons (mVar 3) (mCons (mC (.int 0)) (mNil)))))) finC)) (sSeq (sSet 9 (mCall (fExc 17 2) (mCons (mVar 3) (mCons (mVar 4) (mNil))))) (sSeq (sDrop (mMeth1 isSq fApp (mVar 6) (mCall fTup (mCons (mVar 9) (mCons (mCall fTup (mCons (mUn (fAtt FL "deed") (mVar 9)) (mCons (mUn (fAtt FL "column") (mVar 9)) (mNil)))) (mCons (mCall fTup (mCons (mVar 3) (mCons (mVar 4) (mNil)))) (mCons (mC (.int 0)) (mNil)))))))) (sSeq (sDrop (mMeth1 isSq fApp (mVar 6) (mCall fTup (mCons (mC (.exv 18 [])) (mCons (mC (.int 0)) (mCons (mC (.int 0)) (mCons (mC (.int 0)) (mNil)))))))) (sSeq (sDrop (mMeth1 isSq fApp (mVar 6) (mCall fTup (mCons (mCall (fExc 19 1) (mCons (mVar 3) (mNil))) (mCons (mUn (fAtt FL "name") (mCall (fExc 19 1) (mCons (mVar 3) (mNil)))) (mCons (mVar 3) (mCons (mC (.int 1)) (mNil)))))))) (sSeq (sDrop (mMeth1 isSq fApp (mVar 6) (mCall fTup (mCons (mCall (fExc 20 1) (mCons (mVar 4) (mNil))) (mCons (mUn (fAtt FL "name") (mCall (fExc 20 1) (mCons (mVar 4) (mNil)))) (mCons (mVar 4) (mCons (mC (.int 1)) (mNil)))))))) (sSeq (sDrop (mMeth1 isSq fApp (mVar 6) (mCall fTup (mCons (mCall (fExc 21 1) (mCons (mVar 3) (mNil))) (mCons (mUn (fAtt FL "moment") (mCall (fExc 21 1) (mCons (mVar 3) (mNil)))) (mCons (mVar 3) (mCons (mC (.int 1)) (mNil)))))))) (sSeq (sDrop (mMeth1 isSq fApp (mVar 6) (mCall fTup (mCons (mCall (fExc 22 1) (mCons (mVar 4) (mNil))) (mCons (mUn (fAtt FL "situation") (mCall (fExc 22 1) (mCons (mVar 4) (mNil)))) (mCons (mVar 4) (mCons (mC (.int 1)) (mNil)))))))) (sSeq (sDrop (mMeth1 isSq fApp (mVar 6) (mCall fTup (mCons (mC (.exv 23 [])) (mCons (mC (.int 0)) (mCons (mC (.int 0)) (mCons (mC (.int 1)) (mNil)))))))) (sSeq (sSet 10 (mCall (fExc 24 2) (mCons (mVar 3) (mCons (mVar 5) (mNil))))) (sSeq (sDrop (mMeth1 isSq fApp (mVar 6) (mCall fTup (mCons (mVar 10) (mCons (mCall fTup (mCons (mUn (fAtt FL "deed") (mVar 10)) (mCons (mUn (fAtt FL "state") (mVar 10)) (mNil)))) (mCons (mCall fTup (mCons (mVar 3) (mCons (mVar 5) (mNil)))) (mCons (mC (.int 2)) (mNil)))))))) (sSeq (sDrop (mMeth1 isSq fApp (mVar 6) (mCall fTup (mCons (mC (.exv 25 [])) (mCons (mC (.int 0)) (mCons (mC (.int 0)) (mCons (mC (.int 2)) (mNil)))))))) (sSeq (sSet 11 (mCall (fExc 26 3) (mCons (mVar 3) (mCons (mVar 4) (mCons (mVar 5) (mNil)))))) (sSeq (sDrop (mMeth1 isSq fApp (mVar 6) (mCall fTup (mCons (mVar 11) (mCons (mCall fTup (mCons (mUn (fAtt FL "target") (mVar 11)) (mCons (mUn (fAtt FL "moment") (mVar 11)) (mCons (mUn (fAtt FL "writers") (mVar 11)) (mNil))))) (mCons (mCall fTup (mCons (mVar 3) (mCons (mVar 4) (mCons (mVar 5) (mNil))))) (mCons (mC (.int 2)) (mNil)))))))) (sSeq (sDrop (mMeth1 isSq fApp (mVar 6) (mCall fTup (mCons (mCall (fExc 27 1) (mCons (mVar 5) (mNil))) (mCons (mUn (fAtt FL "limit") (mCall (fExc 27 1) (mCons (mVar 5) (mNil)))) (mCons (mVar 5) (mCons (mC (.int 3)) (mNil)))))))) (sFor (mRgI (mCons (mCall fLenS (mCons (mVar 6) (mNil))) (mNil))) (gN 12) (sSeq (sAsg (mBin fIx (mVar 6) (mVar 12)) (gT [gN 7, gN 8, gN 13, gN 14])) (sSeq (sIf (mTest (mBin fNe (mCall fRepr (mCons (mVar 8) (mNil))) (mCall fRepr (mCons (mVar 13) (mNil))))) (sRet (mC (.bl false))) (sNx)) (sSeq (sSet 15 (mLc (mRgI (mCons (mC (.int 28)) (mNil))) (gN 16) [16] (tOk) (mBin fEq (mVar 16) (mVar 12)) finL)) (sSeq (sIf (mTest (mBin fNe (mCall (cut 1 f_law_kinds []) (mCons (mVar 7) (mNil))) (mVar 15))) (sRet (mC (.bl false))) (sNx)) (sIf (mTest (mBin fNe (mCall (cut 1 f_law_under []) (mCons (mVar 7) (mNil))) (mLc (mRgI (mCons (mC (.int 4)) (mNil))) (gN 16) [16] (tOk) (mBin fEq (mVar 16) (mVar 14)) finL))) (sRet (mC (.bl false))) (sNx)))))))))))))))))))))))))) (sRet (mC (.bl true)))
def flaw : MF := mDef finD 17 mlaw
def glos : List Str := (["BadName", "BadNote", "BadMove", "BadDeed", "BadKeep", "BadStep", "BadValues", "BadValue", "BadMoment", "BadRow", "BadEntry", "BadTarget"] : List Str) ++ (["BadBack", "BadSide", "BadPrice", "BadText", "Twice", "NotWritten", "OtherDeeds", "NoDeed", "NoColumn", "NoMoment", "NoSituation", "NoHistory"] : List Str) ++ (["NotAllowed", "InCall", "Unsure", "TooMany", "_law_bag", "_law_take", "_law_of", "_law_thing", "_law_values", "_law_kinds", "_law_under", "law"] : List Str)
/-- what the head tells -/
structure Kn (P : Program) (w : World) (K : PySem.W.Frag) (mg : Str → Option Value) (base : Heap) : Prop where
  gl : ∀ x, x ∈ glos → mg x = some (.ref (He.ga K x))
  free_LookupError : mg "LookupError" = none
  free_OverflowError : mg "OverflowError" = none
  free_RuntimeError : mg "RuntimeError" = none
  free_ValueError : mg "ValueError" = none
  free_abs : mg "abs" = none
  free_enumerate : mg "enumerate" = none
  free_int : mg "int" = none
  free_isinstance : mg "isinstance" = none
  free_len : mg "len" = none
  free_max : mg "max" = none
  free_min : mg "min" = none
  free_range : mg "range" = none
  free_repr : mg "repr" = none
  sy : SysIn K
  ea : ∀ k, k < 28 → ErrA K (He.ga K (CN k))
  rc : RcOk (cc K)
  kc : ∀ k, k < 28 → PySem.W.keepIn K (.ref (He.ga K (CN k))) = true
  e0 : ∀ k, k < 28 → FL k = [] → PySem.W.excIn K (He.ga K (CN k)) (bmOf (bases.getD k 9)) (nidOf (bases.getD k 9)) = true
  so : ∀ j, j < 28 → ∀ t b, subO j t = some b → t.ok (cc K) ∧ PySem.W.kitOne K (t.v (cc K)) (.ref (He.ga K (CN j))) = some b
  sb : ∀ j, j < 4 → ∀ t b, subB j t = some b → t.ok (cc K) ∧ PySem.W.kitOne K (t.v (cc K)) (.type (bnOf j)) = some b
  mk0 : ErrM P w K mg base (cc K) 1 0 1
  mk1 : ErrM P w K mg base (cc K) 1 1 1
  mk2 : ErrM P w K mg base (cc K) 1 2 1
  mk3 : ErrM P w K mg base (cc K) 1 3 1
  mk4 : ErrM P w K mg base (cc K) 1 4 1
  mk5 : ErrM P w K mg base (cc K) 1 5 1
  mk6 : ErrM P w K mg base (cc K) 1 6 1
  mk7 : ErrM P w K mg base (cc K) 1 7 1
  mk8 : ErrM P w K mg base (cc K) 1 8 1
  mk9 : ErrM P w K mg base (cc K) 1 9 1
  mk10 : ErrM P w K mg base (cc K) 1 10 1
  mk11 : ErrM P w K mg base (cc K) 1 11 1
  mk12 : ErrM P w K mg base (cc K) 1 12 1
  mk13 : ErrM P w K mg base (cc K) 1 13 1
  mk14 : ErrM P w K mg base (cc K) 1 14 1
  mk15 : ErrM P w K mg base (cc K) 1 15 1
  mk16 : ErrM P w K mg base (cc K) 1 16 1
  mk17 : ErrM P w K mg base (cc K) 1 17 2
  mk19 : ErrM P w K mg base (cc K) 1 19 1
  mk20 : ErrM P w K mg base (cc K) 1 20 1
  mk21 : ErrM P w K mg base (cc K) 1 21 1
  mk22 : ErrM P w K mg base (cc K) 1 22 1
  mk24 : ErrM P w K mg base (cc K) 1 24 2
  mk26 : ErrM P w K mg base (cc K) 1 26 3
  mk27 : ErrM P w K mg base (cc K) 1 27 1
  fn_law_bag : ∃ fd, FunD K "_law_bag" "_law_bag" (defArgs (top 30)) (defBody (top 30)) (defScope (top 30)) [] [] (He.ga K "_law_bag") fd
  fn_law_take : ∃ fd, FunD K "_law_take" "_law_take" (defArgs (top 31)) (defBody (top 31)) (defScope (top 31)) [] [] (He.ga K "_law_take") fd
  fn_law_of : ∃ fd, FunD K "_law_of" "_law_of" (defArgs (top 32)) (defBody (top 32)) (defScope (top 32)) [] [] (He.ga K "_law_of") fd
  fn_law_thing : ∃ fd, FunD K "_law_thing" "_law_thing" (defArgs (top 33)) (defBody (top 33)) (defScope (top 33)) [] [] (He.ga K "_law_thing") fd
  fn_law_values : ∃ fd, FunD K "_law_values" "_law_values" (defArgs (top 34)) (defBody (top 34)) (defScope (top 34)) [] [] (He.ga K "_law_values") fd
  fn_law_kinds : ∃ fd, FunD K "_law_kinds" "_law_kinds" (defArgs (top 35)) (defBody (top 35)) (defScope (top 35)) [] [] (He.ga K "_law_kinds") fd
  fn_law_under : ∃ fd, FunD K "_law_under" "_law_under" (defArgs (top 36)) (defBody (top 36)) (defScope (top 36)) [] [] (He.ga K "_law_under") fd
  fnlaw : ∃ fd, FunD K "law" "law" (defArgs (top 37)) (defBody (top 37)) (defScope (top 37)) [] [] (He.ga K "law") fd
section
variable {P : Program} {w : World} {K : PySem.W.Frag} {mg : Str → Option Value} {base : Heap}
theorem w_law_bag (Y : Kn P w K mg base) {fd : FuncData} (F : FunD K "_law_bag" "_law_bag" (defArgs (top 30)) (defBody (top 30)) (defScope (top 30)) [] [] (He.ga K "_law_bag") fd) : FnG P w K mg base 1 (He.ga K "_law_bag") fd ["_law_script", "_law_at"] (spM (cc K) 2 f_law_bag) := by
  have S : FnScope d_law_bag.N ["_law_script", "_law_at"] (defScope (top 30)) := C8.fnScope_by (by decide +kernel)
  refine def_ok (c := cc K) (k := 0) (N := d_law_bag.N) (fin := finK) (m := m_law_bag) rfl F S fin_cell (fun cdv A outer s H E cf => ?_)
  have tk : Takes (cxOf (L2.CX P w) P w K mg base d_law_bag.N "_law_bag" (defScope (top 30)) (He.ga K "_law_bag") cdv A outer s H E) (fun cls d _ H => E cls d H) := takes_of rfl rfl rfl rfl
  have hp : PassesOwn (model P w) (cxOf (L2.CX P w) P w K mg base d_law_bag.N "_law_bag" (defScope (top 30)) (He.ga K "_law_bag") cdv A outer s H E).A (cxOf (L2.CX P w) P w K mg base d_law_bag.N "_law_bag" (defScope (top 30)) (He.ga K "_law_bag") cdv A outer s H E).env (cxOf (L2.CX P w) P w K mg base d_law_bag.N "_law_bag" (defScope (top 30)) (He.ga K "_law_bag") cdv A outer s H E).xe := passes_of rfl
  show CSs _ _ _ _ m_law_bag
  unfold m_law_bag
  exact (cs_cons (cs_set (i := 2) S.nd (ce_if (ct_cmp op_lt od_lt (ce_v (i := 1)) (ce_callB (cr_len cf) cl_len rfl Y.free_len boot_len (ca_cons (ce_v (i := 0)) ca_nil))) (ce_ix cf (ce_v (i := 0)) (ce_v (i := 1))) ce_int)) (cs_cons (cs_set (i := 3) S.nd (ce_op (or_add cf) od_add (ce_op op_mul od_mul ce_int (ce_v (i := 1))) ce_int)) (cs_cons (cs_for cf hp (ci_enum cf (ce_slice cf (ce_v (i := 0)) co_none (co_some ce_int)) Y.free_enumerate) (cg_tup cf.kk cf.calm (cgs_cons (cg_name (i := 4) S.nd) (cgs_cons (cg_name (i := 5) S.nd) cgs_nil))) (cs_one (cs_set (i := 3) S.nd (ce_op op_mod od_mod (ce_callTy call_int1 cl_int rfl Y.free_int boot_int (ca_cons (ce_op (or_add cf) od_add (ce_op (or_add cf) od_add (ce_op (or_add cf) od_add (ce_op op_mul od_mul (ce_v (i := 3)) ce_int) (ce_op op_mod od_mod (ce_callTy call_int1 cl_int rfl Y.free_int boot_int (ca_cons (ce_v (i := 5)) ca_nil)) ce_int)) (ce_op op_mul od_mul ce_int (ce_v (i := 4)))) ce_int) ca_nil)) ce_int)))) (cs_one (cs_ret (ce_lstC (ca_cons (ce_if (ct_cmp op_ge od_ge (ce_callB call_abs cl_abs rfl Y.free_abs boot_abs (ca_cons (ce_v (i := 2)) ca_nil)) (ce_op op_pow od_pow ce_int ce_int)) (ce_callB call_abs cl_abs rfl Y.free_abs boot_abs (ca_cons (ce_v (i := 2)) ca_nil)) ce_int) (ca_cons (ce_v (i := 3)) ca_nil))))))))
theorem C_law_bag (Y : Kn P w K mg base) : Cal P w K mg base (cc K) 1 "_law_bag" 2 f_law_bag := by
  obtain ⟨fd, F⟩ := Y.fn_law_bag
  exact ⟨_, fd, ["_law_script", "_law_at"], Y.gl "_law_bag" (by decide +kernel), F.kp, F.bindsN (fun _ _ _ _ _ _ us hl => match us, hl with | [_, _], _ => rfl), w_law_bag Y F⟩
theorem w_law_take (Y : Kn P w K mg base) {fd : FuncData} (F : FunD K "_law_take" "_law_take" (defArgs (top 31)) (defBody (top 31)) (defScope (top 31)) [] [] (He.ga K "_law_take") fd) : FnG P w K mg base 1 (He.ga K "_law_take") fd ["_law_bag_here", "_law_many"] (spM (cc K) 2 f_law_take) := by
  have S : FnScope d_law_take.N ["_law_bag_here", "_law_many"] (defScope (top 31)) := C8.fnScope_by (by decide +kernel)
  refine def_ok (c := cc K) (k := 0) (N := d_law_take.N) (fin := finD) (m := m_law_take) rfl F S fin_keep (fun cdv A outer s H E cf => ?_)
  have tk : Takes (cxOf (L2.CX P w) P w K mg base d_law_take.N "_law_take" (defScope (top 31)) (He.ga K "_law_take") cdv A outer s H E) (fun cls d _ H => E cls d H) := takes_of rfl rfl rfl rfl
  have hp : PassesOwn (model P w) (cxOf (L2.CX P w) P w K mg base d_law_take.N "_law_take" (defScope (top 31)) (He.ga K "_law_take") cdv A outer s H E).A (cxOf (L2.CX P w) P w K mg base d_law_take.N "_law_take" (defScope (top 31)) (He.ga K "_law_take") cdv A outer s H E).env (cxOf (L2.CX P w) P w K mg base d_law_take.N "_law_take" (defScope (top 31)) (He.ga K "_law_take") cdv A outer s H E).xe := passes_of rfl
  show CSs _ _ _ _ m_law_take
  unfold m_law_take
  exact (cs_cons (cs_if (ct_cmp op_gt od_gt (ce_ix cf (ce_v (i := 0)) ce_int) ce_int) (cs_cons (cs_set (i := 2) S.nd (ce_op op_mod od_mod (ce_callTy call_int1 cl_int rfl Y.free_int boot_int (ca_cons (ce_ix cf (ce_v (i := 0)) ce_int) ca_nil)) (ce_v (i := 1)))) (cs_cons (cs_sub (ce_op op_fdivW od_div (ce_ix cf (ce_v (i := 0)) ce_int) (ce_v (i := 1))) (ce_v (i := 0)) ce_int (hg := pg_sub (ce_v (i := 0)) ce_int set_list)) (cs_one (cs_ret (ce_v (i := 2)))))) cs_nil) (cs_cons (cs_sub (ce_op op_mod od_mod (ce_callTy call_int1 cl_int rfl Y.free_int boot_int (ca_cons (ce_op (or_add cf) od_add (ce_op op_mul od_mul (ce_ix cf (ce_v (i := 0)) ce_int) ce_int) ce_int) ca_nil)) ce_int) (ce_v (i := 0)) ce_int (hg := pg_sub (ce_v (i := 0)) ce_int set_list)) (cs_one (cs_ret (ce_op op_mod od_mod (ce_op op_fdivW od_div (ce_op op_mod od_mod (ce_callTy call_int1 cl_int rfl Y.free_int boot_int (ca_cons (ce_op op_mul od_mul (ce_op op_fdivW od_div (ce_ix cf (ce_v (i := 0)) ce_int) ce_int) ce_int) ca_nil)) ce_int) ce_int) (ce_v (i := 1)))))))
theorem C_law_take (Y : Kn P w K mg base) : Cal P w K mg base (cc K) 1 "_law_take" 2 f_law_take := by
  obtain ⟨fd, F⟩ := Y.fn_law_take
  exact ⟨_, fd, ["_law_bag_here", "_law_many"], Y.gl "_law_take" (by decide +kernel), F.kp, F.bindsN (fun _ _ _ _ _ _ us hl => match us, hl with | [_, _], _ => rfl), w_law_take Y F⟩
theorem w_law_of (Y : Kn P w K mg base) {fd : FuncData} (F : FunD K "_law_of" "_law_of" (defArgs (top 32)) (defBody (top 32)) (defScope (top 32)) [] [] (He.ga K "_law_of") fd) : FnG P w K mg base 2 (He.ga K "_law_of") fd ["_law_bag_here", "_law_some"] (spM (cc K) 2 f_law_of) := by
  have S : FnScope d_law_of.N ["_law_bag_here", "_law_some"] (defScope (top 32)) := C8.fnScope_by (by decide +kernel)
  refine def_ok (c := cc K) (k := 1) (N := d_law_of.N) (fin := finD) (m := m_law_of) rfl F S fin_keep (fun cdv A outer s H E cf => ?_)
  have tk : Takes (cxOf (L2.CX P w) P w K mg base d_law_of.N "_law_of" (defScope (top 32)) (He.ga K "_law_of") cdv A outer s H E) (fun cls d _ H => E cls d H) := takes_of rfl rfl rfl rfl
  have hp : PassesOwn (model P w) (cxOf (L2.CX P w) P w K mg base d_law_of.N "_law_of" (defScope (top 32)) (He.ga K "_law_of") cdv A outer s H E).A (cxOf (L2.CX P w) P w K mg base d_law_of.N "_law_of" (defScope (top 32)) (He.ga K "_law_of") cdv A outer s H E).env (cxOf (L2.CX P w) P w K mg base d_law_of.N "_law_of" (defScope (top 32)) (He.ga K "_law_of") cdv A outer s H E).xe := passes_of rfl
  show CSs _ _ _ _ m_law_of
  unfold m_law_of
  exact (cs_one (cs_ret (ce_ix cf (ce_v (i := 1)) (ce_cal cf tk (C_law_take Y) (by decide) (ca_cons (ce_v (i := 0)) (ca_cons (ce_callB (cr_len cf) cl_len rfl Y.free_len boot_len (ca_cons (ce_v (i := 1)) ca_nil)) ca_nil))))))
theorem C_law_of (Y : Kn P w K mg base) : Cal P w K mg base (cc K) 2 "_law_of" 2 f_law_of := by
  obtain ⟨fd, F⟩ := Y.fn_law_of
  exact ⟨_, fd, ["_law_bag_here", "_law_some"], Y.gl "_law_of" (by decide +kernel), F.kp, F.bindsN (fun _ _ _ _ _ _ us hl => match us, hl with | [_, _], _ => rfl), w_law_of Y F⟩
theorem w_law_thing (Y : Kn P w K mg base) {fd : FuncData} (F : FunD K "_law_thing" "_law_thing" (defArgs (top 33)) (defBody (top 33)) (defScope (top 33)) [] [] (He.ga K "_law_thing") fd) : FnG P w K mg base 3 (He.ga K "_law_thing") fd ["_law_bag_here"] (spM (cc K) 1 f_law_thing) := by
  have S : FnScope d_law_thing.N ["_law_bag_here"] (defScope (top 33)) := C8.fnScope_by (by decide +kernel)
  refine def_ok (c := cc K) (k := 2) (N := d_law_thing.N) (fin := finD) (m := m_law_thing) rfl F S fin_keep (fun cdv A outer s H E cf => ?_)
  have tk : Takes (cxOf (L2.CX P w) P w K mg base d_law_thing.N "_law_thing" (defScope (top 33)) (He.ga K "_law_thing") cdv A outer s H E) (fun cls d _ H => E cls d H) := takes_of rfl rfl rfl rfl
  have hp : PassesOwn (model P w) (cxOf (L2.CX P w) P w K mg base d_law_thing.N "_law_thing" (defScope (top 33)) (He.ga K "_law_thing") cdv A outer s H E).A (cxOf (L2.CX P w) P w K mg base d_law_thing.N "_law_thing" (defScope (top 33)) (He.ga K "_law_thing") cdv A outer s H E).env (cxOf (L2.CX P w) P w K mg base d_law_thing.N "_law_thing" (defScope (top 33)) (He.ga K "_law_thing") cdv A outer s H E).xe := passes_of rfl
  show CSs _ _ _ _ m_law_thing
  unfold m_law_thing
  exact (cs_cons (cs_set (i := 1) S.nd (ce_lst (ca_cons ce_non (ca_cons ce_bl (ca_cons ce_bl (ca_cons ce_int (ca_cons ce_int (ca_cons (ce_un un_neg ud_neg ce_int) (ca_cons (ce_op op_pow od_pow ce_int ce_int) (ca_cons ce_str (ca_cons ce_str (ca_cons ce_str (ca_cons (ce_lst ca_nil) (ca_cons (ce_lst (ca_cons ce_int (ca_cons ce_str ca_nil))) (ca_cons (ce_tup ca_nil) (ca_cons (ce_tup (ca_cons ce_str (ca_cons ce_int ca_nil))) (ca_cons ce_dic0 (ca_cons (ce_dic1 ce_str) ca_nil)))))))))))))))))) (cs_one (cs_ret (ce_cal cf tk (C_law_of Y) (by decide) (ca_cons (ce_v (i := 0)) (ca_cons (ce_v (i := 1)) ca_nil))))))
theorem C_law_thing (Y : Kn P w K mg base) : Cal P w K mg base (cc K) 3 "_law_thing" 1 f_law_thing := by
  obtain ⟨fd, F⟩ := Y.fn_law_thing
  exact ⟨_, fd, ["_law_bag_here"], Y.gl "_law_thing" (by decide +kernel), F.kp, F.bindsN (fun _ _ _ _ _ _ us hl => match us, hl with | [_], _ => rfl), w_law_thing Y F⟩
theorem w_law_values (Y : Kn P w K mg base) {fd : FuncData} (F : FunD K "_law_values" "_law_values" (defArgs (top 34)) (defBody (top 34)) (defScope (top 34)) [] [] (He.ga K "_law_values") fd) : FnG P w K mg base 3 (He.ga K "_law_values") fd ["_law_thing_here"] (spM (cc K) 1 f_law_values) := by
  have S : FnScope d_law_values.N ["_law_thing_here"] (defScope (top 34)) := C8.fnScope_by (by decide +kernel)
  refine def_ok (c := cc K) (k := 2) (N := d_law_values.N) (fin := finD) (m := m_law_values) rfl F S fin_keep (fun cdv A outer s H E cf => ?_)
  have tk : Takes (cxOf (L2.CX P w) P w K mg base d_law_values.N "_law_values" (defScope (top 34)) (He.ga K "_law_values") cdv A outer s H E) (fun cls d _ H => E cls d H) := takes_of rfl rfl rfl rfl
  have hp : PassesOwn (model P w) (cxOf (L2.CX P w) P w K mg base d_law_values.N "_law_values" (defScope (top 34)) (He.ga K "_law_values") cdv A outer s H E).A (cxOf (L2.CX P w) P w K mg base d_law_values.N "_law_values" (defScope (top 34)) (He.ga K "_law_values") cdv A outer s H E).env (cxOf (L2.CX P w) P w K mg base d_law_values.N "_law_values" (defScope (top 34)) (He.ga K "_law_values") cdv A outer s H E).xe := passes_of rfl
  show CSs _ _ _ _ m_law_values
  unfold m_law_values
  exact (cs_cons (cs_set (i := 1) S.nd (ce_lst (ca_cons (ce_tup (ca_cons (ce_exc (j := 1) (cf.mono (by decide)) tk Y.mk0 (Y.gl "BadName" (by decide +kernel)) (ca_cons (ce_v (i := 0)) ca_nil)) (ca_cons (ce_att cf Y.rc rfl (ce_exc (j := 1) (cf.mono (by decide)) tk Y.mk0 (Y.gl "BadName" (by decide +kernel)) (ca_cons (ce_v (i := 0)) ca_nil))) ca_nil))) (ca_cons (ce_tup (ca_cons (ce_exc (j := 1) (cf.mono (by decide)) tk Y.mk1 (Y.gl "BadNote" (by decide +kernel)) (ca_cons (ce_v (i := 0)) ca_nil)) (ca_cons (ce_att cf Y.rc rfl (ce_exc (j := 1) (cf.mono (by decide)) tk Y.mk1 (Y.gl "BadNote" (by decide +kernel)) (ca_cons (ce_v (i := 0)) ca_nil))) ca_nil))) ca_nil)))) (cs_cons (cs_set (i := 1) S.nd (ce_op (or_add cf) od_add (ce_v (i := 1)) (ce_lst (ca_cons (ce_tup (ca_cons (ce_exc (j := 1) (cf.mono (by decide)) tk Y.mk2 (Y.gl "BadMove" (by decide +kernel)) (ca_cons (ce_v (i := 0)) ca_nil)) (ca_cons (ce_att cf Y.rc rfl (ce_exc (j := 1) (cf.mono (by decide)) tk Y.mk2 (Y.gl "BadMove" (by decide +kernel)) (ca_cons (ce_v (i := 0)) ca_nil))) ca_nil))) (ca_cons (ce_tup (ca_cons (ce_exc (j := 1) (cf.mono (by decide)) tk Y.mk3 (Y.gl "BadDeed" (by decide +kernel)) (ca_cons (ce_v (i := 0)) ca_nil)) (ca_cons (ce_att cf Y.rc rfl (ce_exc (j := 1) (cf.mono (by decide)) tk Y.mk3 (Y.gl "BadDeed" (by decide +kernel)) (ca_cons (ce_v (i := 0)) ca_nil))) ca_nil))) ca_nil))))) (cs_cons (cs_set (i := 1) S.nd (ce_op (or_add cf) od_add (ce_v (i := 1)) (ce_lst (ca_cons (ce_tup (ca_cons (ce_exc (j := 1) (cf.mono (by decide)) tk Y.mk4 (Y.gl "BadKeep" (by decide +kernel)) (ca_cons (ce_v (i := 0)) ca_nil)) (ca_cons (ce_att cf Y.rc rfl (ce_exc (j := 1) (cf.mono (by decide)) tk Y.mk4 (Y.gl "BadKeep" (by decide +kernel)) (ca_cons (ce_v (i := 0)) ca_nil))) ca_nil))) (ca_cons (ce_tup (ca_cons (ce_exc (j := 1) (cf.mono (by decide)) tk Y.mk5 (Y.gl "BadStep" (by decide +kernel)) (ca_cons (ce_v (i := 0)) ca_nil)) (ca_cons (ce_att cf Y.rc rfl (ce_exc (j := 1) (cf.mono (by decide)) tk Y.mk5 (Y.gl "BadStep" (by decide +kernel)) (ca_cons (ce_v (i := 0)) ca_nil))) ca_nil))) ca_nil))))) (cs_cons (cs_set (i := 1) S.nd (ce_op (or_add cf) od_add (ce_v (i := 1)) (ce_lst (ca_cons (ce_tup (ca_cons (ce_exc (j := 1) (cf.mono (by decide)) tk Y.mk6 (Y.gl "BadValues" (by decide +kernel)) (ca_cons (ce_v (i := 0)) ca_nil)) (ca_cons (ce_att cf Y.rc rfl (ce_exc (j := 1) (cf.mono (by decide)) tk Y.mk6 (Y.gl "BadValues" (by decide +kernel)) (ca_cons (ce_v (i := 0)) ca_nil))) ca_nil))) (ca_cons (ce_tup (ca_cons (ce_exc (j := 1) (cf.mono (by decide)) tk Y.mk7 (Y.gl "BadValue" (by decide +kernel)) (ca_cons (ce_v (i := 0)) ca_nil)) (ca_cons (ce_att cf Y.rc rfl (ce_exc (j := 1) (cf.mono (by decide)) tk Y.mk7 (Y.gl "BadValue" (by decide +kernel)) (ca_cons (ce_v (i := 0)) ca_nil))) ca_nil))) ca_nil))))) (cs_cons (cs_set (i := 1) S.nd (ce_op (or_add cf) od_add (ce_v (i := 1)) (ce_lst (ca_cons (ce_tup (ca_cons (ce_exc (j := 1) (cf.mono (by decide)) tk Y.mk8 (Y.gl "BadMoment" (by decide +kernel)) (ca_cons (ce_v (i := 0)) ca_nil)) (ca_cons (ce_att cf Y.rc rfl (ce_exc (j := 1) (cf.mono (by decide)) tk Y.mk8 (Y.gl "BadMoment" (by decide +kernel)) (ca_cons (ce_v (i := 0)) ca_nil))) ca_nil))) (ca_cons (ce_tup (ca_cons (ce_exc (j := 1) (cf.mono (by decide)) tk Y.mk9 (Y.gl "BadRow" (by decide +kernel)) (ca_cons (ce_v (i := 0)) ca_nil)) (ca_cons (ce_att cf Y.rc rfl (ce_exc (j := 1) (cf.mono (by decide)) tk Y.mk9 (Y.gl "BadRow" (by decide +kernel)) (ca_cons (ce_v (i := 0)) ca_nil))) ca_nil))) ca_nil))))) (cs_cons (cs_set (i := 1) S.nd (ce_op (or_add cf) od_add (ce_v (i := 1)) (ce_lst (ca_cons (ce_tup (ca_cons (ce_exc (j := 1) (cf.mono (by decide)) tk Y.mk10 (Y.gl "BadEntry" (by decide +kernel)) (ca_cons (ce_v (i := 0)) ca_nil)) (ca_cons (ce_att cf Y.rc rfl (ce_exc (j := 1) (cf.mono (by decide)) tk Y.mk10 (Y.gl "BadEntry" (by decide +kernel)) (ca_cons (ce_v (i := 0)) ca_nil))) ca_nil))) (ca_cons (ce_tup (ca_cons (ce_exc (j := 1) (cf.mono (by decide)) tk Y.mk11 (Y.gl "BadTarget" (by decide +kernel)) (ca_cons (ce_v (i := 0)) ca_nil)) (ca_cons (ce_att cf Y.rc rfl (ce_exc (j := 1) (cf.mono (by decide)) tk Y.mk11 (Y.gl "BadTarget" (by decide +kernel)) (ca_cons (ce_v (i := 0)) ca_nil))) ca_nil))) ca_nil))))) (cs_cons (cs_set (i := 1) S.nd (ce_op (or_add cf) od_add (ce_v (i := 1)) (ce_lst (ca_cons (ce_tup (ca_cons (ce_exc (j := 1) (cf.mono (by decide)) tk Y.mk12 (Y.gl "BadBack" (by decide +kernel)) (ca_cons (ce_v (i := 0)) ca_nil)) (ca_cons (ce_att cf Y.rc rfl (ce_exc (j := 1) (cf.mono (by decide)) tk Y.mk12 (Y.gl "BadBack" (by decide +kernel)) (ca_cons (ce_v (i := 0)) ca_nil))) ca_nil))) (ca_cons (ce_tup (ca_cons (ce_exc (j := 1) (cf.mono (by decide)) tk Y.mk13 (Y.gl "BadSide" (by decide +kernel)) (ca_cons (ce_v (i := 0)) ca_nil)) (ca_cons (ce_att cf Y.rc rfl (ce_exc (j := 1) (cf.mono (by decide)) tk Y.mk13 (Y.gl "BadSide" (by decide +kernel)) (ca_cons (ce_v (i := 0)) ca_nil))) ca_nil))) ca_nil))))) (cs_cons (cs_set (i := 1) S.nd (ce_op (or_add cf) od_add (ce_v (i := 1)) (ce_lst (ca_cons (ce_tup (ca_cons (ce_exc (j := 1) (cf.mono (by decide)) tk Y.mk14 (Y.gl "BadPrice" (by decide +kernel)) (ca_cons (ce_v (i := 0)) ca_nil)) (ca_cons (ce_att cf Y.rc rfl (ce_exc (j := 1) (cf.mono (by decide)) tk Y.mk14 (Y.gl "BadPrice" (by decide +kernel)) (ca_cons (ce_v (i := 0)) ca_nil))) ca_nil))) (ca_cons (ce_tup (ca_cons (ce_exc (j := 1) (cf.mono (by decide)) tk Y.mk15 (Y.gl "BadText" (by decide +kernel)) (ca_cons (ce_v (i := 0)) ca_nil)) (ca_cons (ce_att cf Y.rc rfl (ce_exc (j := 1) (cf.mono (by decide)) tk Y.mk15 (Y.gl "BadText" (by decide +kernel)) (ca_cons (ce_v (i := 0)) ca_nil))) ca_nil))) ca_nil))))) (cs_one (cs_ret (ce_op (or_add cf) od_add (ce_v (i := 1)) (ce_lst (ca_cons (ce_tup (ca_cons (ce_exc (j := 1) (cf.mono (by decide)) tk Y.mk16 (Y.gl "Twice" (by decide +kernel)) (ca_cons (ce_v (i := 0)) ca_nil)) (ca_cons (ce_att cf Y.rc rfl (ce_exc (j := 1) (cf.mono (by decide)) tk Y.mk16 (Y.gl "Twice" (by decide +kernel)) (ca_cons (ce_v (i := 0)) ca_nil))) ca_nil))) ca_nil)))))))))))))
theorem C_law_values (Y : Kn P w K mg base) : Cal P w K mg base (cc K) 3 "_law_values" 1 f_law_values := by
  obtain ⟨fd, F⟩ := Y.fn_law_values
  exact ⟨_, fd, ["_law_thing_here"], Y.gl "_law_values" (by decide +kernel), F.kp, F.bindsN (fun _ _ _ _ _ _ us hl => match us, hl with | [_], _ => rfl), w_law_values Y F⟩
theorem w_law_kinds (Y : Kn P w K mg base) {fd : FuncData} (F : FunD K "_law_kinds" "_law_kinds" (defArgs (top 35)) (defBody (top 35)) (defScope (top 35)) [] [] (He.ga K "_law_kinds") fd) : FnG P w K mg base 1 (He.ga K "_law_kinds") fd ["_law_error"] (spM (cc K) 1 f_law_kinds) := by
  have S : FnScope d_law_kinds.N ["_law_error"] (defScope (top 35)) := C8.fnScope_by (by decide +kernel)
  refine def_ok (c := cc K) (k := 0) (N := d_law_kinds.N) (fin := finD) (m := m_law_kinds) rfl F S fin_keep (fun cdv A outer s H E cf => ?_)
  have tk : Takes (cxOf (L2.CX P w) P w K mg base d_law_kinds.N "_law_kinds" (defScope (top 35)) (He.ga K "_law_kinds") cdv A outer s H E) (fun cls d _ H => E cls d H) := takes_of rfl rfl rfl rfl
  have hp : PassesOwn (model P w) (cxOf (L2.CX P w) P w K mg base d_law_kinds.N "_law_kinds" (defScope (top 35)) (He.ga K "_law_kinds") cdv A outer s H E).A (cxOf (L2.CX P w) P w K mg base d_law_kinds.N "_law_kinds" (defScope (top 35)) (He.ga K "_law_kinds") cdv A outer s H E).env (cxOf (L2.CX P w) P w K mg base d_law_kinds.N "_law_kinds" (defScope (top 35)) (He.ga K "_law_kinds") cdv A outer s H E).xe := passes_of rfl
  show CSs _ _ _ _ m_law_kinds
  unfold m_law_kinds
  exact (cs_cons (cs_set (i := 1) S.nd (ce_lst (ca_cons (ce_isi cf (ClsV.own _) (Y.so 0 (by decide)) (ce_v (i := 0)) (pe_glob rfl (Y.gl "BadName" (by decide +kernel)) rfl) Y.free_isinstance) (ca_cons (ce_isi cf (ClsV.own _) (Y.so 1 (by decide)) (ce_v (i := 0)) (pe_glob rfl (Y.gl "BadNote" (by decide +kernel)) rfl) Y.free_isinstance) (ca_cons (ce_isi cf (ClsV.own _) (Y.so 2 (by decide)) (ce_v (i := 0)) (pe_glob rfl (Y.gl "BadMove" (by decide +kernel)) rfl) Y.free_isinstance) ca_nil))))) (cs_cons (cs_set (i := 1) S.nd (ce_op (or_add cf) od_add (ce_v (i := 1)) (ce_lst (ca_cons (ce_isi cf (ClsV.own _) (Y.so 3 (by decide)) (ce_v (i := 0)) (pe_glob rfl (Y.gl "BadDeed" (by decide +kernel)) rfl) Y.free_isinstance) (ca_cons (ce_isi cf (ClsV.own _) (Y.so 4 (by decide)) (ce_v (i := 0)) (pe_glob rfl (Y.gl "BadKeep" (by decide +kernel)) rfl) Y.free_isinstance) (ca_cons (ce_isi cf (ClsV.own _) (Y.so 5 (by decide)) (ce_v (i := 0)) (pe_glob rfl (Y.gl "BadStep" (by decide +kernel)) rfl) Y.free_isinstance) ca_nil)))))) (cs_cons (cs_set (i := 1) S.nd (ce_op (or_add cf) od_add (ce_v (i := 1)) (ce_lst (ca_cons (ce_isi cf (ClsV.own _) (Y.so 6 (by decide)) (ce_v (i := 0)) (pe_glob rfl (Y.gl "BadValues" (by decide +kernel)) rfl) Y.free_isinstance) (ca_cons (ce_isi cf (ClsV.own _) (Y.so 7 (by decide)) (ce_v (i := 0)) (pe_glob rfl (Y.gl "BadValue" (by decide +kernel)) rfl) Y.free_isinstance) (ca_cons (ce_isi cf (ClsV.own _) (Y.so 8 (by decide)) (ce_v (i := 0)) (pe_glob rfl (Y.gl "BadMoment" (by decide +kernel)) rfl) Y.free_isinstance) ca_nil)))))) (cs_cons (cs_set (i := 1) S.nd (ce_op (or_add cf) od_add (ce_v (i := 1)) (ce_lst (ca_cons (ce_isi cf (ClsV.own _) (Y.so 9 (by decide)) (ce_v (i := 0)) (pe_glob rfl (Y.gl "BadRow" (by decide +kernel)) rfl) Y.free_isinstance) (ca_cons (ce_isi cf (ClsV.own _) (Y.so 10 (by decide)) (ce_v (i := 0)) (pe_glob rfl (Y.gl "BadEntry" (by decide +kernel)) rfl) Y.free_isinstance) (ca_cons (ce_isi cf (ClsV.own _) (Y.so 11 (by decide)) (ce_v (i := 0)) (pe_glob rfl (Y.gl "BadTarget" (by decide +kernel)) rfl) Y.free_isinstance) ca_nil)))))) (cs_cons (cs_set (i := 1) S.nd (ce_op (or_add cf) od_add (ce_v (i := 1)) (ce_lst (ca_cons (ce_isi cf (ClsV.own _) (Y.so 12 (by decide)) (ce_v (i := 0)) (pe_glob rfl (Y.gl "BadBack" (by decide +kernel)) rfl) Y.free_isinstance) (ca_cons (ce_isi cf (ClsV.own _) (Y.so 13 (by decide)) (ce_v (i := 0)) (pe_glob rfl (Y.gl "BadSide" (by decide +kernel)) rfl) Y.free_isinstance) (ca_cons (ce_isi cf (ClsV.own _) (Y.so 14 (by decide)) (ce_v (i := 0)) (pe_glob rfl (Y.gl "BadPrice" (by decide +kernel)) rfl) Y.free_isinstance) ca_nil)))))) (cs_cons (cs_set (i := 1) S.nd (ce_op (or_add cf) od_add (ce_v (i := 1)) (ce_lst (ca_cons (ce_isi cf (ClsV.own _) (Y.so 15 (by decide)) (ce_v (i := 0)) (pe_glob rfl (Y.gl "BadText" (by decide +kernel)) rfl) Y.free_isinstance) (ca_cons (ce_isi cf (ClsV.own _) (Y.so 16 (by decide)) (ce_v (i := 0)) (pe_glob rfl (Y.gl "Twice" (by decide +kernel)) rfl) Y.free_isinstance) (ca_cons (ce_isi cf (ClsV.own _) (Y.so 17 (by decide)) (ce_v (i := 0)) (pe_glob rfl (Y.gl "NotWritten" (by decide +kernel)) rfl) Y.free_isinstance) ca_nil)))))) (cs_cons (cs_set (i := 1) S.nd (ce_op (or_add cf) od_add (ce_v (i := 1)) (ce_lst (ca_cons (ce_isi cf (ClsV.own _) (Y.so 18 (by decide)) (ce_v (i := 0)) (pe_glob rfl (Y.gl "OtherDeeds" (by decide +kernel)) rfl) Y.free_isinstance) (ca_cons (ce_isi cf (ClsV.own _) (Y.so 19 (by decide)) (ce_v (i := 0)) (pe_glob rfl (Y.gl "NoDeed" (by decide +kernel)) rfl) Y.free_isinstance) (ca_cons (ce_isi cf (ClsV.own _) (Y.so 20 (by decide)) (ce_v (i := 0)) (pe_glob rfl (Y.gl "NoColumn" (by decide +kernel)) rfl) Y.free_isinstance) ca_nil)))))) (cs_cons (cs_set (i := 1) S.nd (ce_op (or_add cf) od_add (ce_v (i := 1)) (ce_lst (ca_cons (ce_isi cf (ClsV.own _) (Y.so 21 (by decide)) (ce_v (i := 0)) (pe_glob rfl (Y.gl "NoMoment" (by decide +kernel)) rfl) Y.free_isinstance) (ca_cons (ce_isi cf (ClsV.own _) (Y.so 22 (by decide)) (ce_v (i := 0)) (pe_glob rfl (Y.gl "NoSituation" (by decide +kernel)) rfl) Y.free_isinstance) (ca_cons (ce_isi cf (ClsV.own _) (Y.so 23 (by decide)) (ce_v (i := 0)) (pe_glob rfl (Y.gl "NoHistory" (by decide +kernel)) rfl) Y.free_isinstance) ca_nil)))))) (cs_cons (cs_set (i := 1) S.nd (ce_op (or_add cf) od_add (ce_v (i := 1)) (ce_lst (ca_cons (ce_isi cf (ClsV.own _) (Y.so 24 (by decide)) (ce_v (i := 0)) (pe_glob rfl (Y.gl "NotAllowed" (by decide +kernel)) rfl) Y.free_isinstance) (ca_cons (ce_isi cf (ClsV.own _) (Y.so 25 (by decide)) (ce_v (i := 0)) (pe_glob rfl (Y.gl "InCall" (by decide +kernel)) rfl) Y.free_isinstance) (ca_cons (ce_isi cf (ClsV.own _) (Y.so 26 (by decide)) (ce_v (i := 0)) (pe_glob rfl (Y.gl "Unsure" (by decide +kernel)) rfl) Y.free_isinstance) ca_nil)))))) (cs_one (cs_ret (ce_op (or_add cf) od_add (ce_v (i := 1)) (ce_lst (ca_cons (ce_isi cf (ClsV.own _) (Y.so 27 (by decide)) (ce_v (i := 0)) (pe_glob rfl (Y.gl "TooMany" (by decide +kernel)) rfl) Y.free_isinstance) ca_nil))))))))))))))
theorem C_law_kinds (Y : Kn P w K mg base) : Cal P w K mg base (cc K) 1 "_law_kinds" 1 f_law_kinds := by
  obtain ⟨fd, F⟩ := Y.fn_law_kinds
  exact ⟨_, fd, ["_law_error"], Y.gl "_law_kinds" (by decide +kernel), F.kp, F.bindsN (fun _ _ _ _ _ _ us hl => match us, hl with | [_], _ => rfl), w_law_kinds Y F⟩
theorem w_law_under (Y : Kn P w K mg base) {fd : FuncData} (F : FunD K "_law_under" "_law_under" (defArgs (top 36)) (defBody (top 36)) (defScope (top 36)) [] [] (He.ga K "_law_under") fd) : FnG P w K mg base 1 (He.ga K "_law_under") fd ["_law_error"] (spM (cc K) 1 f_law_under) := by
  have S : FnScope d_law_under.N ["_law_error"] (defScope (top 36)) := C8.fnScope_by (by decide +kernel)
  refine def_ok (c := cc K) (k := 0) (N := d_law_under.N) (fin := finD) (m := m_law_under) rfl F S fin_keep (fun cdv A outer s H E cf => ?_)
  have tk : Takes (cxOf (L2.CX P w) P w K mg base d_law_under.N "_law_under" (defScope (top 36)) (He.ga K "_law_under") cdv A outer s H E) (fun cls d _ H => E cls d H) := takes_of rfl rfl rfl rfl
  have hp : PassesOwn (model P w) (cxOf (L2.CX P w) P w K mg base d_law_under.N "_law_under" (defScope (top 36)) (He.ga K "_law_under") cdv A outer s H E).A (cxOf (L2.CX P w) P w K mg base d_law_under.N "_law_under" (defScope (top 36)) (He.ga K "_law_under") cdv A outer s H E).env (cxOf (L2.CX P w) P w K mg base d_law_under.N "_law_under" (defScope (top 36)) (He.ga K "_law_under") cdv A outer s H E).xe := passes_of rfl
  show CSs _ _ _ _ m_law_under
  unfold m_law_under
  exact (cs_cons (cs_set (i := 1) S.nd (ce_lst (ca_cons (ce_isi cf (ClsV.ty "ValueError") (Y.sb 0 (by decide)) (ce_v (i := 0)) (pe_bltn rfl Y.free_ValueError PyProof.Rows.Boot.ValueError rfl) Y.free_isinstance) (ca_cons (ce_isi cf (ClsV.ty "LookupError") (Y.sb 1 (by decide)) (ce_v (i := 0)) (pe_bltn rfl Y.free_LookupError PyProof.Rows.Boot.LookupError rfl) Y.free_isinstance) (ca_cons (ce_isi cf (ClsV.ty "RuntimeError") (Y.sb 2 (by decide)) (ce_v (i := 0)) (pe_bltn rfl Y.free_RuntimeError PyProof.Rows.Boot.RuntimeError rfl) Y.free_isinstance) ca_nil))))) (cs_one (cs_ret (ce_op (or_add cf) od_add (ce_v (i := 1)) (ce_lst (ca_cons (ce_isi cf (ClsV.ty "OverflowError") (Y.sb 3 (by decide)) (ce_v (i := 0)) (pe_bltn rfl Y.free_OverflowError PyProof.Rows.Boot.OverflowError rfl) Y.free_isinstance) ca_nil))))))
theorem C_law_under (Y : Kn P w K mg base) : Cal P w K mg base (cc K) 1 "_law_under" 1 f_law_under := by
  obtain ⟨fd, F⟩ := Y.fn_law_under
  exact ⟨_, fd, ["_law_error"], Y.gl "_law_under" (by decide +kernel), F.kp, F.bindsN (fun _ _ _ _ _ _ us hl => match us, hl with | [_], _ => rfl), w_law_under Y F⟩
theorem wlaw (Y : Kn P w K mg base) {fd : FuncData} (F : FunD K "law" "law" (defArgs (top 37)) (defBody (top 37)) (defScope (top 37)) [] [] (He.ga K "law") fd) : FnG P w K mg base 4 (He.ga K "law") fd ["_law_script"] (spM (cc K) 1 flaw) := by
  have S : FnScope dlaw.N ["_law_script"] (defScope (top 37)) := C8.fnScope_by (by decide +kernel)
  refine def_ok (c := cc K) (k := 3) (N := dlaw.N) (fin := finD) (m := mlaw) rfl F S fin_keep (fun cdv A outer s H E cf => ?_)
  have tk : Takes (cxOf (L2.CX P w) P w K mg base dlaw.N "law" (defScope (top 37)) (He.ga K "law") cdv A outer s H E) (fun cls d _ H => E cls d H) := takes_of rfl rfl rfl rfl
  have hp : PassesOwn (model P w) (cxOf (L2.CX P w) P w K mg base dlaw.N "law" (defScope (top 37)) (He.ga K "law") cdv A outer s H E).A (cxOf (L2.CX P w) P w K mg base dlaw.N "law" (defScope (top 37)) (He.ga K "law") cdv A outer s H E).env (cxOf (L2.CX P w) P w K mg base dlaw.N "law" (defScope (top 37)) (He.ga K "law") cdv A outer s H E).xe := passes_of rfl
  show CSs _ _ _ _ mlaw
  unfold mlaw
  exact (cs_cons (cs_for cf hp (ci_range (ca_cons (ce_callB (call_max2 cf.calm) cl_max rfl Y.free_max boot_max (ca_cons ce_int (ca_cons (ce_callB (call_min2 cf.calm) cl_min rfl Y.free_min boot_min (ca_cons ce_int (ca_cons (ce_callB (cr_len cf) cl_len rfl Y.free_len boot_len (ca_cons (ce_v (i := 0)) ca_nil)) ca_nil))) ca_nil))) ca_nil) Y.free_range) (cg_name (i := 1) S.nd) (cs_cons (cs_set (i := 2) S.nd (ce_cal cf tk (C_law_bag Y) (by decide) (ca_cons (ce_v (i := 0)) (ca_cons (ce_v (i := 1)) ca_nil)))) (cs_cons (cs_set (i := 3) S.nd (ce_cal cf tk (C_law_thing Y) (by decide) (ca_cons (ce_v (i := 2)) ca_nil))) (cs_cons (cs_par (i := 4) (j := 5) cf S.nd (ca_cons (ce_cal cf tk (C_law_thing Y) (by decide) (ca_cons (ce_v (i := 2)) ca_nil)) (ca_cons (ce_cal cf tk (C_law_thing Y) (by decide) (ca_cons (ce_v (i := 2)) ca_nil)) ca_nil))) (cs_cons (cs_setLc (own := [("_law_error", 7), ("_law_told", 8)]) cf S.nd finC_ok (ci_list cf (ce_cal cf tk (C_law_values Y) (by decide) (ca_cons (ce_v (i := 3)) ca_nil))) (blk_by (by show blkB dlaw.N (defScope (top 37)) _ _ = true; decide +kernel)) (by decide) (fun _ _ _ _ _ => (cg_tup cf.blk.kk cf.blk.calm (cgs_cons (cg_name (i := 7) S.nd) (cgs_cons (cg_name (i := 8) S.nd) cgs_nil)))) (fun _ _ _ _ _ => cts_nil) (fun _ _ _ _ _ => (ce_tup (ca_cons (ce_v (i := 7)) (ca_cons (ce_v (i := 8)) (ca_cons (ce_v (i := 3)) (ca_cons ce_int ca_nil)))))) (by rfl)) (cs_cons (cs_set (i := 9) S.nd (ce_exc (j := 1) (cf.mono (by decide)) tk Y.mk17 (Y.gl "NotWritten" (by decide +kernel)) (ca_cons (ce_v (i := 3)) (ca_cons (ce_v (i := 4)) ca_nil)))) (cs_cons (cs_expr (ce_app cf (ce_v (i := 6)) (ce_tup (ca_cons (ce_v (i := 9)) (ca_cons (ce_tup (ca_cons (ce_att cf Y.rc rfl (ce_v (i := 9))) (ca_cons (ce_att cf Y.rc rfl (ce_v (i := 9))) ca_nil))) (ca_cons (ce_tup (ca_cons (ce_v (i := 3)) (ca_cons (ce_v (i := 4)) ca_nil))) (ca_cons ce_int ca_nil))))))) (cs_cons (cs_expr (ce_app cf (ce_v (i := 6)) (ce_tup (ca_cons (ce_exc0 cf PySem.F.excBase_ValueError (Y.e0 18 (by decide) rfl) (Y.kc 18 (by decide)) (Y.gl "OtherDeeds" (by decide +kernel))) (ca_cons ce_int (ca_cons ce_int (ca_cons ce_int ca_nil))))))) (cs_cons (cs_expr (ce_app cf (ce_v (i := 6)) (ce_tup (ca_cons (ce_exc (j := 1) (cf.mono (by decide)) tk Y.mk19 (Y.gl "NoDeed" (by decide +kernel)) (ca_cons (ce_v (i := 3)) ca_nil)) (ca_cons (ce_att cf Y.rc rfl (ce_exc (j := 1) (cf.mono (by decide)) tk Y.mk19 (Y.gl "NoDeed" (by decide +kernel)) (ca_cons (ce_v (i := 3)) ca_nil))) (ca_cons (ce_v (i := 3)) (ca_cons ce_int ca_nil))))))) (cs_cons (cs_expr (ce_app cf (ce_v (i := 6)) (ce_tup (ca_cons (ce_exc (j := 1) (cf.mono (by decide)) tk Y.mk20 (Y.gl "NoColumn" (by decide +kernel)) (ca_cons (ce_v (i := 4)) ca_nil)) (ca_cons (ce_att cf Y.rc rfl (ce_exc (j := 1) (cf.mono (by decide)) tk Y.mk20 (Y.gl "NoColumn" (by decide +kernel)) (ca_cons (ce_v (i := 4)) ca_nil))) (ca_cons (ce_v (i := 4)) (ca_cons ce_int ca_nil))))))) (cs_cons (cs_expr (ce_app cf (ce_v (i := 6)) (ce_tup (ca_cons (ce_exc (j := 1) (cf.mono (by decide)) tk Y.mk21 (Y.gl "NoMoment" (by decide +kernel)) (ca_cons (ce_v (i := 3)) ca_nil)) (ca_cons (ce_att cf Y.rc rfl (ce_exc (j := 1) (cf.mono (by decide)) tk Y.mk21 (Y.gl "NoMoment" (by decide +kernel)) (ca_cons (ce_v (i := 3)) ca_nil))) (ca_cons (ce_v (i := 3)) (ca_cons ce_int ca_nil))))))) (cs_cons (cs_expr (ce_app cf (ce_v (i := 6)) (ce_tup (ca_cons (ce_exc (j := 1) (cf.mono (by decide)) tk Y.mk22 (Y.gl "NoSituation" (by decide +kernel)) (ca_cons (ce_v (i := 4)) ca_nil)) (ca_cons (ce_att cf Y.rc rfl (ce_exc (j := 1) (cf.mono (by decide)) tk Y.mk22 (Y.gl "NoSituation" (by decide +kernel)) (ca_cons (ce_v (i := 4)) ca_nil))) (ca_cons (ce_v (i := 4)) (ca_cons ce_int ca_nil))))))) (cs_cons (cs_expr (ce_app cf (ce_v (i := 6)) (ce_tup (ca_cons (ce_exc0 cf PySem.F.excBase_LookupError (Y.e0 23 (by decide) rfl) (Y.kc 23 (by decide)) (Y.gl "NoHistory" (by decide +kernel))) (ca_cons ce_int (ca_cons ce_int (ca_cons ce_int ca_nil))))))) (cs_cons (cs_set (i := 10) S.nd (ce_exc (j := 1) (cf.mono (by decide)) tk Y.mk24 (Y.gl "NotAllowed" (by decide +kernel)) (ca_cons (ce_v (i := 3)) (ca_cons (ce_v (i := 5)) ca_nil)))) (cs_cons (cs_expr (ce_app cf (ce_v (i := 6)) (ce_tup (ca_cons (ce_v (i := 10)) (ca_cons (ce_tup (ca_cons (ce_att cf Y.rc rfl (ce_v (i := 10))) (ca_cons (ce_att cf Y.rc rfl (ce_v (i := 10))) ca_nil))) (ca_cons (ce_tup (ca_cons (ce_v (i := 3)) (ca_cons (ce_v (i := 5)) ca_nil))) (ca_cons ce_int ca_nil))))))) (cs_cons (cs_expr (ce_app cf (ce_v (i := 6)) (ce_tup (ca_cons (ce_exc0 cf PySem.F.excBase_RuntimeError (Y.e0 25 (by decide) rfl) (Y.kc 25 (by decide)) (Y.gl "InCall" (by decide +kernel))) (ca_cons ce_int (ca_cons ce_int (ca_cons ce_int ca_nil))))))) (cs_cons (cs_set (i := 11) S.nd (ce_exc (j := 1) (cf.mono (by decide)) tk Y.mk26 (Y.gl "Unsure" (by decide +kernel)) (ca_cons (ce_v (i := 3)) (ca_cons (ce_v (i := 4)) (ca_cons (ce_v (i := 5)) ca_nil))))) (cs_cons (cs_expr (ce_app cf (ce_v (i := 6)) (ce_tup (ca_cons (ce_v (i := 11)) (ca_cons (ce_tup (ca_cons (ce_att cf Y.rc rfl (ce_v (i := 11))) (ca_cons (ce_att cf Y.rc rfl (ce_v (i := 11))) (ca_cons (ce_att cf Y.rc rfl (ce_v (i := 11))) ca_nil)))) (ca_cons (ce_tup (ca_cons (ce_v (i := 3)) (ca_cons (ce_v (i := 4)) (ca_cons (ce_v (i := 5)) ca_nil)))) (ca_cons ce_int ca_nil))))))) (cs_cons (cs_expr (ce_app cf (ce_v (i := 6)) (ce_tup (ca_cons (ce_exc (j := 1) (cf.mono (by decide)) tk Y.mk27 (Y.gl "TooMany" (by decide +kernel)) (ca_cons (ce_v (i := 5)) ca_nil)) (ca_cons (ce_att cf Y.rc rfl (ce_exc (j := 1) (cf.mono (by decide)) tk Y.mk27 (Y.gl "TooMany" (by decide +kernel)) (ca_cons (ce_v (i := 5)) ca_nil))) (ca_cons (ce_v (i := 5)) (ca_cons ce_int ca_nil))))))) (cs_one (cs_for cf hp (ci_range (ca_cons (ce_callB (cr_len cf) cl_len rfl Y.free_len boot_len (ca_cons (ce_v (i := 6)) ca_nil)) ca_nil) Y.free_range) (cg_name (i := 12) S.nd) (cs_cons (cs_asg (ce_ix cf (ce_v (i := 6)) (ce_v (i := 12))) (cg_tup cf.kk cf.calm (cgs_cons (cg_name (i := 7) S.nd) (cgs_cons (cg_name (i := 8) S.nd) (cgs_cons (cg_name (i := 13) S.nd) (cgs_cons (cg_name (i := 14) S.nd) cgs_nil)))))) (cs_cons (cs_if (ct_cmp (or_ne cf) od_ne (ce_callB (call_rpr cf Y.sy) cl_repr rfl Y.free_repr PyProof.Rows.boot_repr (ca_cons (ce_v (i := 8)) ca_nil)) (ce_callB (call_rpr cf Y.sy) cl_repr rfl Y.free_repr PyProof.Rows.boot_repr (ca_cons (ce_v (i := 13)) ca_nil))) (cs_one (cs_ret ce_bl)) cs_nil) (cs_cons (cs_setLc (own := [("_law_n", 16)]) cf S.nd finL_ok (ci_range (ca_cons ce_int ca_nil) Y.free_range) (blk_by (by show blkB dlaw.N (defScope (top 37)) _ _ = true; decide +kernel)) (by decide) (fun _ _ _ _ _ => (cg_name (i := 16) S.nd)) (fun _ _ _ _ _ => cts_nil) (fun _ _ _ _ _ => (ce_cmp (or_eq cf.blk) od_eq (ce_v (i := 16)) (ce_v (i := 12)))) (by rfl)) (cs_cons (cs_if (ct_cmp (or_ne cf) od_ne (ce_cal cf tk (C_law_kinds Y) (by decide) (ca_cons (ce_v (i := 7)) ca_nil)) (ce_v (i := 15))) (cs_one (cs_ret ce_bl)) cs_nil) (cs_one (cs_if (ct_cmp (or_ne cf) od_ne (ce_cal cf tk (C_law_under Y) (by decide) (ca_cons (ce_v (i := 7)) ca_nil)) (ce_lc (own := [("_law_n", 16)]) cf S.nd finL_ok (ci_range (ca_cons ce_int ca_nil) Y.free_range) (blk_by (by show blkB dlaw.N (defScope (top 37)) _ _ = true; decide +kernel)) (by decide) (fun _ _ _ _ _ => (cg_name (i := 16) S.nd)) (fun _ _ _ _ _ => cts_nil) (fun _ _ _ _ _ => (ce_cmp (or_eq cf.blk) od_eq (ce_v (i := 16)) (ce_v (i := 14)))))) (cs_one (cs_ret ce_bl)) cs_nil))))))))))))))))))))))))))) (cs_one (cs_ret ce_bl)))
theorem Claw (Y : Kn P w K mg base) : Cal P w K mg base (cc K) 4 "law" 1 flaw := by
  obtain ⟨fd, F⟩ := Y.fnlaw
  exact ⟨_, fd, ["_law_script"], Y.gl "law" (by decide +kernel), F.kp, F.bindsN (fun _ _ _ _ _ _ us hl => match us, hl with | [_], _ => rfl), wlaw Y F⟩
end
end K22

end
section
namespace K22
open PySem PySem.Spec L2 DL
/-! ### the plain law -/
theorem bag_loop (s0 s1 s2 : Option D) (S : Sto) : ∀ (items : List D), (∀ d ∈ items, ∃ k x, d = .tup [.int k, .int x]) → ∀ (b : Int) (u v : Option D),
    ∃ b' u' v', forGo (gT [gN 4, gN 5]) (sSet 3 (mBin fMod (mCall fInt (mCons (mBin fAdd (mBin fAdd (mBin fAdd (mBin fMul (mVar 3) (mC (.int 40014))) (mBin fMod (mCall fInt (mCons (mVar 5) (mNil))) (mC (.int 2147483399)))) (mBin fMul (mC (.int 53)) (mVar 4))) (mC (.int 17))) (mNil))) (mC (.int 2147483563)))) items [s0, s1, s2, some (.int b), u, v] S = .nx [s0, s1, s2, some (.int b'), u', v'] S
  | [], _, b, u, v => ⟨b, u, v, rfl⟩
  | d :: r, h, b, u, v => by
    obtain ⟨k, x, rfl⟩ := h d List.mem_cons_self
    obtain ⟨b', u', v', e⟩ := bag_loop s0 s1 s2 S r (fun d hd => h d (List.mem_cons_of_mem _ hd)) ((b * 40014 + x % 2147483399 + 53 * k + 17) % 2147483563) (some (.int k)) (some (.int x))
    refine ⟨b', u', v', ?_⟩
    rw [← e]
    simp [forGo, gT, gTs, gN, sSet, mBin, mCall, mCons, mNil, mVar, mC, fMod, fInt, fAdd, fMul]
theorem enum_shape {ns : List Int} {lo hi : Option Int} : ∀ d ∈ (cutD (ns.map D.int) lo hi).mapIdx (fun i x => D.tup [.int (i : Int), x]), ∃ k x, d = .tup [.int k, .int x] := by
  intro d hd
  obtain ⟨i, hi', e⟩ := List.mem_mapIdx.mp hd
  have hm : (cutD (ns.map D.int) lo hi)[i] ∈ ns.map D.int := List.mem_of_mem_drop (List.mem_of_mem_take (List.getElem_mem hi'))
  obtain ⟨x, _, ex⟩ := List.mem_map.mp hm
  exact ⟨i, x, by rw [← e, ← ex]⟩
theorem cell_of (ns : List Int) (i : Nat) (S : Sto) (r : List (Option D)) : ∃ a : Int, mIf (mTest (mBin fLt (mVar 1) (mCall fLenS (mCons (mVar 0) (mNil))))) (mBin fIx (mVar 0) (mVar 1)) (mC (.int 0)) (some (.lst (ns.map D.int)) :: some (.int i) :: r) S = .ok (.int a) S := by
  by_cases h : i < ns.length
  · refine ⟨ns[i], ?_⟩
    have h' : (i : Int) < ns.length := by omega
    simp [mIf, mTest, mBin, mVar, mCall, mCons, mNil, fLt, fLenS, D.sq, D.seq, h', fIx, atI, ixN, h]
  · refine ⟨0, ?_⟩
    have h' : ¬ (i : Int) < ns.length := by omega
    simp [mIf, mTest, mBin, mVar, mCall, mCons, mNil, mC, fLt, fLenS, D.sq, D.seq, h']
theorem big_of (a : Int) (S : Sto) (s0 s1 : Option D) (r : List (Option D)) : ∃ a' : Int, mIf (mTest (mBin fGe (mCall fAbs (mCons (mVar 2) (mNil))) (mBin fPow (mC (.int 10)) (mC (.int 18))))) (mCall fAbs (mCons (mVar 2) (mNil))) (mC (.int 0)) (s0 :: s1 :: some (.int a) :: r) S = .ok (.int a') S := by
  by_cases h : (1000000000000000000 : Int) ≤ (if a < 0 then -a else a)
  · refine ⟨if a < 0 then -a else a, ?_⟩
    simp [mIf, mTest, mBin, mVar, mCall, mCons, mNil, mC, fGe, fAbs, fPow, h]
  · refine ⟨0, ?_⟩
    simp [mIf, mTest, mBin, mVar, mCall, mCons, mNil, mC, fGe, fAbs, fPow, h]
theorem bag (ns : List Int) (i : Nat) (S : Sto) : ∃ a b, f_law_bag [.lst (ns.map D.int), .int i] S = .ok (.loc S.length) (S ++ [.lst [.int a, .int b]]) := by
  obtain ⟨a, ea⟩ := cell_of ns i S [none, none, none, none]
  obtain ⟨b', u', v', e⟩ := bag_loop (some (.lst (ns.map D.int))) (some (.int i)) (some (.int a)) S _ (enum_shape (ns := ns) (lo := none) (hi := some 40)) (7411 * i + 271) none none
  obtain ⟨a', ea'⟩ := big_of a S (some (.lst (ns.map D.int))) (some (.int i)) [some (.int b'), u', v']
  refine ⟨a', b', ?_⟩
  have e0 : m_law_bag [some (.lst (ns.map D.int)), some (.int i), none, none, none, none] S = .ret (.loc S.length) (S ++ [.lst [.int a', .int b']]) := by
    unfold m_law_bag
    rw [seq_nx (set_ok ea), seq_nx (set_ok (d := .int (7411 * i + 271)) (S1 := S) (by simp [mBin, mC, mVar, fMul, fAdd])), seq_nx (δ1 := [some (.lst (ns.map D.int)), some (.int i), some (.int a), some (.int b'), u', v']) (S1 := S)]
    · exact ret_ok (by
        rw [call_ok (cons_ok ea' (cons_ok (var_ok rfl) nil_ok))]
        simp [fLstC, D.cleanL, D.clean])
    · rw [for_ok' (ds := (cutD (ns.map D.int) none (some 40)).mapIdx (fun i x => D.tup [.int (i : Int), x])) (S1 := S)]
      · exact e
      · simp [mEnI, mSlice, mVar, mPart, mC, fCut, D.seq]
  simp [f_law_bag, mDef, e0, finK]
theorem take (n : Nat) (a b many : Int) (S : Sto) (hS : S[n]? = some (.lst [.int a, .int b])) (h0 : 0 < many) (h1 : many < 2 ^ 200) : ∃ d a' b', f_law_take [.loc n, .int many] S = .ok (.int d) (S.set n (.lst [.int a', .int b'])) ∧ 0 ≤ d ∧ d < many := by
  have hn : n < S.length := (List.getElem?_eq_some_iff.mp hS).1
  have h1' : many < 1606938044258990275541962092341162602522202993782792835301376 := by simpa using h1
  by_cases h : 0 < a
  · refine ⟨a % many, a / many, b, ?_, Int.emod_nonneg _ (by omega), Int.emod_lt_of_pos _ h0⟩
    have e0 : m_law_take [some (.loc n), some (.int many), none] S = .ret (.int (a % many)) (S.set n (.lst [.int (a / many), .int b])) := by
      unfold m_law_take
      have ix : mBin fIx (mVar 0) (mC (.int 0)) [some (.loc n), some (.int many), none] S = .ok (.int a) S := by simp [mBin, mVar, mC, fIx, D.sq, D.seq, hS, atI, ixN]
      refine seq_ret ?_
      rw [if_t (S1 := S) (test_ok (by rw [bin_ok ix c_ok]; simp [fGt, h]))]
      rw [seq_nx (set_ok (d := .int (a % many)) (S1 := S) (by rw [bin_ok (call_ok (cons_ok ix nil_ok)) (var_ok rfl)]; simp [fInt, fMod, h0]))]
      rw [seq_nx (δ1 := [some (.loc n), some (.int many), some (.int (a % many))]) (S1 := S.set n (.lst [.int (a / many), .int b]))]
      · exact ret_ok (var_ok rfl)
      · simp [sSub, mBin, mVar, mC, fIx, D.sq, D.seq, hS, atI, ixN, fDiv, h0, h1', D.clean, hS]
    simp [f_law_take, mDef, e0, finD]
  · refine ⟨((b * 40692 + 3571) % 2147483399 / 13 * 69691) % 2147483563 / 16 % many, a, (b * 40692 + 3571) % 2147483399, ?_, Int.emod_nonneg _ (by omega), Int.emod_lt_of_pos _ h0⟩
    have e0 : m_law_take [some (.loc n), some (.int many), none] S = .ret (.int (((b * 40692 + 3571) % 2147483399 / 13 * 69691) % 2147483563 / 16 % many)) (S.set n (.lst [.int a, .int ((b * 40692 + 3571) % 2147483399)])) := by
      unfold m_law_take
      have ix : mBin fIx (mVar 0) (mC (.int 0)) [some (.loc n), some (.int many), none] S = .ok (.int a) S := by simp [mBin, mVar, mC, fIx, D.sq, D.seq, hS, atI, ixN]
      rw [seq_nx (δ1 := [some (.loc n), some (.int many), none]) (S1 := S) (by rw [if_f (S1 := S) (test_ok (by rw [bin_ok ix c_ok]; simp [fGt, h]))]; rfl)]
      rw [seq_nx (δ1 := [some (.loc n), some (.int many), none]) (S1 := S.set n (.lst [.int a, .int ((b * 40692 + 3571) % 2147483399)]))]
      · refine ret_ok ?_
        simp [mBin, mVar, mC, mCall, mCons, mNil, fIx, D.sq, D.seq, hn, atI, ixN, fDiv, fMod, fMul, fInt, h0]
      · simp [sSub, mBin, mVar, mC, mCall, mCons, mNil, fIx, D.sq, D.seq, hS, atI, ixN, fMul, fAdd, fInt, fMod, D.clean]
    simp [f_law_take, mDef, e0, finD]
theorem of_ok (n : Nat) (a b : Int) (xs : List D) (S : Sto) (hS : S[n]? = some (.lst [.int a, .int b])) (h0 : 0 < xs.length) (h1 : xs.length ≤ 1000) : ∃ d a' b', f_law_of [.loc n, .lst xs] S = .ok d (S.set n (.lst [.int a', .int b'])) ∧ d ∈ xs := by
  have h1' : ((xs.length : Nat) : Int) < 2 ^ 200 := by
    have : ((xs.length : Nat) : Int) ≤ 1000 := by omega
    exact Int.lt_of_le_of_lt this (by decide)
  obtain ⟨d, a', b', e, d0, d1⟩ := take n a b xs.length S hS (by omega) h1'
  obtain ⟨k, rfl⟩ := Int.eq_ofNat_of_zero_le d0
  have hk : k < xs.length := by omega
  refine ⟨xs[k], a', b', ?_, List.getElem_mem hk⟩
  have e0 : m_law_of [some (.loc n), some (.lst xs)] S = .ret xs[k] (S.set n (.lst [.int a', .int b'])) := by
    unfold m_law_of
    refine ret_ok ?_
    rw [bin_ok (var_ok (d := .lst xs) rfl) (y := .int k) (S2 := S.set n (.lst [.int a', .int b']))]
    · simp [fIx, D.sq, D.seq, atI_nat hk]
    · rw [call_ok (cons_ok (var_ok rfl) (cons_ok (d := .int xs.length) (S1 := S) (by rw [call_ok (cons_ok (var_ok rfl) nil_ok)]; simp [fLenS, D.sq, D.seq]) nil_ok))]
      simp [cut, e]
  simp [f_law_of, mDef, e0, finD]
def things : List D := [.non, .bl true, .bl false, .int 0, .int 1, .int (-5), .int 1000000000000000000000000000000, .str "", .str "name", .str "a b", .lst [], .lst [.int 1, .str "x"], .tup [], .tup [.str "a", .int 2], .dic [] [], .dic [.inr "state"] [.str "on"]]
theorem thing (n : Nat) (a b : Int) (S : Sto) (hS : S[n]? = some (.lst [.int a, .int b])) : ∃ t a' b', f_law_thing [.loc n] S = .ok t (S.set n (.lst [.int a', .int b'])) ∧ t ∈ things := by
  obtain ⟨t, a', b', e, ht⟩ := of_ok n a b things S hS (by decide) (by decide)
  refine ⟨t, a', b', ?_, ht⟩
  have e0 : m_law_thing [some (.loc n), none] S = .ret t (S.set n (.lst [.int a', .int b'])) := by
    unfold m_law_thing
    rw [seq_nx (set_ok (d := .lst things) (S1 := S) (by simp [mCall, mCons, mC, mNil, mUn, mBin, fNeg, fPow, fLst, fTup, fDic1, things]))]
    refine ret_ok ?_
    rw [call_ok (cons_ok (var_ok rfl) (cons_ok (var_ok rfl) nil_ok))]
    simp [cut, e]
  simp [f_law_thing, mDef, e0, finD]
theorem values (t : D) (S : Sto) : f_law_values [t] S = .ok (.lst ((List.range 17).map fun k => .tup [.exv k [t], t])) S := by
  have e0 : m_law_values [some t, none] S = .ret (.lst ((List.range 17).map fun k => .tup [.exv k [t], t])) S := by kernel_rfl
  simp only [f_law_values, mDef, List.map_cons, List.map_nil]
  rw [show ([some t] : List (Option D)) ++ List.replicate (2 - [t].length) none = [some t, none] from rfl, e0]
  simp [finD]
theorem kinds_at {k : Nat} (hk : k < 28) (xs : List D) (S : Sto) : f_law_kinds [.exv k xs] S = .ok (.lst ((List.range 28).map fun j => .bl (k == j))) S := by
  have e0 : m_law_kinds [some (.exv k xs), none] S = .ret (.lst ((List.range 28).map fun j => .bl (k == j))) S := by
    match k, hk with
    | 0, _ => kernel_rfl
    | 1, _ => kernel_rfl
    | 2, _ => kernel_rfl
    | 3, _ => kernel_rfl
    | 4, _ => kernel_rfl
    | 5, _ => kernel_rfl
    | 6, _ => kernel_rfl
    | 7, _ => kernel_rfl
    | 8, _ => kernel_rfl
    | 9, _ => kernel_rfl
    | 10, _ => kernel_rfl
    | 11, _ => kernel_rfl
    | 12, _ => kernel_rfl
    | 13, _ => kernel_rfl
    | 14, _ => kernel_rfl
    | 15, _ => kernel_rfl
    | 16, _ => kernel_rfl
    | 17, _ => kernel_rfl
    | 18, _ => kernel_rfl
    | 19, _ => kernel_rfl
    | 20, _ => kernel_rfl
    | 21, _ => kernel_rfl
    | 22, _ => kernel_rfl
    | 23, _ => kernel_rfl
    | 24, _ => kernel_rfl
    | 25, _ => kernel_rfl
    | 26, _ => kernel_rfl
    | 27, _ => kernel_rfl
    | n + 28, h => omega
  simp only [f_law_kinds, mDef, List.map_cons, List.map_nil]
  rw [show ([some (D.exv k xs)] : List (Option D)) ++ List.replicate (2 - [D.exv k xs].length) none = [some (.exv k xs), none] from rfl, e0]
  simp [finD]
theorem under_at {k : Nat} (hk : k < 28) (xs : List D) (S : Sto) : f_law_under [.exv k xs] S = .ok (.lst ((List.range 4).map fun j => .bl (bases.getD k 9 == j))) S := by
  have e0 : m_law_under [some (.exv k xs), none] S = .ret (.lst ((List.range 4).map fun j => .bl (bases.getD k 9 == j))) S := by
    have h1 : ∀ j, subB j (.c k) = some (bases.getD k 9 == j) := fun j => by simp [subB, hk]
    simp [m_law_under, sSeq, sSet, sRet, mCall, mCons, mNil, mUn, mVar, mBin, fIsi, tyD, h1, fLst, fAdd, D.seq, List.range, List.range.loop]
  simp only [f_law_under, mDef, List.map_cons, List.map_nil]
  rw [show ([some (D.exv k xs)] : List (Option D)) ++ List.replicate (2 - [D.exv k xs].length) none = [some (.exv k xs), none] from rfl, e0]
  simp [finD]
/-! ### reprs -/
structure Good (n d : Nat) (x : D) : Prop where
  ex : ∃ p, x.pyr = some p ∧ p.showable = true ∧ p.depth ≤ d ∧ p.shown.length ≤ n
  cl : x.clean = true
def goodB (n d : Nat) (x : D) : Bool := x.clean && match x.pyr with
  | some p => p.showable && (decide (p.depth ≤ d) && decide (p.shown.length ≤ n))
  | none => false
theorem goodB_ok {n d : Nat} {x : D} (h : goodB n d x = true) : Good n d x := by
  unfold goodB at h
  obtain ⟨h1, h2⟩ := band h
  refine ⟨?_, h1⟩
  cases e : x.pyr with
  | none => rw [e] at h2; cases h2
  | some p =>
    rw [e] at h2
    obtain ⟨h3, h4⟩ := band h2
    obtain ⟨h5, h6⟩ := band h4
    exact ⟨p, rfl, h3, of_decide_eq_true h5, of_decide_eq_true h6⟩
theorem good_things : ∀ t ∈ things, Good 100 3 t := fun t ht => goodB_ok (List.all_eq_true.mp (show things.all (goodB 100 3) = true by decide +kernel) t ht)
theorem good0 : Good 100 3 (.int 0) := goodB_ok (by decide +kernel)
theorem good_repr {x : D} (h : Good 1000 10 x) : ∃ z, ∀ S, fRepr [x] S = .ok (.str z) S := by
  obtain ⟨p, e, h1, h2, h3⟩ := h.ex
  refine ⟨p.shown, fun S => ?_⟩
  have hS : x.pyrS S = some p := by
    cases x with
    | loc n => cases e
    | _ => exact e
  unfold fRepr
  simp only [hS]
  rw [if_pos ⟨h1, by omega, by omega⟩]
theorem good_up {x : D} (h : Good 100 3 x) : Good 1000 10 x := by
  obtain ⟨p, e, h1, h2, h3⟩ := h.ex
  exact ⟨⟨p, e, h1, by omega, by omega⟩, h.cl⟩
theorem good_two {x y : D} (hx : Good 100 3 x) (hy : Good 100 3 y) : Good 1000 10 (.tup [x, y]) := by
  obtain ⟨p, e, h1, h2, h3⟩ := hx.ex
  obtain ⟨q, f, k1, k2, k3⟩ := hy.ex
  refine ⟨⟨.tuple [p, q], ?_, ?_, ?_, ?_⟩, by simp [D.clean, D.cleanL, hx.cl, hy.cl]⟩
  · simp [D.pyr, D.pyrL, e, f]
  · simp [PyData.showable, PyData.showableAll, h1, k1]
  · simp [PyData.depth, PyData.depthAll]
    omega
  · have e1 : (PyData.tuple [p, q]).shown = (Str.ofString "(" ++ ((p.shown ++ Str.ofString ", ") ++ q.shown)) ++ Str.ofString ")" := rfl
    have l1 : (Str.ofString "(").length = 1 := by decide
    have l2 : (Str.ofString ")").length = 1 := by decide
    have l3 : (Str.ofString ", ").length = 2 := by decide
    rw [e1, Str.length_append, Str.length_append, Str.length_append, Str.length_append, l1, l2, l3]
    omega
theorem good_three {x y z : D} (hx : Good 100 3 x) (hy : Good 100 3 y) (hz : Good 100 3 z) : Good 1000 10 (.tup [x, y, z]) := by
  obtain ⟨p, e, h1, h2, h3⟩ := hx.ex
  obtain ⟨q, f, k1, k2, k3⟩ := hy.ex
  obtain ⟨r, g, m1, m2, m3⟩ := hz.ex
  refine ⟨⟨.tuple [p, q, r], ?_, ?_, ?_, ?_⟩, by simp [D.clean, D.cleanL, hx.cl, hy.cl, hz.cl]⟩
  · simp [D.pyr, D.pyrL, e, f, g]
  · simp [PyData.showable, PyData.showableAll, h1, k1, m1]
  · simp [PyData.depth, PyData.depthAll]
    omega
  · have e1 : (PyData.tuple [p, q, r]).shown = (Str.ofString "(" ++ ((p.shown ++ Str.ofString ", ") ++ ((q.shown ++ Str.ofString ", ") ++ r.shown))) ++ Str.ofString ")" := rfl
    have l1 : (Str.ofString "(").length = 1 := by decide
    have l2 : (Str.ofString ")").length = 1 := by decide
    have l3 : (Str.ofString ", ").length = 2 := by decide
    rw [e1, Str.length_append, Str.length_append, Str.length_append, Str.length_append, Str.length_append, Str.length_append, l1, l2, l3]
    omega
/-! ### the rows -/
def rowsOf (t o u : D) : List D := ((List.range 17).map fun k => D.tup [.exv k [t], t, t, .int 0]) ++ [.tup [.exv 17 [t, o], .tup [t, o], .tup [t, o], .int 0], .tup [.exv 18 [], .int 0, .int 0, .int 0], .tup [.exv 19 [t], t, t, .int 1], .tup [.exv 20 [o], o, o, .int 1], .tup [.exv 21 [t], t, t, .int 1],
  .tup [.exv 22 [o], o, o, .int 1], .tup [.exv 23 [], .int 0, .int 0, .int 1], .tup [.exv 24 [t, u], .tup [t, u], .tup [t, u], .int 2], .tup [.exv 25 [], .int 0, .int 0, .int 2], .tup [.exv 26 [t, o, u], .tup [t, o, u], .tup [t, o, u], .int 2], .tup [.exv 27 [u], u, u, .int 3]]
theorem rows_at {t o u : D} (ht : Good 100 3 t) (ho : Good 100 3 o) (hu : Good 100 3 u) {k : Nat} (hk : k < 28) : ∃ xs d, (rowsOf t o u)[k]? = some (.tup [.exv k xs, d, d, .int (bases.getD k 9 : Nat)]) ∧ Good 1000 10 d := by
  by_cases h : k < 17
  · refine ⟨[t], t, ?_, good_up ht⟩
    have hb : bases.getD k 9 = 0 := List.all_eq_true.mp (show (List.range 17).all (fun k => bases.getD k 9 == 0) = true by decide) k (by simpa using h) |> eq_of_beq
    rw [hb, rowsOf, List.getElem?_append_left (by simpa using h)]
    simp [h]
  · match k, hk, h with
    | 17, _, _ => exact ⟨[t, o], .tup [t, o], rfl, good_two ht ho⟩
    | 18, _, _ => exact ⟨[], .int 0, rfl, good_up good0⟩
    | 19, _, _ => exact ⟨[t], t, rfl, good_up ht⟩
    | 20, _, _ => exact ⟨[o], o, rfl, good_up ho⟩
    | 21, _, _ => exact ⟨[t], t, rfl, good_up ht⟩
    | 22, _, _ => exact ⟨[o], o, rfl, good_up ho⟩
    | 23, _, _ => exact ⟨[], .int 0, rfl, good_up good0⟩
    | 24, _, _ => exact ⟨[t, u], .tup [t, u], rfl, good_two ht hu⟩
    | 25, _, _ => exact ⟨[], .int 0, rfl, good_up good0⟩
    | 26, _, _ => exact ⟨[t, o, u], .tup [t, o, u], rfl, good_three ht ho hu⟩
    | 27, _, _ => exact ⟨[u], u, rfl, good_up hu⟩
    | n + 28, hk, _ => omega
    | 0, _, h => simp at h
    | 1, _, h => simp at h
    | 2, _, h => simp at h
    | 3, _, h => simp at h
    | 4, _, h => simp at h
    | 5, _, h => simp at h
    | 6, _, h => simp at h
    | 7, _, h => simp at h
    | 8, _, h => simp at h
    | 9, _, h => simp at h
    | 10, _, h => simp at h
    | 11, _, h => simp at h
    | 12, _, h => simp at h
    | 13, _, h => simp at h
    | 14, _, h => simp at h
    | 15, _, h => simp at h
    | 16, _, h => simp at h
/-- the names of the inner loop's parts -/
def inBody : MS := (sSeq (sAsg (mBin fIx (mVar 6) (mVar 12)) (gT [gN 7, gN 8, gN 13, gN 14])) (sSeq (sIf (mTest (mBin fNe (mCall fRepr (mCons (mVar 8) (mNil))) (mCall fRepr (mCons (mVar 13) (mNil))))) (sRet (mC (.bl false))) (sNx)) (sSeq (sSet 15 (mLc (mRgI (mCons (mC (.int 28)) (mNil))) (gN 16) [16] (tOk) (mBin fEq (mVar 16) (mVar 12)) finL)) (sSeq (sIf (mTest (mBin fNe (mCall (cut 1 f_law_kinds []) (mCons (mVar 7) (mNil))) (mVar 15))) (sRet (mC (.bl false))) (sNx)) (sIf (mTest (mBin fNe (mCall (cut 1 f_law_under []) (mCons (mVar 7) (mNil))) (mLc (mRgI (mCons (mC (.int 4)) (mNil))) (gN 16) [16] (tOk) (mBin fEq (mVar 16) (mVar 14)) finL))) (sRet (mC (.bl false))) (sNx))))))
theorem cut1 (f : MF) (x : D) (S : Sto) : cut 1 f [] [x] S = f [x] S := rfl
theorem dec_nat (j k : Nat) : decide ((j : Int) = (k : Int)) = (k == j) := by
  by_cases q : j = k
  · rw [q]
    simp
  · have h1 : ¬ ((j : Int) = (k : Int)) := by omega
    have h2 : (k == j) = false := beq_eq_false_iff_ne.mpr fun z => q z.symm
    rw [decide_eq_false h1, h2]
theorem lc_eq (n k i : Nat) (hn : n < 1000) {δ : Sl} {S : Sto} (hi : i ≠ 16) (hδ : δ[i]? = some (some (.int (k : Int)))) (hl : δ.length = 17) : mLc (mRgI (mCons (mC (.int (n : Int))) mNil)) (gN 16) [16] tOk (mBin fEq (mVar 16) (mVar i)) finL δ S = .ok (.lst (((List.range n).map fun j => (k == j)).map D.bl)) S := by
  rw [lc_all (f := fun d => match d with | .int j => .bl (decide (j = (k : Int))) | _ => .non) (range_of (n := n) rfl (by omega)) (by rw [List.length_map, List.length_range]; omega)]
  · simp only [finL, List.map_map]
    congr 2
    refine List.map_congr_left fun j hj => ?_
    simp only [Function.comp]
    rw [dec_nat]
  · intro d hd
    obtain ⟨j, hj, rfl⟩ := List.mem_map.mp hd
    refine ⟨_, rfl, ?_⟩
    rw [bin_ok (var_ok (d := .int (j : Int)) ?_) (var_ok (d := .int (k : Int)) ?_)]
    · simp only [fEq]
    · simp [wipeD, hl]
    · simp only [wipeD]
      rw [List.getElem?_set_ne (Ne.symm hi), List.getElem?_set_ne (Ne.symm hi), hδ]
theorem in_step {t o u : D} (ht : Good 100 3 t) (ho : Good 100 3 o) (hu : Good 100 3 u) {k : Nat} (hk : k < 28) (A : Sto) (s0 s1 s2 s3 s4 s5 e7 e8 v9 v10 v11 v13 v14 v15 v16 : Option D) :
    ∃ x7 x8 x13 x14 x15, inBody [s0, s1, s2, s3, s4, s5, some (.loc A.length), e7, e8, v9, v10, v11, some (.int k), v13, v14, v15, v16] (A ++ [.lst (rowsOf t o u)]) = .nx [s0, s1, s2, s3, s4, s5, some (.loc A.length), x7, x8, v9, v10, v11, some (.int k), x13, x14, x15, v16] (A ++ [.lst (rowsOf t o u)]) := by
  obtain ⟨xs, d, hr, hg⟩ := rows_at ht ho hu hk
  obtain ⟨z, hz⟩ := good_repr hg
  refine ⟨some (.exv k xs), some d, some d, some (.int (bases.getD k 9 : Nat)), some (.lst (((List.range 28).map fun j => (k == j)).map D.bl)), ?_⟩
  have hlen : (rowsOf t o u).length = 28 := rfl
  have ix : mBin fIx (mVar 6) (mVar 12) [s0, s1, s2, s3, s4, s5, some (.loc A.length), e7, e8, v9, v10, v11, some (.int k), v13, v14, v15, v16] (A ++ [.lst (rowsOf t o u)]) = .ok (.tup [.exv k xs, d, d, .int (bases.getD k 9 : Nat)]) (A ++ [.lst (rowsOf t o u)]) := by
    rw [bin_ok (var_ok rfl) (var_ok rfl)]
    have h' : (k : Int) < 28 := by omega
    simp [fIx, D.sq, D.seq, atI, ixN, hlen, h', hr]
  unfold inBody
  rw [seq_nx (asg_ok ix (δ1 := [s0, s1, s2, s3, s4, s5, some (.loc A.length), some (.exv k xs), some d, v9, v10, v11, some (.int k), some d, some (.int (bases.getD k 9 : Nat)), v15, v16]) rfl)]
  rw [seq_nx (if_pass (S1 := A ++ [.lst (rowsOf t o u)]) (test_ok (by
    rw [bin_ok (x := .str z) (y := .str z) (call_ok (cons_ok (var_ok rfl) nil_ok) |>.trans (hz _)) (call_ok (cons_ok (var_ok rfl) nil_ok) |>.trans (hz _))]
    simp [fNe])))]
  rw [seq_nx (set_ok (d := .lst (((List.range 28).map fun j => (k == j)).map D.bl)) (S1 := A ++ [.lst (rowsOf t o u)]) ?h1)]
  case h1 => exact lc_eq 28 k 12 (by decide) (by decide) rfl rfl
  have hkk := kinds_at hk xs (A ++ [.lst (rowsOf t o u)])
  have huu := under_at hk xs (A ++ [.lst (rowsOf t o u)])
  rw [seq_nx (if_pass (S1 := A ++ [.lst (rowsOf t o u)]) (test_ok (by
    rw [bin_ok (x := .lst (((List.range 28).map fun j => (k == j)).map D.bl)) (S1 := A ++ [.lst (rowsOf t o u)]) (call_ok (cons_ok (var_ok rfl) nil_ok) |>.trans ((cut1 _ _ _).trans (hkk.trans (by rw [List.map_map]; rfl)))) (var_ok rfl)]
    exact ne_bools _ _)))]
  rw [if_pass (S1 := A ++ [.lst (rowsOf t o u)]) (test_ok (by
    rw [bin_ok (x := .lst (((List.range 4).map fun j => (bases.getD k 9 == j)).map D.bl)) (S1 := A ++ [.lst (rowsOf t o u)]) (y := .lst (((List.range 4).map fun j => (bases.getD k 9 == j)).map D.bl)) (S2 := A ++ [.lst (rowsOf t o u)]) (call_ok (cons_ok (var_ok rfl) nil_ok) |>.trans ((cut1 _ _ _).trans (huu.trans (by rw [List.map_map]; rfl)))) (lc_eq 4 (bases.getD k 9) 14 (by decide) (by decide) rfl rfl)]
    exact ne_bools _ _))]
  rfl
/-! ### the law -/
theorem in_all {t o u : D} (ht : Good 100 3 t) (ho : Good 100 3 o) (hu : Good 100 3 u) (A : Sto) (s0 s1 s2 s3 s4 s5 e7 e8 v9 v10 v11 v12 v13 v14 v15 v16 : Option D) :
    ∃ x7 x8 x12 x13 x14 x15, sFor (mRgI (mCons (mCall fLenS (mCons (mVar 6) (mNil))) (mNil))) (gN 12) inBody [s0, s1, s2, s3, s4, s5, some (.loc A.length), e7, e8, v9, v10, v11, v12, v13, v14, v15, v16] (A ++ [.lst (rowsOf t o u)]) = .nx [s0, s1, s2, s3, s4, s5, some (.loc A.length), x7, x8, v9, v10, v11, x12, x13, x14, x15, v16] (A ++ [.lst (rowsOf t o u)]) := by
  have hlen : (rowsOf t o u).length = 28 := rfl
  rw [for_ok' (S1 := A ++ [.lst (rowsOf t o u)]) (range_of (n := 28) (by
    rw [call_ok (cons_ok (var_ok rfl) nil_ok)]
    simp [fLenS, D.sq, D.seq, hlen]) (by decide))]
  obtain ⟨δ', S', e, h⟩ := for_keep (gm := gN 12) (b := inBody) (ds := (List.range 28).map fun (i : Nat) => D.int (i : Int))
    (P := fun δ S => S = A ++ [.lst (rowsOf t o u)] ∧ ∃ x7 x8 x12 x13 x14 x15, δ = [s0, s1, s2, s3, s4, s5, some (.loc A.length), x7, x8, v9, v10, v11, x12, x13, x14, x15, v16]) (fun d hd δ S hP => by
      obtain ⟨j, hj, rfl⟩ := List.mem_map.mp hd
      obtain ⟨rfl, x7, x8, x12, x13, x14, x15, rfl⟩ := hP
      obtain ⟨y7, y8, y13, y14, y15, e⟩ := in_step ht ho hu (k := j) (by simpa using hj) A s0 s1 s2 s3 s4 s5 x7 x8 v9 v10 v11 x13 x14 x15 v16
      exact ⟨_, _, _, rfl, e, rfl, _, _, _, _, _, _, rfl⟩) [s0, s1, s2, s3, s4, s5, some (.loc A.length), e7, e8, v9, v10, v11, v12, v13, v14, v15, v16] (A ++ [.lst (rowsOf t o u)]) ⟨rfl, _, _, _, _, _, _, rfl⟩
  obtain ⟨rfl, x7, x8, x12, x13, x14, x15, rfl⟩ := h
  exact ⟨_, _, _, _, _, _, e⟩
def outBody : MS := (sSeq (sSet 2 (mCall (cut 2 f_law_bag []) (mCons (mVar 0) (mCons (mVar 1) (mNil))))) (sSeq (sSet 3 (mCall (cut 1 f_law_thing []) (mCons (mVar 2) (mNil)))) (sSeq (sPar 4 5 (mCons (mCall (cut 1 f_law_thing []) (mCons (mVar 2) (mNil))) (mCons (mCall (cut 1 f_law_thing []) (mCons (mVar 2) (mNil))) (mNil)))) (sSeq (sSet 6 (mLc (mSeqI (mCall (cut 1 f_law_values []) (mCons (mVar 3) (mNil)))) (gT [gN 7, gN 8]) [7, 8] (tOk) (mCall fTup (mCons (mVar 7) (mCons (mVar 8) (mCons (mVar 3) (mCons (mC (.int 0)) (mNil)))))) finC)) (sSeq (sSet 9 (mCall (fExc 17 2) (mCons (mVar 3) (mCons (mVar 4) (mNil))))) (sSeq (sDrop (mMeth1 isSq fApp (mVar 6) (mCall fTup (mCons (mVar 9) (mCons (mCall fTup (mCons (mUn (fAtt FL "deed") (mVar 9)) (mCons (mUn (fAtt FL "column") (mVar 9)) (mNil)))) (mCons (mCall fTup (mCons (mVar 3) (mCons (mVar 4) (mNil)))) (mCons (mC (.int 0)) (mNil)))))))) (sSeq (sDrop (mMeth1 isSq fApp (mVar 6) (mCall fTup (mCons (mC (.exv 18 [])) (mCons (mC (.int 0)) (mCons (mC (.int 0)) (mCons (mC (.int 0)) (mNil)))))))) (sSeq (sDrop (mMeth1 isSq fApp (mVar 6) (mCall fTup (mCons (mCall (fExc 19 1) (mCons (mVar 3) (mNil))) (mCons (mUn (fAtt FL "name") (mCall (fExc 19 1) (mCons (mVar 3) (mNil)))) (mCons (mVar 3) (mCons (mC (.int 1)) (mNil)))))))) (sSeq (sDrop (mMeth1 isSq fApp (mVar 6) (mCall fTup (mCons (mCall (fExc 20 1) (mCons (mVar 4) (mNil))) (mCons (mUn (fAtt FL "name") (mCall (fExc 20 1) (mCons (mVar 4) (mNil)))) (mCons (mVar 4) (mCons (mC (.int 1)) (mNil)))))))) (sSeq (sDrop (mMeth1 isSq fApp (mVar 6) (mCall fTup (mCons (mCall (fExc 21 1) (mCons (mVar 3) (mNil))) (mCons (mUn (fAtt FL "moment") (mCall (fExc 21 1) (mCons (mVar 3) (mNil)))) (mCons (mVar 3) (mCons (mC (.int 1)) (mNil)))))))) (sSeq (sDrop (mMeth1 isSq fApp (mVar 6) (mCall fTup (mCons (mCall (fExc 22 1) (mCons (mVar 4) (mNil))) (mCons (mUn (fAtt FL "situation") (mCall (fExc 22 1) (mCons (mVar 4) (mNil)))) (mCons (mVar 4) (mCons (mC (.int 1)) (mNil)))))))) (sSeq (sDrop (mMeth1 isSq fApp (mVar 6) (mCall fTup (mCons (mC (.exv 23 [])) (mCons (mC (.int 0)) (mCons (mC (.int 0)) (mCons (mC (.int 1)) (mNil)))))))) (sSeq (sSet 10 (mCall (fExc 24 2) (mCons (mVar 3) (mCons (mVar 5) (mNil))))) (sSeq (sDrop (mMeth1 isSq fApp (mVar 6) (mCall fTup (mCons (mVar 10) (mCons (mCall fTup (mCons (mUn (fAtt FL "deed") (mVar 10)) (mCons (mUn (fAtt FL "state") (mVar 10)) (mNil)))) (mCons (mCall fTup (mCons (mVar 3) (mCons (mVar 5) (mNil)))) (mCons (mC (.int 2)) (mNil)))))))) (sSeq (sDrop (mMeth1 isSq fApp (mVar 6) (mCall fTup (mCons (mC (.exv 25 [])) (mCons (mC (.int 0)) (mCons (mC (.int 0)) (mCons (mC (.int 2)) (mNil)))))))) (sSeq (sSet 11 (mCall (fExc 26 3) (mCons (mVar 3) (mCons (mVar 4) (mCons (mVar 5) (mNil)))))) (sSeq (sDrop (mMeth1 isSq fApp (mVar 6) (mCall fTup (mCons (mVar 11) (mCons (mCall fTup (mCons (mUn (fAtt FL "target") (mVar 11)) (mCons (mUn (fAtt FL "moment") (mVar 11)) (mCons (mUn (fAtt FL "writers") (mVar 11)) (mNil))))) (mCons (mCall fTup (mCons (mVar 3) (mCons (mVar 4) (mCons (mVar 5) (mNil))))) (mCons (mC (.int 2)) (mNil)))))))) (sSeq (sDrop (mMeth1 isSq fApp (mVar 6) (mCall fTup (mCons (mCall (fExc 27 1) (mCons (mVar 5) (mNil))) (mCons (mUn (fAtt FL "limit") (mCall (fExc 27 1) (mCons (mVar 5) (mNil)))) (mCons (mVar 5) (mCons (mC (.int 3)) (mNil)))))))) (sFor (mRgI (mCons (mCall fLenS (mCons (mVar 6) (mNil))) (mNil))) (gN 12) inBody)))))))))))))))))))
def outIt : MA := (mRgI (mCons (mCall fMax (mCons (mC (.int 1)) (mCons (mCall fMin (mCons (mC (.int 8)) (mCons (mCall fLenS (mCons (mVar 0) (mNil))) (mNil)))) (mNil)))) (mNil)))
theorem mlaw_eq : mlaw = sSeq (sFor outIt (gN 1) outBody) (sRet (mC (.bl true))) := rfl
/-- what stands in a loop's round -/
def Shape (ns : List Int) (δ : Sl) : Prop := ∃ s1 s2 s3 s4 s5 s6 s7 s8 s9 s10 s11 s12 s13 s14 s15 s16, δ = [some (.lst (ns.map D.int)), s1, s2, s3, s4, s5, s6, s7, s8, s9, s10, s11, s12, s13, s14, s15, s16]
theorem thing_at (n : Nat) (a b : Int) (A : Sto) (hn : n = A.length) : ∃ t a' b', f_law_thing [.loc n] (A ++ [.lst [.int a, .int b]]) = .ok t (A ++ [.lst [.int a', .int b']]) ∧ t ∈ things := by
  subst hn
  obtain ⟨t, a', b', e, h⟩ := thing A.length a b (A ++ [.lst [.int a, .int b]]) (by simp)
  refine ⟨t, a', b', ?_, h⟩
  rw [e]
  simp
theorem out_step (ns : List Int) (i : Nat) (S : Sto) (δ : Sl) (h : Shape ns δ) : ∃ δ' S', outBody (δ.set 1 (some (.int (i : Int)))) S = .nx δ' S' ∧ Shape ns δ' := by
  obtain ⟨s1, s2, s3, s4, s5, s6, s7, s8, s9, s10, s11, s12, s13, s14, s15, s16, rfl⟩ := h
  obtain ⟨a, b, e1⟩ := bag ns i S
  obtain ⟨t, a1, b1, e2, ht⟩ := thing_at S.length a b S rfl
  obtain ⟨o, a2, b2, e3, ho⟩ := thing_at S.length a1 b1 S rfl
  obtain ⟨u, a3, b3, e4, hu⟩ := thing_at S.length a2 b2 S rfl
  have gt := good_things t ht
  have go := good_things o ho
  have gu := good_things u hu
  have ct := gt.cl
  have co := go.cl
  have cu := gu.cl
  unfold outBody
  rw [seq_nx (set_ok ((call2 (var_ok rfl) (var_ok rfl)).trans e1))]
  rw [seq_nx (set_ok ((call1 (var_ok rfl)).trans e2))]
  rw [seq_nx (par_ok (cons_ok ((call1 (var_ok rfl)).trans e3) (cons_ok ((call1 (var_ok rfl)).trans e4) nil_ok)))]
  generalize hA : S ++ [O.lst [.int a3, .int b3]] = A
  have lc1 : ∀ (δ : Sl), δ.length = 17 → δ[3]? = some (some t) → mLc (mSeqI (mCall (cut 1 f_law_values []) (mCons (mVar 3) (mNil)))) (gT [gN 7, gN 8]) [7, 8] (tOk) (mCall fTup (mCons (mVar 7) (mCons (mVar 8) (mCons (mVar 3) (mCons (mC (.int 0)) (mNil)))))) finC δ A = .ok (.loc A.length) (A ++ [.lst ((List.range 17).map fun k => D.tup [.exv k [t], t, t, .int 0])]) := by
    intro δ hl h3
    rw [lc_all (items := (List.range 17).map fun k => D.tup [.exv k [t], t]) (S := A) (f := fun d => match d with | .tup [x, y] => .tup [x, y, t, .int 0] | _ => .non) ?_ (by simp)]
    · have hc : D.cleanL ((List.range 17).map fun k => D.tup [.exv k [t], t, t, .int 0]) = true := cleanL_iff.mpr fun d hd => by
        obtain ⟨k, _, rfl⟩ := List.mem_map.mp hd
        simp [D.clean, D.cleanL, ct]
      rw [List.map_map]
      show finC ((List.range 17).map fun k => D.tup [.exv k [t], t, t, .int 0]) A = _
      rw [finC, if_pos hc]
    · intro d hd
      obtain ⟨k, _, rfl⟩ := List.mem_map.mp hd
      refine ⟨_, rfl, ?_⟩
      rw [call_ok (cons_ok (var_ok (d := .exv k [t]) ?_) (cons_ok (var_ok (d := t) ?_) (cons_ok (var_ok (d := t) ?_) (cons_ok c_ok nil_ok))))]
      · rfl
      · simp [wipeD, hl]
      · simp [wipeD, hl]
      · simp only [wipeD]
        rw [List.getElem?_set_ne (by decide), List.getElem?_set_ne (by decide), List.getElem?_set_ne (by decide), List.getElem?_set_ne (by decide), h3]
    · unfold mSeqI
      rw [call1 (var_ok h3), values]
      rfl
  rw [seq_nx (set_ok (lc1 _ rfl rfl))]
  rw [seq_nx (set_ok (d := D.exv 17 [t, o]) (S1 := A ++ [.lst ((List.range 17).map fun k => D.tup [D.exv k [t], t, t, D.int 0])]) (by kernel_rfl))]
  rw [seq_nx (app_step (A := A) (rows := ((List.range 17).map fun k => D.tup [D.exv k [t], t, t, D.int 0])) (v := D.tup [D.exv 17 [t, o], D.tup [t, o], D.tup [t, o], D.int 0]) rfl (by kernel_rfl) (by simp [D.clean, D.cleanL, ct, co, cu]) (by simp))]
  rw [seq_nx (app_step (A := A) (rows := (((List.range 17).map fun k => D.tup [D.exv k [t], t, t, D.int 0]) ++ [D.tup [D.exv 17 [t, o], D.tup [t, o], D.tup [t, o], D.int 0]])) (v := D.tup [D.exv 18 [], D.int 0, D.int 0, D.int 0]) rfl (by kernel_rfl) (by simp [D.clean, D.cleanL, ct, co, cu]) (by simp))]
  rw [seq_nx (app_step (A := A) (rows := ((((List.range 17).map fun k => D.tup [D.exv k [t], t, t, D.int 0]) ++ [D.tup [D.exv 17 [t, o], D.tup [t, o], D.tup [t, o], D.int 0]]) ++ [D.tup [D.exv 18 [], D.int 0, D.int 0, D.int 0]])) (v := D.tup [D.exv 19 [t], t, t, D.int 1]) rfl (by kernel_rfl) (by simp [D.clean, D.cleanL, ct, co, cu]) (by simp))]
  rw [seq_nx (app_step (A := A) (rows := (((((List.range 17).map fun k => D.tup [D.exv k [t], t, t, D.int 0]) ++ [D.tup [D.exv 17 [t, o], D.tup [t, o], D.tup [t, o], D.int 0]]) ++ [D.tup [D.exv 18 [], D.int 0, D.int 0, D.int 0]]) ++ [D.tup [D.exv 19 [t], t, t, D.int 1]])) (v := D.tup [D.exv 20 [o], o, o, D.int 1]) rfl (by kernel_rfl) (by simp [D.clean, D.cleanL, ct, co, cu]) (by simp))]
  rw [seq_nx (app_step (A := A) (rows := ((((((List.range 17).map fun k => D.tup [D.exv k [t], t, t, D.int 0]) ++ [D.tup [D.exv 17 [t, o], D.tup [t, o], D.tup [t, o], D.int 0]]) ++ [D.tup [D.exv 18 [], D.int 0, D.int 0, D.int 0]]) ++ [D.tup [D.exv 19 [t], t, t, D.int 1]]) ++ [D.tup [D.exv 20 [o], o, o, D.int 1]])) (v := D.tup [D.exv 21 [t], t, t, D.int 1]) rfl (by kernel_rfl) (by simp [D.clean, D.cleanL, ct, co, cu]) (by simp))]
  rw [seq_nx (app_step (A := A) (rows := (((((((List.range 17).map fun k => D.tup [D.exv k [t], t, t, D.int 0]) ++ [D.tup [D.exv 17 [t, o], D.tup [t, o], D.tup [t, o], D.int 0]]) ++ [D.tup [D.exv 18 [], D.int 0, D.int 0, D.int 0]]) ++ [D.tup [D.exv 19 [t], t, t, D.int 1]]) ++ [D.tup [D.exv 20 [o], o, o, D.int 1]]) ++ [D.tup [D.exv 21 [t], t, t, D.int 1]])) (v := D.tup [D.exv 22 [o], o, o, D.int 1]) rfl (by kernel_rfl) (by simp [D.clean, D.cleanL, ct, co, cu]) (by simp))]
  rw [seq_nx (app_step (A := A) (rows := ((((((((List.range 17).map fun k => D.tup [D.exv k [t], t, t, D.int 0]) ++ [D.tup [D.exv 17 [t, o], D.tup [t, o], D.tup [t, o], D.int 0]]) ++ [D.tup [D.exv 18 [], D.int 0, D.int 0, D.int 0]]) ++ [D.tup [D.exv 19 [t], t, t, D.int 1]]) ++ [D.tup [D.exv 20 [o], o, o, D.int 1]]) ++ [D.tup [D.exv 21 [t], t, t, D.int 1]]) ++ [D.tup [D.exv 22 [o], o, o, D.int 1]])) (v := D.tup [D.exv 23 [], D.int 0, D.int 0, D.int 1]) rfl (by kernel_rfl) (by simp [D.clean, D.cleanL, ct, co, cu]) (by simp))]
  rw [seq_nx (set_ok (d := D.exv 24 [t, u]) (S1 := A ++ [.lst (((((((((List.range 17).map fun k => D.tup [D.exv k [t], t, t, D.int 0]) ++ [D.tup [D.exv 17 [t, o], D.tup [t, o], D.tup [t, o], D.int 0]]) ++ [D.tup [D.exv 18 [], D.int 0, D.int 0, D.int 0]]) ++ [D.tup [D.exv 19 [t], t, t, D.int 1]]) ++ [D.tup [D.exv 20 [o], o, o, D.int 1]]) ++ [D.tup [D.exv 21 [t], t, t, D.int 1]]) ++ [D.tup [D.exv 22 [o], o, o, D.int 1]]) ++ [D.tup [D.exv 23 [], D.int 0, D.int 0, D.int 1]])]) (by kernel_rfl))]
  rw [seq_nx (app_step (A := A) (rows := (((((((((List.range 17).map fun k => D.tup [D.exv k [t], t, t, D.int 0]) ++ [D.tup [D.exv 17 [t, o], D.tup [t, o], D.tup [t, o], D.int 0]]) ++ [D.tup [D.exv 18 [], D.int 0, D.int 0, D.int 0]]) ++ [D.tup [D.exv 19 [t], t, t, D.int 1]]) ++ [D.tup [D.exv 20 [o], o, o, D.int 1]]) ++ [D.tup [D.exv 21 [t], t, t, D.int 1]]) ++ [D.tup [D.exv 22 [o], o, o, D.int 1]]) ++ [D.tup [D.exv 23 [], D.int 0, D.int 0, D.int 1]])) (v := D.tup [D.exv 24 [t, u], D.tup [t, u], D.tup [t, u], D.int 2]) rfl (by kernel_rfl) (by simp [D.clean, D.cleanL, ct, co, cu]) (by simp))]
  rw [seq_nx (app_step (A := A) (rows := ((((((((((List.range 17).map fun k => D.tup [D.exv k [t], t, t, D.int 0]) ++ [D.tup [D.exv 17 [t, o], D.tup [t, o], D.tup [t, o], D.int 0]]) ++ [D.tup [D.exv 18 [], D.int 0, D.int 0, D.int 0]]) ++ [D.tup [D.exv 19 [t], t, t, D.int 1]]) ++ [D.tup [D.exv 20 [o], o, o, D.int 1]]) ++ [D.tup [D.exv 21 [t], t, t, D.int 1]]) ++ [D.tup [D.exv 22 [o], o, o, D.int 1]]) ++ [D.tup [D.exv 23 [], D.int 0, D.int 0, D.int 1]]) ++ [D.tup [D.exv 24 [t, u], D.tup [t, u], D.tup [t, u], D.int 2]])) (v := D.tup [D.exv 25 [], D.int 0, D.int 0, D.int 2]) rfl (by kernel_rfl) (by simp [D.clean, D.cleanL, ct, co, cu]) (by simp))]
  rw [seq_nx (set_ok (d := D.exv 26 [t, o, u]) (S1 := A ++ [.lst (((((((((((List.range 17).map fun k => D.tup [D.exv k [t], t, t, D.int 0]) ++ [D.tup [D.exv 17 [t, o], D.tup [t, o], D.tup [t, o], D.int 0]]) ++ [D.tup [D.exv 18 [], D.int 0, D.int 0, D.int 0]]) ++ [D.tup [D.exv 19 [t], t, t, D.int 1]]) ++ [D.tup [D.exv 20 [o], o, o, D.int 1]]) ++ [D.tup [D.exv 21 [t], t, t, D.int 1]]) ++ [D.tup [D.exv 22 [o], o, o, D.int 1]]) ++ [D.tup [D.exv 23 [], D.int 0, D.int 0, D.int 1]]) ++ [D.tup [D.exv 24 [t, u], D.tup [t, u], D.tup [t, u], D.int 2]]) ++ [D.tup [D.exv 25 [], D.int 0, D.int 0, D.int 2]])]) (by kernel_rfl))]
  rw [seq_nx (app_step (A := A) (rows := (((((((((((List.range 17).map fun k => D.tup [D.exv k [t], t, t, D.int 0]) ++ [D.tup [D.exv 17 [t, o], D.tup [t, o], D.tup [t, o], D.int 0]]) ++ [D.tup [D.exv 18 [], D.int 0, D.int 0, D.int 0]]) ++ [D.tup [D.exv 19 [t], t, t, D.int 1]]) ++ [D.tup [D.exv 20 [o], o, o, D.int 1]]) ++ [D.tup [D.exv 21 [t], t, t, D.int 1]]) ++ [D.tup [D.exv 22 [o], o, o, D.int 1]]) ++ [D.tup [D.exv 23 [], D.int 0, D.int 0, D.int 1]]) ++ [D.tup [D.exv 24 [t, u], D.tup [t, u], D.tup [t, u], D.int 2]]) ++ [D.tup [D.exv 25 [], D.int 0, D.int 0, D.int 2]])) (v := D.tup [D.exv 26 [t, o, u], D.tup [t, o, u], D.tup [t, o, u], D.int 2]) rfl (by kernel_rfl) (by simp [D.clean, D.cleanL, ct, co, cu]) (by simp))]
  rw [seq_nx (app_step (A := A) (rows := ((((((((((((List.range 17).map fun k => D.tup [D.exv k [t], t, t, D.int 0]) ++ [D.tup [D.exv 17 [t, o], D.tup [t, o], D.tup [t, o], D.int 0]]) ++ [D.tup [D.exv 18 [], D.int 0, D.int 0, D.int 0]]) ++ [D.tup [D.exv 19 [t], t, t, D.int 1]]) ++ [D.tup [D.exv 20 [o], o, o, D.int 1]]) ++ [D.tup [D.exv 21 [t], t, t, D.int 1]]) ++ [D.tup [D.exv 22 [o], o, o, D.int 1]]) ++ [D.tup [D.exv 23 [], D.int 0, D.int 0, D.int 1]]) ++ [D.tup [D.exv 24 [t, u], D.tup [t, u], D.tup [t, u], D.int 2]]) ++ [D.tup [D.exv 25 [], D.int 0, D.int 0, D.int 2]]) ++ [D.tup [D.exv 26 [t, o, u], D.tup [t, o, u], D.tup [t, o, u], D.int 2]])) (v := D.tup [D.exv 27 [u], u, u, D.int 3]) rfl (by kernel_rfl) (by simp [D.clean, D.cleanL, ct, co, cu]) (by simp))]
  rw [show ((((((((((((((List.range 17).map fun k => D.tup [D.exv k [t], t, t, D.int 0]) ++ [D.tup [D.exv 17 [t, o], D.tup [t, o], D.tup [t, o], D.int 0]]) ++ [D.tup [D.exv 18 [], D.int 0, D.int 0, D.int 0]]) ++ [D.tup [D.exv 19 [t], t, t, D.int 1]]) ++ [D.tup [D.exv 20 [o], o, o, D.int 1]]) ++ [D.tup [D.exv 21 [t], t, t, D.int 1]]) ++ [D.tup [D.exv 22 [o], o, o, D.int 1]]) ++ [D.tup [D.exv 23 [], D.int 0, D.int 0, D.int 1]]) ++ [D.tup [D.exv 24 [t, u], D.tup [t, u], D.tup [t, u], D.int 2]]) ++ [D.tup [D.exv 25 [], D.int 0, D.int 0, D.int 2]]) ++ [D.tup [D.exv 26 [t, o, u], D.tup [t, o, u], D.tup [t, o, u], D.int 2]]) ++ [D.tup [D.exv 27 [u], u, u, D.int 3]]) : List D) = rowsOf t o u from by simp [rowsOf]]
  obtain ⟨x7, x8, x12, x13, x14, x15, e⟩ := in_all gt go gu A (some (.lst (ns.map D.int))) (some (.int i)) (some (.loc S.length)) (some t) (some o) (some u) s7 s8 (some (.exv 17 [t, o])) (some (.exv 24 [t, u])) (some (.exv 26 [t, o, u])) s12 s13 s14 s15 s16
  exact ⟨_, _, e, _, _, _, _, _, _, _, _, _, _, _, _, _, _, _, _, rfl⟩
theorem it_ok (ns : List Int) (r : Sl) (S : Sto) : ∃ n : Nat, outIt (some (.lst (ns.map D.int)) :: r) S = .ok ((List.range n).map fun (i : Nat) => D.int (i : Int)) S := by
  obtain ⟨n, hn, hl⟩ : ∃ n : Nat, (if (if (ns.length : Int) < 8 then (ns.length : Int) else 8) > 1 then (if (ns.length : Int) < 8 then (ns.length : Int) else 8) else 1) = (n : Int) ∧ n < 1000000 := by
    by_cases h1 : (ns.length : Int) < 8
    · rw [if_pos h1]
      by_cases h2 : (ns.length : Int) > 1
      · exact ⟨ns.length, by rw [if_pos h2], by omega⟩
      · exact ⟨1, by rw [if_neg h2]; rfl, by decide⟩
    · rw [if_neg h1]
      exact ⟨8, rfl, by decide⟩
  refine ⟨n, ?_⟩
  unfold outIt
  refine range_of (S1 := S) ?_ hl
  rw [call_ok (cons_ok c_ok (cons_ok (d := .int (if (ns.length : Int) < 8 then (ns.length : Int) else 8)) (S1 := S) ?_ nil_ok))]
  · show R.ok (D.int (if _ > (1 : Int) then _ else 1)) S = _
    rw [hn]
  · rw [call_ok (cons_ok c_ok (cons_ok (d := .int (ns.length : Int)) (S1 := S) ?_ nil_ok))]
    · rfl
    · rw [call_ok (cons_ok (var_ok rfl) nil_ok)]
      simp [fLenS, D.sq, D.seq]
theorem law_true (ns : List Int) : ∃ S, flaw (dScript ns) [] = .ok (.bl true) S := by
  obtain ⟨n, e0⟩ := it_ok ns (List.replicate 16 none) []
  obtain ⟨δ', S', e, _⟩ := for_keep (gm := gN 1) (b := outBody) (ds := (List.range n).map fun (i : Nat) => D.int (i : Int)) (P := fun δ _ => Shape ns δ) (fun d hd δ S hP => by
    obtain ⟨j, _, rfl⟩ := List.mem_map.mp hd
    obtain ⟨δ', S', e, h⟩ := out_step ns j S δ hP
    exact ⟨_, δ', S', rfl, e, h⟩) (some (.lst (ns.map D.int)) :: List.replicate 16 none) [] ⟨_, _, _, _, _, _, _, _, _, _, _, _, _, _, _, _, rfl⟩
  have e1 : mlaw (some (.lst (ns.map D.int)) :: List.replicate 16 none) [] = .ret (.bl true) S' := by
    rw [mlaw_eq, seq_nx ((for_ok' e0).trans e)]
    rfl
  refine ⟨S'.take 0, ?_⟩
  unfold flaw mDef dScript
  simp only [List.map_cons, List.map_nil, List.length_cons, List.length_nil]
  show (match mlaw (some (.lst (ns.map D.int)) :: List.replicate 16 none) [] with | .nx _ S' => finD 0 .non S' | .ret d S' => finD 0 d S' | .exc k vs _ S' => finX 0 k vs S' | _ => .bad) = _
  rw [e1]
  simp only [finD]
  by_cases h : S'.length = 0
  · rw [if_pos h]
    have : S' = [] := List.eq_nil_of_length_eq_zero h
    rw [this]
    rfl
  · rw [if_neg h, if_pos (Nat.zero_le _)]
    rfl
end K22

end
section
/-! printed by gen.py: what the head tells. -/
namespace K22
open PySem PySem.Spec PyProof.Rows L2 DL
def met (s : Stmt) (j : Nat) : Stmt := match s with
  | .ClassDef _ _ _ b _ _ _ _ _ _ _ => b.getD j (.Pass ⟨0, 0, 0, 0⟩)
  | _ => .Pass ⟨0, 0, 0, 0⟩
def dI0 : He.DefD := ⟨("BadName", some "__init__"), "__init__", "BadName.__init__", defArgs (met (top 1) 0), defBody (met (top 1) 0), defScope (met (top 1) 0), [], []⟩
def dI1 : He.DefD := ⟨("BadNote", some "__init__"), "__init__", "BadNote.__init__", defArgs (met (top 2) 0), defBody (met (top 2) 0), defScope (met (top 2) 0), [], []⟩
def dI2 : He.DefD := ⟨("BadMove", some "__init__"), "__init__", "BadMove.__init__", defArgs (met (top 3) 0), defBody (met (top 3) 0), defScope (met (top 3) 0), [], []⟩
def dI3 : He.DefD := ⟨("BadDeed", some "__init__"), "__init__", "BadDeed.__init__", defArgs (met (top 4) 0), defBody (met (top 4) 0), defScope (met (top 4) 0), [], []⟩
def dI4 : He.DefD := ⟨("BadKeep", some "__init__"), "__init__", "BadKeep.__init__", defArgs (met (top 5) 0), defBody (met (top 5) 0), defScope (met (top 5) 0), [], []⟩
def dI5 : He.DefD := ⟨("BadStep", some "__init__"), "__init__", "BadStep.__init__", defArgs (met (top 6) 0), defBody (met (top 6) 0), defScope (met (top 6) 0), [], []⟩
def dI6 : He.DefD := ⟨("BadValues", some "__init__"), "__init__", "BadValues.__init__", defArgs (met (top 7) 0), defBody (met (top 7) 0), defScope (met (top 7) 0), [], []⟩
def dI7 : He.DefD := ⟨("BadValue", some "__init__"), "__init__", "BadValue.__init__", defArgs (met (top 8) 0), defBody (met (top 8) 0), defScope (met (top 8) 0), [], []⟩
def dI8 : He.DefD := ⟨("BadMoment", some "__init__"), "__init__", "BadMoment.__init__", defArgs (met (top 9) 0), defBody (met (top 9) 0), defScope (met (top 9) 0), [], []⟩
def dI9 : He.DefD := ⟨("BadRow", some "__init__"), "__init__", "BadRow.__init__", defArgs (met (top 10) 0), defBody (met (top 10) 0), defScope (met (top 10) 0), [], []⟩
def dI10 : He.DefD := ⟨("BadEntry", some "__init__"), "__init__", "BadEntry.__init__", defArgs (met (top 11) 0), defBody (met (top 11) 0), defScope (met (top 11) 0), [], []⟩
def dI11 : He.DefD := ⟨("BadTarget", some "__init__"), "__init__", "BadTarget.__init__", defArgs (met (top 12) 0), defBody (met (top 12) 0), defScope (met (top 12) 0), [], []⟩
def dI12 : He.DefD := ⟨("BadBack", some "__init__"), "__init__", "BadBack.__init__", defArgs (met (top 13) 0), defBody (met (top 13) 0), defScope (met (top 13) 0), [], []⟩
def dI13 : He.DefD := ⟨("BadSide", some "__init__"), "__init__", "BadSide.__init__", defArgs (met (top 14) 0), defBody (met (top 14) 0), defScope (met (top 14) 0), [], []⟩
def dI14 : He.DefD := ⟨("BadPrice", some "__init__"), "__init__", "BadPrice.__init__", defArgs (met (top 15) 0), defBody (met (top 15) 0), defScope (met (top 15) 0), [], []⟩
def dI15 : He.DefD := ⟨("BadText", some "__init__"), "__init__", "BadText.__init__", defArgs (met (top 16) 0), defBody (met (top 16) 0), defScope (met (top 16) 0), [], []⟩
def dI16 : He.DefD := ⟨("Twice", some "__init__"), "__init__", "Twice.__init__", defArgs (met (top 17) 0), defBody (met (top 17) 0), defScope (met (top 17) 0), [], []⟩
def dI17 : He.DefD := ⟨("NotWritten", some "__init__"), "__init__", "NotWritten.__init__", defArgs (met (top 18) 0), defBody (met (top 18) 0), defScope (met (top 18) 0), [], []⟩
def dI19 : He.DefD := ⟨("NoDeed", some "__init__"), "__init__", "NoDeed.__init__", defArgs (met (top 20) 0), defBody (met (top 20) 0), defScope (met (top 20) 0), [], []⟩
def dI20 : He.DefD := ⟨("NoColumn", some "__init__"), "__init__", "NoColumn.__init__", defArgs (met (top 21) 0), defBody (met (top 21) 0), defScope (met (top 21) 0), [], []⟩
def dI21 : He.DefD := ⟨("NoMoment", some "__init__"), "__init__", "NoMoment.__init__", defArgs (met (top 22) 0), defBody (met (top 22) 0), defScope (met (top 22) 0), [], []⟩
def dI22 : He.DefD := ⟨("NoSituation", some "__init__"), "__init__", "NoSituation.__init__", defArgs (met (top 23) 0), defBody (met (top 23) 0), defScope (met (top 23) 0), [], []⟩
def dI24 : He.DefD := ⟨("NotAllowed", some "__init__"), "__init__", "NotAllowed.__init__", defArgs (met (top 25) 0), defBody (met (top 25) 0), defScope (met (top 25) 0), [], []⟩
def dI26 : He.DefD := ⟨("Unsure", some "__init__"), "__init__", "Unsure.__init__", defArgs (met (top 27) 0), defBody (met (top 27) 0), defScope (met (top 27) 0), [], []⟩
def dI27 : He.DefD := ⟨("TooMany", some "__init__"), "__init__", "TooMany.__init__", defArgs (met (top 28) 0), defBody (met (top 28) 0), defScope (met (top 28) 0), [], []⟩
def dF_law_bag : He.DefD := ⟨("_law_bag", none), "_law_bag", "_law_bag", defArgs (top 30), defBody (top 30), defScope (top 30), [], []⟩
def dF_law_take : He.DefD := ⟨("_law_take", none), "_law_take", "_law_take", defArgs (top 31), defBody (top 31), defScope (top 31), [], []⟩
def dF_law_of : He.DefD := ⟨("_law_of", none), "_law_of", "_law_of", defArgs (top 32), defBody (top 32), defScope (top 32), [], []⟩
def dF_law_thing : He.DefD := ⟨("_law_thing", none), "_law_thing", "_law_thing", defArgs (top 33), defBody (top 33), defScope (top 33), [], []⟩
def dF_law_values : He.DefD := ⟨("_law_values", none), "_law_values", "_law_values", defArgs (top 34), defBody (top 34), defScope (top 34), [], []⟩
def dF_law_kinds : He.DefD := ⟨("_law_kinds", none), "_law_kinds", "_law_kinds", defArgs (top 35), defBody (top 35), defScope (top 35), [], []⟩
def dF_law_under : He.DefD := ⟨("_law_under", none), "_law_under", "_law_under", defArgs (top 36), defBody (top 36), defScope (top 36), [], []⟩
def dFlaw : He.DefD := ⟨("law", none), "law", "law", defArgs (top 37), defBody (top 37), defScope (top 37), [], []⟩
def fn : List He.DefD := ([dI0, dI1, dI2, dI3, dI4, dI5, dI6, dI7, dI8, dI9, dI10, dI11] : List He.DefD) ++ ([dI12, dI13, dI14, dI15, dI16, dI17, dI19, dI20, dI21, dI22, dI24, dI26] : List He.DefD) ++ ([dI27, dF_law_bag, dF_law_take, dF_law_of, dF_law_thing, dF_law_values, dF_law_kinds, dF_law_under, dFlaw] : List He.DefD)
def frs : List Str := (["LookupError", "OverflowError", "RuntimeError", "ValueError", "abs", "enumerate", "int", "isinstance", "len", "max", "min", "range"] : List Str) ++ (["repr"] : List Str)
def fa : List He.Fa := glos.map He.Fa.glo ++ frs.map He.Fa.free
def ex1 (K : PySem.W.Frag) (k : Nat) : Bool := errAB K (He.ga K (CN k)) && (match FL k with
  | [] => PySem.W.excIn K (He.ga K (CN k)) (bmOf (bases.getD k 9)) (nidOf (bases.getD k 9)) && PySem.W.keepIn K (.ref (He.ga K (CN k)))
  | f :: fs => errMB K (He.ga K (CN k)) (bmOf (bases.getD k 9)) (nidOf (bases.getD k 9)) (f :: fs))
def ex2 (K : PySem.W.Frag) : Bool := (List.range 28).all fun k => (List.range 28).all fun j => decide (PySem.W.kitOne K (.ref (He.ga K (CN k))) (.ref (He.ga K (CN j))) = some (k == j))
def ex3 (K : PySem.W.Frag) : Bool := (List.range 28).all fun k => (List.range 4).all fun j => decide (PySem.W.kitOne K (.ref (He.ga K (CN k))) (.type (bnOf j)) = some (bases.getD k 9 == j))
def ex (K : PySem.W.Frag) : Bool := sysB K && ((List.range 28).all (ex1 K) && (ex2 K && ex3 K))
abbrev R : PySem.W.OpenRow := PySem.W.OpenLaw.row PySem.Challenge.rw_pastnotes_k22_errors_made
abbrev hk : PySem.W.Hook := zHook 5 fa fn ex
def ob (s : PySem.W.SharedT) : He.AlD × Bool := zObs 5 fa fn ex (HandSHeadRun.getT s)
theorem ob_eq (s : PySem.W.SharedT) : ob s = hk.obs s.abs := zObs_eq (HandSHeadRun.getT_eq s)
def loose : List Str := (["BadName", "BadNote", "BadMove", "BadDeed", "BadKeep", "BadStep", "BadValues", "BadValue", "BadMoment", "BadRow", "BadEntry", "BadTarget"] : List Str) ++ (["BadBack", "BadSide", "BadPrice", "BadText", "Twice", "NotWritten", "OtherDeeds", "NoDeed", "NoColumn", "NoMoment", "NoSituation", "NoHistory"] : List Str) ++ (["NotAllowed", "InCall", "Unsure", "TooMany", "_law_bag", "_law_take", "_law_of", "_law_thing", "_law_values", "_law_kinds", "_law_under"] : List Str)
theorem run (w : World) : HandSHeadRun.RunEq R (PySem.W.view R.prog [37]) hk ob 7000 loose w := by
  intro os
  kernel_rfl
section
variable {P : Program} {w : World} {K : PySem.W.Frag} {mg : Str → Option Value} {base h : Heap}
theorem CN_mem {k : Nat} (h : k < 28) : CN k ∈ CNs := by
  have hl : CNs.length = 28 := rfl
  unfold CN
  rw [List.getD_eq_getElem?_getD, List.getElem?_eq_getElem (by omega)]
  exact List.getElem_mem _
theorem known (X : K.In h) (G : h.Ns mainGlobals mg) (c : He.SaysD fa fn K) (e : ex K = true) : Kn P w K mg base := by
  have gl : ∀ x, x ∈ glos → mg x = some (.ref (He.ga K x)) := fun x hx => He.glo_ok X G (c.facts (List.mem_append_left _ (List.mem_map_of_mem hx)))
  have fr : ∀ x, x ∈ frs → mg x = none := fun x hx => He.free_ok X G (c.facts (List.mem_append_right _ (List.mem_map_of_mem hx)))
  obtain ⟨e1, e⟩ := band e
  obtain ⟨e2, e⟩ := band e
  obtain ⟨e3, e4⟩ := band e
  have ek : ∀ k, k < 28 → ex1 K k = true := fun k hk => List.all_eq_true.mp e2 k (List.mem_range.mpr hk)
  have ea : ∀ k, k < 28 → ErrA K (He.ga K (CN k)) := fun k hk => errAB_ok (band (ek k hk)).1
  have em : ∀ k, k < 28 → FL k ≠ [] → ErrK K (He.ga K (CN k)) (FL k) := fun k hk hf => by
    have z := (band (ek k hk)).2
    obtain ⟨iid, FB, SF⟩ := base_facts (bases.getD k 9)
    cases q : FL k with
    | nil => exact absurd q hf
    | cons f fs =>
      rw [q] at z
      exact errMB_ok FB SF (ea k hk) z
  have e0 : ∀ k, k < 28 → FL k = [] → (PySem.W.excIn K (He.ga K (CN k)) (bmOf (bases.getD k 9)) (nidOf (bases.getD k 9)) && PySem.W.keepIn K (.ref (He.ga K (CN k)))) = true := fun k hk hf => by
    have z := (band (ek k hk)).2
    rw [hf] at z
    exact z
  have lt : ∀ {k : Nat} {f : Str}, f ∈ FL k → k < 28 := fun {k f} hf => by
    by_cases hk : k < 28
    · exact hk
    · have : FL k = [] := by
        match k, hk with
        | 0, hk => exact absurd (by decide) hk
        | 1, hk => exact absurd (by decide) hk
        | 2, hk => exact absurd (by decide) hk
        | 3, hk => exact absurd (by decide) hk
        | 4, hk => exact absurd (by decide) hk
        | 5, hk => exact absurd (by decide) hk
        | 6, hk => exact absurd (by decide) hk
        | 7, hk => exact absurd (by decide) hk
        | 8, hk => exact absurd (by decide) hk
        | 9, hk => exact absurd (by decide) hk
        | 10, hk => exact absurd (by decide) hk
        | 11, hk => exact absurd (by decide) hk
        | 12, hk => exact absurd (by decide) hk
        | 13, hk => exact absurd (by decide) hk
        | 14, hk => exact absurd (by decide) hk
        | 15, hk => exact absurd (by decide) hk
        | 16, hk => exact absurd (by decide) hk
        | 17, hk => exact absurd (by decide) hk
        | 18, hk => exact absurd (by decide) hk
        | 19, hk => exact absurd (by decide) hk
        | 20, hk => exact absurd (by decide) hk
        | 21, hk => exact absurd (by decide) hk
        | 22, hk => exact absurd (by decide) hk
        | 23, hk => exact absurd (by decide) hk
        | 24, hk => exact absurd (by decide) hk
        | 25, hk => exact absurd (by decide) hk
        | 26, hk => exact absurd (by decide) hk
        | 27, hk => exact absurd (by decide) hk
        | n + 28, _ => rfl
      rw [this] at hf
      cases hf
  have nd : ∀ k, k < 28 → (FL k).Nodup := fun k hk => of_decide_eq_true (List.all_eq_true.mp (show ((List.range 28).all fun k => decide (FL k).Nodup) = true by decide +kernel) k (List.mem_range.mpr hk))
  refine {
    gl := gl
    free_LookupError := fr "LookupError" (by decide +kernel)
    free_OverflowError := fr "OverflowError" (by decide +kernel)
    free_RuntimeError := fr "RuntimeError" (by decide +kernel)
    free_ValueError := fr "ValueError" (by decide +kernel)
    free_abs := fr "abs" (by decide +kernel)
    free_enumerate := fr "enumerate" (by decide +kernel)
    free_int := fr "int" (by decide +kernel)
    free_isinstance := fr "isinstance" (by decide +kernel)
    free_len := fr "len" (by decide +kernel)
    free_max := fr "max" (by decide +kernel)
    free_min := fr "min" (by decide +kernel)
    free_range := fr "range" (by decide +kernel)
    free_repr := fr "repr" (by decide +kernel)
    sy := sysB_ok e1
    ea := ea
    rc := ⟨fun k f _ hf => ea k (lt hf), fun k f _ hf => (em k (lt hf) (fun z => by have hf2 : f ∈ FL k := hf; rw [z] at hf2; cases hf2)).no f hf⟩
    kc := fun k hk => by
      by_cases hf : FL k = []
      · exact (band (e0 k hk hf)).2
      · exact (em k hk hf).kC
    e0 := fun k hk hf => (band (e0 k hk hf)).1
    so := fun j hj t b ht => by
      cases t with
      | b n => cases ht
      | c k =>
        by_cases hk : k < 28
        · rw [subO, if_pos hk] at ht
          cases ht
          exact ⟨ea k hk, of_decide_eq_true (List.all_eq_true.mp (List.all_eq_true.mp e3 k (List.mem_range.mpr hk)) j (List.mem_range.mpr hj))⟩
        · rw [subO, if_neg hk] at ht
          cases ht
    sb := fun j hj t b ht => by
      cases t with
      | b n => cases ht
      | c k =>
        by_cases hk : k < 28
        · rw [subB, if_pos hk] at ht
          cases ht
          exact ⟨ea k hk, of_decide_eq_true (List.all_eq_true.mp (List.all_eq_true.mp e4 k (List.mem_range.mpr hk)) j (List.mem_range.mpr hj))⟩
        · rw [subB, if_neg hk] at ht
          cases ht
    mk0 := by
      obtain ⟨fd, F⟩ := c.defs (d := dI0) (by simp [fn])
      have T := (em 0 (by decide) (by decide)).f (c := cc K) (k := 0) (nd 0 (by decide))
      exact ⟨T, (em 0 (by decide) (by decide)).kC, _, fd, _, (em 0 (by decide) (by decide)).ini, (em 0 (by decide) (by decide)).ty, ini1 (c := cc K) (k := 0) rfl F (by decide +kernel) T rfl (by decide +kernel), F.bindsN (fun _ _ _ _ _ _ us hl => match us, hl with | [_, _], _ => rfl)⟩
    mk1 := by
      obtain ⟨fd, F⟩ := c.defs (d := dI1) (by simp [fn])
      have T := (em 1 (by decide) (by decide)).f (c := cc K) (k := 1) (nd 1 (by decide))
      exact ⟨T, (em 1 (by decide) (by decide)).kC, _, fd, _, (em 1 (by decide) (by decide)).ini, (em 1 (by decide) (by decide)).ty, ini1 (c := cc K) (k := 1) rfl F (by decide +kernel) T rfl (by decide +kernel), F.bindsN (fun _ _ _ _ _ _ us hl => match us, hl with | [_, _], _ => rfl)⟩
    mk2 := by
      obtain ⟨fd, F⟩ := c.defs (d := dI2) (by simp [fn])
      have T := (em 2 (by decide) (by decide)).f (c := cc K) (k := 2) (nd 2 (by decide))
      exact ⟨T, (em 2 (by decide) (by decide)).kC, _, fd, _, (em 2 (by decide) (by decide)).ini, (em 2 (by decide) (by decide)).ty, ini1 (c := cc K) (k := 2) rfl F (by decide +kernel) T rfl (by decide +kernel), F.bindsN (fun _ _ _ _ _ _ us hl => match us, hl with | [_, _], _ => rfl)⟩
    mk3 := by
      obtain ⟨fd, F⟩ := c.defs (d := dI3) (by simp [fn])
      have T := (em 3 (by decide) (by decide)).f (c := cc K) (k := 3) (nd 3 (by decide))
      exact ⟨T, (em 3 (by decide) (by decide)).kC, _, fd, _, (em 3 (by decide) (by decide)).ini, (em 3 (by decide) (by decide)).ty, ini1 (c := cc K) (k := 3) rfl F (by decide +kernel) T rfl (by decide +kernel), F.bindsN (fun _ _ _ _ _ _ us hl => match us, hl with | [_, _], _ => rfl)⟩
    mk4 := by
      obtain ⟨fd, F⟩ := c.defs (d := dI4) (by simp [fn])
      have T := (em 4 (by decide) (by decide)).f (c := cc K) (k := 4) (nd 4 (by decide))
      exact ⟨T, (em 4 (by decide) (by decide)).kC, _, fd, _, (em 4 (by decide) (by decide)).ini, (em 4 (by decide) (by decide)).ty, ini1 (c := cc K) (k := 4) rfl F (by decide +kernel) T rfl (by decide +kernel), F.bindsN (fun _ _ _ _ _ _ us hl => match us, hl with | [_, _], _ => rfl)⟩
    mk5 := by
      obtain ⟨fd, F⟩ := c.defs (d := dI5) (by simp [fn])
      have T := (em 5 (by decide) (by decide)).f (c := cc K) (k := 5) (nd 5 (by decide))
      exact ⟨T, (em 5 (by decide) (by decide)).kC, _, fd, _, (em 5 (by decide) (by decide)).ini, (em 5 (by decide) (by decide)).ty, ini1 (c := cc K) (k := 5) rfl F (by decide +kernel) T rfl (by decide +kernel), F.bindsN (fun _ _ _ _ _ _ us hl => match us, hl with | [_, _], _ => rfl)⟩
    mk6 := by
      obtain ⟨fd, F⟩ := c.defs (d := dI6) (by simp [fn])
      have T := (em 6 (by decide) (by decide)).f (c := cc K) (k := 6) (nd 6 (by decide))
      exact ⟨T, (em 6 (by decide) (by decide)).kC, _, fd, _, (em 6 (by decide) (by decide)).ini, (em 6 (by decide) (by decide)).ty, ini1 (c := cc K) (k := 6) rfl F (by decide +kernel) T rfl (by decide +kernel), F.bindsN (fun _ _ _ _ _ _ us hl => match us, hl with | [_, _], _ => rfl)⟩
    mk7 := by
      obtain ⟨fd, F⟩ := c.defs (d := dI7) (by simp [fn])
      have T := (em 7 (by decide) (by decide)).f (c := cc K) (k := 7) (nd 7 (by decide))
      exact ⟨T, (em 7 (by decide) (by decide)).kC, _, fd, _, (em 7 (by decide) (by decide)).ini, (em 7 (by decide) (by decide)).ty, ini1 (c := cc K) (k := 7) rfl F (by decide +kernel) T rfl (by decide +kernel), F.bindsN (fun _ _ _ _ _ _ us hl => match us, hl with | [_, _], _ => rfl)⟩
    mk8 := by
      obtain ⟨fd, F⟩ := c.defs (d := dI8) (by simp [fn])
      have T := (em 8 (by decide) (by decide)).f (c := cc K) (k := 8) (nd 8 (by decide))
      exact ⟨T, (em 8 (by decide) (by decide)).kC, _, fd, _, (em 8 (by decide) (by decide)).ini, (em 8 (by decide) (by decide)).ty, ini1 (c := cc K) (k := 8) rfl F (by decide +kernel) T rfl (by decide +kernel), F.bindsN (fun _ _ _ _ _ _ us hl => match us, hl with | [_, _], _ => rfl)⟩
    mk9 := by
      obtain ⟨fd, F⟩ := c.defs (d := dI9) (by simp [fn])
      have T := (em 9 (by decide) (by decide)).f (c := cc K) (k := 9) (nd 9 (by decide))
      exact ⟨T, (em 9 (by decide) (by decide)).kC, _, fd, _, (em 9 (by decide) (by decide)).ini, (em 9 (by decide) (by decide)).ty, ini1 (c := cc K) (k := 9) rfl F (by decide +kernel) T rfl (by decide +kernel), F.bindsN (fun _ _ _ _ _ _ us hl => match us, hl with | [_, _], _ => rfl)⟩
    mk10 := by
      obtain ⟨fd, F⟩ := c.defs (d := dI10) (by simp [fn])
      have T := (em 10 (by decide) (by decide)).f (c := cc K) (k := 10) (nd 10 (by decide))
      exact ⟨T, (em 10 (by decide) (by decide)).kC, _, fd, _, (em 10 (by decide) (by decide)).ini, (em 10 (by decide) (by decide)).ty, ini1 (c := cc K) (k := 10) rfl F (by decide +kernel) T rfl (by decide +kernel), F.bindsN (fun _ _ _ _ _ _ us hl => match us, hl with | [_, _], _ => rfl)⟩
    mk11 := by
      obtain ⟨fd, F⟩ := c.defs (d := dI11) (by simp [fn])
      have T := (em 11 (by decide) (by decide)).f (c := cc K) (k := 11) (nd 11 (by decide))
      exact ⟨T, (em 11 (by decide) (by decide)).kC, _, fd, _, (em 11 (by decide) (by decide)).ini, (em 11 (by decide) (by decide)).ty, ini1 (c := cc K) (k := 11) rfl F (by decide +kernel) T rfl (by decide +kernel), F.bindsN (fun _ _ _ _ _ _ us hl => match us, hl with | [_, _], _ => rfl)⟩
    mk12 := by
      obtain ⟨fd, F⟩ := c.defs (d := dI12) (by simp [fn])
      have T := (em 12 (by decide) (by decide)).f (c := cc K) (k := 12) (nd 12 (by decide))
      exact ⟨T, (em 12 (by decide) (by decide)).kC, _, fd, _, (em 12 (by decide) (by decide)).ini, (em 12 (by decide) (by decide)).ty, ini1 (c := cc K) (k := 12) rfl F (by decide +kernel) T rfl (by decide +kernel), F.bindsN (fun _ _ _ _ _ _ us hl => match us, hl with | [_, _], _ => rfl)⟩
    mk13 := by
      obtain ⟨fd, F⟩ := c.defs (d := dI13) (by simp [fn])
      have T := (em 13 (by decide) (by decide)).f (c := cc K) (k := 13) (nd 13 (by decide))
      exact ⟨T, (em 13 (by decide) (by decide)).kC, _, fd, _, (em 13 (by decide) (by decide)).ini, (em 13 (by decide) (by decide)).ty, ini1 (c := cc K) (k := 13) rfl F (by decide +kernel) T rfl (by decide +kernel), F.bindsN (fun _ _ _ _ _ _ us hl => match us, hl with | [_, _], _ => rfl)⟩
    mk14 := by
      obtain ⟨fd, F⟩ := c.defs (d := dI14) (by simp [fn])
      have T := (em 14 (by decide) (by decide)).f (c := cc K) (k := 14) (nd 14 (by decide))
      exact ⟨T, (em 14 (by decide) (by decide)).kC, _, fd, _, (em 14 (by decide) (by decide)).ini, (em 14 (by decide) (by decide)).ty, ini1 (c := cc K) (k := 14) rfl F (by decide +kernel) T rfl (by decide +kernel), F.bindsN (fun _ _ _ _ _ _ us hl => match us, hl with | [_, _], _ => rfl)⟩
    mk15 := by
      obtain ⟨fd, F⟩ := c.defs (d := dI15) (by simp [fn])
      have T := (em 15 (by decide) (by decide)).f (c := cc K) (k := 15) (nd 15 (by decide))
      exact ⟨T, (em 15 (by decide) (by decide)).kC, _, fd, _, (em 15 (by decide) (by decide)).ini, (em 15 (by decide) (by decide)).ty, ini1 (c := cc K) (k := 15) rfl F (by decide +kernel) T rfl (by decide +kernel), F.bindsN (fun _ _ _ _ _ _ us hl => match us, hl with | [_, _], _ => rfl)⟩
    mk16 := by
      obtain ⟨fd, F⟩ := c.defs (d := dI16) (by simp [fn])
      have T := (em 16 (by decide) (by decide)).f (c := cc K) (k := 16) (nd 16 (by decide))
      exact ⟨T, (em 16 (by decide) (by decide)).kC, _, fd, _, (em 16 (by decide) (by decide)).ini, (em 16 (by decide) (by decide)).ty, ini1 (c := cc K) (k := 16) rfl F (by decide +kernel) T rfl (by decide +kernel), F.bindsN (fun _ _ _ _ _ _ us hl => match us, hl with | [_, _], _ => rfl)⟩
    mk17 := by
      obtain ⟨fd, F⟩ := c.defs (d := dI17) (by simp [fn])
      have T := (em 17 (by decide) (by decide)).f (c := cc K) (k := 17) (nd 17 (by decide))
      exact ⟨T, (em 17 (by decide) (by decide)).kC, _, fd, _, (em 17 (by decide) (by decide)).ini, (em 17 (by decide) (by decide)).ty, ini2 (c := cc K) (k := 17) rfl F (by decide +kernel) T rfl (by decide +kernel), F.bindsN (fun _ _ _ _ _ _ us hl => match us, hl with | [_, _, _], _ => rfl)⟩
    mk19 := by
      obtain ⟨fd, F⟩ := c.defs (d := dI19) (by simp [fn])
      have T := (em 19 (by decide) (by decide)).f (c := cc K) (k := 19) (nd 19 (by decide))
      exact ⟨T, (em 19 (by decide) (by decide)).kC, _, fd, _, (em 19 (by decide) (by decide)).ini, (em 19 (by decide) (by decide)).ty, ini1 (c := cc K) (k := 19) rfl F (by decide +kernel) T rfl (by decide +kernel), F.bindsN (fun _ _ _ _ _ _ us hl => match us, hl with | [_, _], _ => rfl)⟩
    mk20 := by
      obtain ⟨fd, F⟩ := c.defs (d := dI20) (by simp [fn])
      have T := (em 20 (by decide) (by decide)).f (c := cc K) (k := 20) (nd 20 (by decide))
      exact ⟨T, (em 20 (by decide) (by decide)).kC, _, fd, _, (em 20 (by decide) (by decide)).ini, (em 20 (by decide) (by decide)).ty, ini1 (c := cc K) (k := 20) rfl F (by decide +kernel) T rfl (by decide +kernel), F.bindsN (fun _ _ _ _ _ _ us hl => match us, hl with | [_, _], _ => rfl)⟩
    mk21 := by
      obtain ⟨fd, F⟩ := c.defs (d := dI21) (by simp [fn])
      have T := (em 21 (by decide) (by decide)).f (c := cc K) (k := 21) (nd 21 (by decide))
      exact ⟨T, (em 21 (by decide) (by decide)).kC, _, fd, _, (em 21 (by decide) (by decide)).ini, (em 21 (by decide) (by decide)).ty, ini1 (c := cc K) (k := 21) rfl F (by decide +kernel) T rfl (by decide +kernel), F.bindsN (fun _ _ _ _ _ _ us hl => match us, hl with | [_, _], _ => rfl)⟩
    mk22 := by
      obtain ⟨fd, F⟩ := c.defs (d := dI22) (by simp [fn])
      have T := (em 22 (by decide) (by decide)).f (c := cc K) (k := 22) (nd 22 (by decide))
      exact ⟨T, (em 22 (by decide) (by decide)).kC, _, fd, _, (em 22 (by decide) (by decide)).ini, (em 22 (by decide) (by decide)).ty, ini1 (c := cc K) (k := 22) rfl F (by decide +kernel) T rfl (by decide +kernel), F.bindsN (fun _ _ _ _ _ _ us hl => match us, hl with | [_, _], _ => rfl)⟩
    mk24 := by
      obtain ⟨fd, F⟩ := c.defs (d := dI24) (by simp [fn])
      have T := (em 24 (by decide) (by decide)).f (c := cc K) (k := 24) (nd 24 (by decide))
      exact ⟨T, (em 24 (by decide) (by decide)).kC, _, fd, _, (em 24 (by decide) (by decide)).ini, (em 24 (by decide) (by decide)).ty, ini2 (c := cc K) (k := 24) rfl F (by decide +kernel) T rfl (by decide +kernel), F.bindsN (fun _ _ _ _ _ _ us hl => match us, hl with | [_, _, _], _ => rfl)⟩
    mk26 := by
      obtain ⟨fd, F⟩ := c.defs (d := dI26) (by simp [fn])
      have T := (em 26 (by decide) (by decide)).f (c := cc K) (k := 26) (nd 26 (by decide))
      exact ⟨T, (em 26 (by decide) (by decide)).kC, _, fd, _, (em 26 (by decide) (by decide)).ini, (em 26 (by decide) (by decide)).ty, ini3 (c := cc K) (k := 26) rfl F (by decide +kernel) T rfl (by decide +kernel), F.bindsN (fun _ _ _ _ _ _ us hl => match us, hl with | [_, _, _, _], _ => rfl)⟩
    mk27 := by
      obtain ⟨fd, F⟩ := c.defs (d := dI27) (by simp [fn])
      have T := (em 27 (by decide) (by decide)).f (c := cc K) (k := 27) (nd 27 (by decide))
      exact ⟨T, (em 27 (by decide) (by decide)).kC, _, fd, _, (em 27 (by decide) (by decide)).ini, (em 27 (by decide) (by decide)).ty, ini1 (c := cc K) (k := 27) rfl F (by decide +kernel) T rfl (by decide +kernel), F.bindsN (fun _ _ _ _ _ _ us hl => match us, hl with | [_, _], _ => rfl)⟩
    fn_law_bag := c.defs (d := dF_law_bag) (by simp [fn])
    fn_law_take := c.defs (d := dF_law_take) (by simp [fn])
    fn_law_of := c.defs (d := dF_law_of) (by simp [fn])
    fn_law_thing := c.defs (d := dF_law_thing) (by simp [fn])
    fn_law_values := c.defs (d := dF_law_values) (by simp [fn])
    fn_law_kinds := c.defs (d := dF_law_kinds) (by simp [fn])
    fn_law_under := c.defs (d := dF_law_under) (by simp [fn])
    fnlaw := c.defs (d := dFlaw) (by simp [fn])
  }
end
end K22

end
section
open PySem PySem.W PySem.Calls PyProof.Rows
theorem PySem.Challenge.cw_pastnotes_k22_errors_made_holds : PySem.Challenge.rw_pastnotes_k22_errors_made.Holds := by
  w_on; o_law
  refine HandSHeadRun.head_any (r := OpenLaw.row PySem.Challenge.rw_pastnotes_k22_errors_made) (q := view (OpenLaw.row PySem.Challenge.rw_pastnotes_k22_errors_made).prog [37]) (H := K22.hk) (ob := K22.ob) (M := 7000) (loose := K22.loose) (d := HandSHeadRun.topDef (OpenLaw.row PySem.Challenge.rw_pastnotes_k22_errors_made).prog 37) (kwd := []) K22.ob_eq
    (by kernel_rfl) (fun s => by kernel_rfl) K22.run (by kernel_rfl) (by kernel_rfl) (by kernel_rfl) (by rfl) (by first | assumption | decide +kernel) (by decide +kernel) ⟨rfl, rfl, rfl, rfl, rfl, by decide +kernel⟩ ?hw ?hc
  case hw => w_witness2
  case hc =>
    refine DL.walk_G (l := PySem.Challenge.rw_pastnotes_k22_errors_made) (n := 63) (k := 4) (x := "_law_script") rfl (by decide) (by kernel_rfl) ⟨rfl, by decide, by decide⟩ ?F
    intro w mg fa h Y G hmg0
    obtain ⟨K, KX, c, ex⟩ := Y
    have hmg : mg ("law" : PySem.Str) = some (.ref fa) := by
      have e : (HandSHeadRun.topDef (OpenLaw.row PySem.Challenge.rw_pastnotes_k22_errors_made).prog 37).name = ("law" : PySem.Str) := by kernel_rfl
      rw [← e]
      exact hmg0
    have kn : ∀ base : Heap, K22.Kn (PySem.Challenge.rw_pastnotes_k22_errors_made).prog w K mg base := fun base => K22.known KX G c ex
    obtain ⟨fd, F⟩ := (kn h).fnlaw
    have ea : fa = He.ga K "law" := by
      have z := hmg.symm.trans ((kn h).gl "law" (by decide +kernel))
      cases z
      rfl
    subst ea
    have hb := L2.FunD.bindsA (ps := ["_law_script"]) F fun _ _ _ _ _ _ us hl => match us, hl with | [_], _ => rfl
    exact ⟨K, fd, _, KX, fun s v => hb s [v] rfl, fun H a ns _ hS => DL.script_ok (c := K22.cc K) (f := K22.flaw) rfl hS (K22.law_true ns), fun base _ _ => K22.wlaw (kn base) F⟩

end
