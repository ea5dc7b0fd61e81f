import PyProof.Rows.All
import Wide.All
import OpenK.AllK
import Wide.FinOn
import PyProof.EqAt
import PyProof.EqKinds
import PyProof.TupleCall
import HandS.ForMost
import HandS.ForExc
import HandS.ExcInit
import HandS.Wide
import HandS.IsInst
import HandS.TupAny
import HandS.RaiseMore
import HandS.Flow
import HandS.Iter
import HandS.Comp
import HandS.Defaults
import HandS.WordsExc
import KE.KExcInit
import KE.KExcIs
import KE.KIsAll
import PyProof.Rows.NestShow
import HandS.Head0
import HandS.Head1
import HandS.Head2
import HandS.HeadHook1
import HandS.HeadHook2
import HandS.HeadEnd
import HandS.HeadHook4
import HandS.Codes
import PyProof.ExcBaseAll.OverflowError
import PyProof.ExcBaseAll.LookupError
import PyProof.ExcBaseAll.RuntimeError
import PyProof.ExcBaseAll.ValueError
import OpenK.KMeth
import HandS.Text
import HandS.MakeKwOnly
import HandS.More
import HandS.Dict
import KE.KEqDict
import HandS.Star
import HandS.Deep
import HandS.Style
import HandS.ClsMeth
import KE.GoesMore
import HandS.HeadNt
import PyProof.NeKinds
import HandS.TryOnly
import KE.KSuperObj
import HandS.Property
import KE.KSuper
import KE.SortData
import PySem.Challenge.RW_pastnotes_k07_deeds_refused
set_option Elab.async false
set_option linter.all false
set_option maxRecDepth 100000
set_option maxHeartbeats 0
section
/-! DL, part a: data, the store of cells, what represents what, the mirrored readings. -/
namespace DL
open PySem PySem.Spec PyProof.Rows L2

/-- data: trees; loc n: the cell n of the store; glb: a thing of the module; cls k: the class of this number -/
inductive D where
  | non | bl (b : Bool) | int (i : Int) | str (s : Str)
  | lst (xs : List D) | tup (xs : List D) | dic (ks : List Key) (vs : List D)
  | ins (k : Nat) (vs : List D) | exv (k : Nat) (vs : List D)
  | loc (n : Nat) | glb (v : V) | cls (k : Nat)
  deriving Inhabited

/-- what a cell holds -/
inductive O where
  | lst (xs : List D) | dic (ks : List Key) (vs : List D) | dct (ks : List (List Key)) (vs : List D) | ins (k : Nat) (vs : List D) | dead
  deriving Inhabited
abbrev Sto := List O
inductive R (α : Type) where
  | ok (a : α) (S : Sto) | exc (k : Nat) (vs : List D) (S : Sto) | bad
abbrev Sl := List (Option D)
abbrev ME := Sl → Sto → R D
abbrev MT := Sl → Sto → R Bool
abbrev MA := Sl → Sto → R (List D)
abbrev MF := List D → Sto → R D
inductive F where
  | nx (δ : Sl) (S : Sto) | ret (d : D) (S : Sto) | brk (δ : Sl) (S : Sto) | cnt (δ : Sl) (S : Sto) | exc (k : Nat) (vs : List D) (δ : Sl) (S : Sto) | bad
abbrev MS := Sl → Sto → F

def R.bind {α β : Type} (r : R α) (f : α → Sto → R β) : R β := match r with
  | .ok a S => f a S
  | .exc k vs S => .exc k vs S
  | .bad => .bad
@[simp] theorem R.bind_ok {α β : Type} (a : α) (S : Sto) (f : α → Sto → R β) : (R.ok a S).bind f = f a S := rfl
@[simp] theorem R.bind_exc {α β : Type} (k : Nat) (vs : List D) (S : Sto) (f : α → Sto → R β) : (R.exc k vs S : R α).bind f = .exc k vs S := rfl
@[simp] theorem R.bind_bad {α β : Type} (f : α → Sto → R β) : (R.bad : R α).bind f = .bad := rfl
def R.flow {α : Type} (r : R α) (δ : Sl) (f : α → Sto → F) : F := match r with
  | .ok a S => f a S
  | .exc k vs S => .exc k vs δ S
  | .bad => .bad
@[simp] theorem R.flow_ok {α : Type} (a : α) (S : Sto) (δ : Sl) (f : α → Sto → F) : (R.ok a S).flow δ f = f a S := rfl
@[simp] theorem R.flow_exc {α : Type} (k : Nat) (vs : List D) (S : Sto) (δ : Sl) (f : α → Sto → F) : (R.exc k vs S : R α).flow δ f = .exc k vs δ S := rfl
@[simp] theorem R.flow_bad {α : Type} (δ : Sl) (f : α → Sto → F) : (R.bad : R α).flow δ f = .bad := rfl

/- no cell in it -/
mutual
def D.clean : D → Bool
  | .lst xs => D.cleanL xs
  | .tup xs => D.cleanL xs
  | .dic _ vs => D.cleanL vs
  | .ins _ vs => D.cleanL vs
  | .exv _ vs => D.cleanL vs
  | .loc _ => false
  | _ => true
def D.cleanL : List D → Bool
  | [] => true
  | d :: r => D.clean d && D.cleanL r
end
theorem cleanL_iff : ∀ {ds : List D}, D.cleanL ds = true ↔ ∀ d ∈ ds, d.clean = true
  | [] => by simp [D.cleanL]
  | d :: r => by simp [D.cleanL, cleanL_iff (ds := r)]

/-- the classes: their places, their attributes in order -/
structure RC where
  K : PySem.W.Frag
  cl : Nat → Addr
  fl : Nat → List Str
  /-- an error that is being handled: where it lies, its class, its dict -/
  ex : Option (Addr × Nat × Option Addr) := none
/-- what stands still, and where the cells lie -/
structure Wd where
  G : Hp
  ι : List Addr
structure Wd.le (a b : Wd) : Prop where
  g : ∀ x o, a.G x = some o → b.G x = some o
  i : a.ι <+: b.ι
theorem Wd.le.refl (a : Wd) : a.le a := ⟨fun _ _ h => h, List.prefix_rfl⟩
theorem Wd.le.trans {a b c : Wd} (h : a.le b) (k : b.le c) : a.le c := ⟨fun x o e => k.g x o (h.g x o e), h.i.trans k.i⟩

/-- attributes by their places -/
structure Att (ns : List Str) (vs : List V) (fs : List (Str × V)) : Prop where
  at_ : ∀ (i : Nat) v, vs[i]? = some v → ∃ f, ns[i]? = some f ∧ fs.lookup f = some v
  no : ∀ f, f ∉ ns → fs.lookup f = none
  few : fs.length ≤ vs.length

mutual
def Rep (c : RC) (g : Wd) : D → V → Prop
  | .non, v => v = .non
  | .bl b, v => v = .bl b
  | .int i, v => v = .int i
  | .str s, v => v = .str s
  | .lst ds, v => ∃ a vs, v = .ref a ∧ SqL c.K g.G a vs ∧ RepL c g ds vs
  | .tup ds, v => ∃ a vs, v = .ref a ∧ SqT c.K g.G a vs ∧ RepL c g ds vs
  | .dic ks ds, v => ∃ a kvs, v = .ref a ∧ Rd g.G a (.dK kvs) ∧ kvs.map (·.1) = ks ∧ RepL c g ds (kvs.map (·.2))
  | .ins k ds, v => ∃ a dx fs vs, v = .ref a ∧ g.G a = some (.ins (c.cl k) dx fs) ∧ Att (c.fl k) vs fs ∧ RepL c g ds vs
  | .exv k ds, v => ∃ a dd, v = .ref a ∧ (g.G a = some (exo a (c.cl k) dd) ∨ c.ex = some (a, k, dd)) ∧ ((dd = none ∧ ds = []) ∨ ∃ d fs vs, dd = some d ∧ (g.G d = some (exd d fs) ∨ g.G d = some (.xd fs)) ∧ Att (c.fl k) vs fs ∧ RepL c g ds vs)
  | .loc n, v => ∃ a, v = .ref a ∧ g.ι[n]? = some a
  | .glb u, v => v = u
  | .cls k, v => v = .ref (c.cl k)
def RepL (c : RC) (g : Wd) : List D → List V → Prop
  | [], vs => vs = []
  | d :: ds, vs => ∃ v r, vs = v :: r ∧ Rep c g d v ∧ RepL c g ds r
end

section
variable {c : RC} {g g' : Wd}
theorem Rd.up {a : Addr} {o : HO} (h : Rd g.G a o) (le : g.le g') : Rd g'.G a o := by
  rcases h with h | ⟨u, h⟩
  · exact .inl (le.g _ _ h)
  · exact .inr ⟨u, le.g _ _ h⟩
theorem SqL.up {K : PySem.W.Frag} {a : Addr} {vs : List V} (h : SqL K g.G a vs) (le : g.le g') : SqL K g'.G a vs := by
  rcases h with h | h
  · exact .inl (Rd.up h le)
  · exact .inr h
theorem SqT.up {K : PySem.W.Frag} {a : Addr} {vs : List V} (h : SqT K g.G a vs) (le : g.le g') : SqT K g'.G a vs := by
  rcases h with h | h
  · exact .inl (Rd.up h le)
  · exact .inr h
theorem nodup_at {α : Type} {l : List α} (h : l.Nodup) {i j : Nat} {a : α} (hi : l[i]? = some a) (hj : l[j]? = some a) : i = j := by
  obtain ⟨li, ei⟩ := List.getElem?_eq_some_iff.mp hi
  obtain ⟨lj, ej⟩ := List.getElem?_eq_some_iff.mp hj
  have p := List.pairwise_iff_getElem.mp h
  rcases Nat.lt_trichotomy i j with q | q | q
  · exact absurd (ei.trans ej.symm) (p i j li lj q)
  · exact q
  · exact absurd (ej.trans ei.symm) (p j i lj li q)
theorem pre_get {α : Type} {l l' : List α} {n : Nat} {a : α} (h : l <+: l') (e : l[n]? = some a) : l'[n]? = some a := by
  obtain ⟨r, rfl⟩ := h
  rw [List.getElem?_append_left (List.getElem?_eq_some_iff.mp e).1]
  exact e
mutual
theorem Rep.up (le : g.le g') : ∀ {d : D} {v : V}, Rep c g d v → Rep c g' d v
  | .non, v, h => by simpa only [Rep] using h
  | .bl b, v, h => by simpa only [Rep] using h
  | .int i, v, h => by simpa only [Rep] using h
  | .str s, v, h => by simpa only [Rep] using h
  | .lst ds, v, h => by
    rw [Rep] at h ⊢
    obtain ⟨a, vs, e, s, r⟩ := h
    exact ⟨a, vs, e, SqL.up s le, RepL.up le r⟩
  | .tup ds, v, h => by
    rw [Rep] at h ⊢
    obtain ⟨a, vs, e, s, r⟩ := h
    exact ⟨a, vs, e, SqT.up s le, RepL.up le r⟩
  | .dic ks ds, v, h => by
    rw [Rep] at h ⊢
    obtain ⟨a, kvs, e, s, q, r⟩ := h
    exact ⟨a, kvs, e, Rd.up s le, q, RepL.up le r⟩
  | .ins k ds, v, h => by
    rw [Rep] at h ⊢
    obtain ⟨a, dx, fs, vs, e, s, q, r⟩ := h
    exact ⟨a, dx, fs, vs, e, le.g _ _ s, q, RepL.up le r⟩
  | .exv k ds, v, h => by
    rw [Rep] at h ⊢
    obtain ⟨a, dd, e, s, q⟩ := h
    refine ⟨a, dd, e, s.imp (le.g _ _) id, ?_⟩
    rcases q with q | ⟨d, fs, vs, e1, e2, e3, r⟩
    · exact .inl q
    · exact .inr ⟨d, fs, vs, e1, e2.imp (le.g _ _) (le.g _ _), e3, RepL.up le r⟩
  | .loc n, v, h => by
    rw [Rep] at h ⊢
    obtain ⟨a, e, s⟩ := h
    exact ⟨a, e, pre_get le.i s⟩
  | .glb u, v, h => by simpa only [Rep] using h
  | .cls k, v, h => by simpa only [Rep] using h
theorem RepL.up (le : g.le g') : ∀ {ds : List D} {vs : List V}, RepL c g ds vs → RepL c g' ds vs
  | [], vs, h => by simpa only [RepL] using h
  | d :: ds, vs, h => by
    rw [RepL] at h ⊢
    obtain ⟨v, r, e, p, q⟩ := h
    exact ⟨v, r, e, Rep.up le p, RepL.up le q⟩
end
theorem RepL.length : ∀ {ds : List D} {vs : List V}, RepL c g ds vs → vs.length = ds.length
  | [], vs, h => by rw [RepL] at h; rw [h] <;> rfl
  | d :: ds, vs, h => by
    rw [RepL] at h
    obtain ⟨v, r, rfl, _, q⟩ := h
    rw [List.length_cons, List.length_cons, RepL.length q]
theorem RepL.get : ∀ {ds : List D} {vs : List V} {i : Nat} {d : D}, RepL c g ds vs → ds[i]? = some d → ∃ v, vs[i]? = some v ∧ Rep c g d v
  | [], _, _, _, _, e => by simp at e
  | d :: ds, vs, 0, d', h, e => by
    rw [RepL] at h
    obtain ⟨v, r, rfl, p, _⟩ := h
    simp at e
    subst e
    exact ⟨v, rfl, p⟩
  | d :: ds, vs, i + 1, d', h, e => by
    rw [RepL] at h
    obtain ⟨v, r, rfl, _, q⟩ := h
    obtain ⟨w, h1, h2⟩ := RepL.get (i := i) (d := d') q (by simpa using e)
    exact ⟨w, by simpa using h1, h2⟩
theorem RepL.nil : RepL c g [] [] := by rw [RepL]
theorem RepL.cons {d : D} {v : V} {ds : List D} {vs : List V} (p : Rep c g d v) (q : RepL c g ds vs) : RepL c g (d :: ds) (v :: vs) := by
  rw [RepL]
  exact ⟨v, vs, rfl, p, q⟩
theorem RepL.app : ∀ {ds es : List D} {vs ws : List V}, RepL c g ds vs → RepL c g es ws → RepL c g (ds ++ es) (vs ++ ws)
  | [], _, vs, _, h, k => by rw [RepL] at h; rw [h]; exact k
  | d :: ds, es, vs, ws, h, k => by
    rw [RepL] at h
    obtain ⟨v, r, rfl, p, q⟩ := h
    exact RepL.cons p (RepL.app q k)
theorem RepL.set : ∀ {ds : List D} {vs : List V} {d : D} {v : V} (i : Nat), RepL c g ds vs → Rep c g d v → RepL c g (ds.set i d) (vs.set i v)
  | [], vs, _, _, _, h, _ => by rw [RepL] at h; rw [h]; exact RepL.nil
  | d :: ds, vs, d', v', 0, h, k => by
    rw [RepL] at h
    obtain ⟨v, r, rfl, p, q⟩ := h
    exact RepL.cons k q
  | d :: ds, vs, d', v', i + 1, h, k => by
    rw [RepL] at h
    obtain ⟨v, r, rfl, p, q⟩ := h
    exact RepL.cons p (RepL.set i q k)
theorem RepL.take : ∀ {ds : List D} {vs : List V} (n : Nat), RepL c g ds vs → RepL c g (ds.take n) (vs.take n)
  | [], vs, n, h => by rw [RepL] at h; rw [h, List.take_nil, List.take_nil]; exact RepL.nil
  | d :: ds, vs, 0, h => by exact RepL.nil
  | d :: ds, vs, n + 1, h => by
    rw [RepL] at h
    obtain ⟨v, r, rfl, p, q⟩ := h
    exact RepL.cons p (RepL.take n q)
theorem RepL.drop : ∀ {ds : List D} {vs : List V} (n : Nat), RepL c g ds vs → RepL c g (ds.drop n) (vs.drop n)
  | [], vs, n, h => by rw [RepL] at h; rw [h, List.drop_nil, List.drop_nil]; exact RepL.nil
  | d :: ds, vs, 0, h => h
  | d :: ds, vs, n + 1, h => by
    rw [RepL] at h
    obtain ⟨v, r, rfl, p, q⟩ := h
    exact RepL.drop n q
theorem RepL.rev : ∀ {ds : List D} {vs : List V}, RepL c g ds vs → RepL c g ds.reverse vs.reverse
  | [], vs, h => by rw [RepL] at h; rw [h]; exact RepL.nil
  | d :: ds, vs, h => by
    rw [RepL] at h
    obtain ⟨v, r, rfl, p, q⟩ := h
    rw [List.reverse_cons, List.reverse_cons]
    exact RepL.app (RepL.rev q) (RepL.cons p RepL.nil)
theorem RepL.cons_inv {d : D} {ds : List D} {vs : List V} (h : RepL c g (d :: ds) vs) : ∃ v r, vs = v :: r ∧ Rep c g d v ∧ RepL c g ds r := by
  rw [RepL] at h
  exact h
theorem RepL.nil_inv {vs : List V} (h : RepL c g [] vs) : vs = [] := by
  rw [RepL] at h
  exact h
end

/-- kept; a dict may be locked while it is walked -/
def Kp (G H : Hp) : Prop := ∀ a o, G a = some o → H a = some o ∨ ∃ od kvs, o = .dK kvs ∧ H a = some (.frz od (.dK kvs))
theorem Kp.refl (H : Hp) : Kp H H := fun _ _ h => .inl h
theorem Kp.gone {G H : Hp} {a : Addr} (k : Kp G H) (h : H a = none) : G a = none := by
  cases e : G a with
  | none => rfl
  | some o => rcases k a o e with q | ⟨_, _, _, q⟩ <;> rw [h] at q <;> cases q
theorem Kp.rd {G H : Hp} {a : Addr} {o : HO} (k : Kp G H) (h : Rd G a o) : Rd H a o := by
  rcases h with h | ⟨u, h⟩
  · rcases k a o h with q | ⟨od, kvs, rfl, q⟩
    · exact .inl q
    · exact .inr ⟨od, q⟩
  · rcases k a _ h with q | ⟨od, kvs, e, q⟩
    · exact .inr ⟨u, q⟩
    · cases e
theorem Kp.lst {K : PySem.W.Frag} {G H : Hp} {a : Addr} {vs : List V} (k : Kp G H) (h : SqL K G a vs) : SqL K H a vs := by
  rcases h with h | h
  · exact .inl (k.rd h)
  · exact .inr h
theorem Kp.tup {K : PySem.W.Frag} {G H : Hp} {a : Addr} {vs : List V} (k : Kp G H) (h : SqT K G a vs) : SqT K H a vs := by
  rcases h with h | h
  · exact .inl (k.rd h)
  · exact .inr h
theorem Kp.ins {G H : Hp} {a : Addr} {C dx : Addr} {fs : List (Str × V)} (k : Kp G H) (h : G a = some (.ins C dx fs)) : H a = some (.ins C dx fs) := by
  rcases k a _ h with q | ⟨_, _, e, _⟩
  · exact q
  · cases e
/-- a change beside G -/
theorem Kp.aside {G H : Hp} {a : Addr} {o : HO} (k : Kp G H) (h : G a = none) : Kp G (L2.upd H a o) := fun b u e => by
  rw [upd_ne (ne_of_none e h)]
  exact k b u e
/-- a new thing in both -/
theorem Kp.new {G H : Hp} {a : Addr} {o : HO} (k : Kp G H) (h : G a = none) : Kp (L2.upd G a o) (L2.upd H a o) := fun b u e => by
  by_cases hb : b = a
  · subst hb
    rw [upd_same] at e ⊢
    exact .inl e
  · rw [upd_ne hb] at e ⊢
    exact k b u e

/-- kept, to the letter -/
def Ke (G H : Hp) : Prop := ∀ a o, G a = some o → H a = some o
theorem Ke.gone {G H : Hp} {a : Addr} (k : Ke G H) (h : H a = none) : G a = none := by
  cases e : G a with
  | none => rfl
  | some o => rw [k a o e] at h; cases h
theorem Ke.aside {G H : Hp} {a : Addr} {o : HO} (k : Ke G H) (h : G a = none) : Ke G (L2.upd H a o) := fun b u e => by
  rw [upd_ne (ne_of_none e h)]
  exact k b u e
theorem Ke.new {G H : Hp} {a : Addr} {o : HO} (k : Ke G H) (h : G a = none) : Ke (L2.upd G a o) (L2.upd H a o) := fun b u e => by
  by_cases hb : b = a
  · subst hb
    rw [upd_same] at e ⊢
    exact e
  · rw [upd_ne hb] at e ⊢
    exact k b u e

/-- what may lie under a cell that changes no more -/
def Mt (u : HO) : Prop := (∃ vs, u = .lst vs) ∨ (∃ kvs, u = .dK kvs) ∨ (∃ od kvs, u = .frz od (.dK kvs)) ∨ ∃ C dx fs, u = .ins C dx fs
def CellRep (c : RC) (g : Wd) (H : Hp) (a : Addr) : O → Prop
  | .lst ds => D.cleanL ds = true ∧ ∃ vs, H a = some (.lst vs) ∧ RepL c g ds vs
  | .dic ks ds => D.cleanL ds = true ∧ ∃ kvs, H a = some (.dK kvs) ∧ kvs.map (·.1) = ks ∧ RepL c g ds (kvs.map (·.2))
  | .dct ks ds => D.cleanL ds = true ∧ ∃ kvs, H a = some (.dT kvs) ∧ kvs.map (·.1) = ks ∧ RepL c g ds (kvs.map (·.2))
  | .ins k ds => D.cleanL ds = true ∧ ∃ dx fs vs, H a = some (.ins (c.cl k) dx fs) ∧ Att (c.fl k) vs fs ∧ RepL c g ds vs
  | .dead => ∃ u, g.G a = some u ∧ Mt u
theorem CellRep.up {c : RC} {g g' : Wd} {H : Hp} {a : Addr} (le : g.le g') : ∀ {o : O}, CellRep c g H a o → CellRep c g' H a o
  | .lst ds, ⟨h, vs, e, r⟩ => ⟨h, vs, e, RepL.up le r⟩
  | .dic ks ds, ⟨h, kvs, e, q, r⟩ => ⟨h, kvs, e, q, RepL.up le r⟩
  | .dct ks ds, ⟨h, kvs, e, q, r⟩ => ⟨h, kvs, e, q, RepL.up le r⟩
  | .ins k ds, ⟨h, dx, fs, vs, e, q, r⟩ => ⟨h, dx, fs, vs, e, q, RepL.up le r⟩
  | .dead, ⟨u, e, m⟩ => ⟨u, le.g _ _ e, m⟩
theorem CellRep.at {c : RC} {g : Wd} {H H' : Hp} {a : Addr} (e : H' a = H a) : ∀ {o : O}, CellRep c g H a o → CellRep c g H' a o
  | .lst ds, ⟨h, vs, q, r⟩ => ⟨h, vs, e.trans q, r⟩
  | .dic ks ds, ⟨h, kvs, q, z, r⟩ => ⟨h, kvs, e.trans q, z, r⟩
  | .dct ks ds, ⟨h, kvs, q, z, r⟩ => ⟨h, kvs, e.trans q, z, r⟩
  | .ins k ds, ⟨h, dx, fs, vs, q, z, r⟩ => ⟨h, dx, fs, vs, e.trans q, z, r⟩
  | .dead, h => h
theorem CellRep.there {c : RC} {g : Wd} {H : Hp} {a : Addr} (k : Kp g.G H) : ∀ {o : O}, CellRep c g H a o → ∃ u, H a = some u
  | .lst ds, ⟨h, vs, q, r⟩ => ⟨_, q⟩
  | .dic ks ds, ⟨h, kvs, q, z, r⟩ => ⟨_, q⟩
  | .dct ks ds, ⟨h, kvs, q, z, r⟩ => ⟨_, q⟩
  | .ins k ds, ⟨h, dx, fs, vs, q, z, r⟩ => ⟨_, q⟩
  | .dead, ⟨u, e, m⟩ => by
    rcases k a u e with h | ⟨_, _, _, h⟩
    · exact ⟨_, h⟩
    · exact ⟨_, h⟩

/-- the heap behind the data; Z: what others want kept -/
structure SimH (c : RC) (g : Wd) (S : Sto) (Z H : Hp) : Prop where
  gk : Kp g.G H
  zk : Ke Z H
  zg : ∀ a o, Z a = some o → g.G a = none
  len : g.ι.length = S.length
  nd : g.ι.Nodup
  cell : ∀ (n : Nat) a o, g.ι[n]? = some a → S[n]? = some o → (o ≠ .dead → g.G a = none) ∧ Z a = none ∧ CellRep c g H a o

section
variable {c : RC} {g g' : Wd} {S : Sto} {Z H : Hp}
theorem SimH.mem_cell (s : SimH c g S Z H) {a : Addr} (h : a ∈ g.ι) : ∃ (n : Nat) (o : O), g.ι[n]? = some a ∧ S[n]? = some o := by
  obtain ⟨n, hn, e⟩ := List.getElem_of_mem h
  have : n < S.length := s.len ▸ hn
  exact ⟨n, S[n], by simp [hn, e], by simp [this]⟩
theorem SimH.not_new (s : SimH c g S Z H) {p : Addr} (hp : H p = none) : p ∉ g.ι := fun h => by
  obtain ⟨n, o, e1, e2⟩ := s.mem_cell h
  obtain ⟨u, q⟩ := (s.cell n p o e1 e2).2.2.there s.gk
  rw [hp] at q
  cases q
/-- a new thing that stands still -/
theorem SimH.new (s : SimH c g S Z H) {p : Addr} (hp : H p = none) (o : HO) : g.le ⟨upd g.G p o, g.ι⟩ ∧ SimH c ⟨upd g.G p o, g.ι⟩ S Z (upd H p o) := by
  have gp := s.gk.gone hp
  have le : g.le ⟨upd g.G p o, g.ι⟩ := ⟨fun x u e => (upd_ne (ne_of_none e gp)).trans e, List.prefix_rfl⟩
  refine ⟨le, s.gk.new gp, s.zk.aside (s.zk.gone hp), fun a u e => (upd_ne (ne_of_none e (s.zk.gone hp))).trans (s.zg a u e), s.len, s.nd, fun n a u e1 e2 => ?_⟩
  obtain ⟨h1, h2, h3⟩ := s.cell n a u e1 e2
  have hne : a ≠ p := fun z => s.not_new hp (z ▸ List.mem_of_getElem? e1)
  refine ⟨fun hd => by show upd g.G p o a = none; rw [upd_ne hne]; exact h1 hd, h2, (h3.up le).at (upd_ne hne)⟩
/-- a new thing that nobody names -/
theorem SimH.beside (s : SimH c g S Z H) {p : Addr} (hp : H p = none) (o : HO) : SimH c g S Z (upd H p o) := by
  refine ⟨s.gk.aside (s.gk.gone hp), s.zk.aside (s.zk.gone hp), s.zg, s.len, s.nd, fun n a u e1 e2 => ?_⟩
  obtain ⟨h1, h2, h3⟩ := s.cell n a u e1 e2
  have hne : a ≠ p := fun z => s.not_new hp (z ▸ List.mem_of_getElem? e1)
  exact ⟨h1, h2, h3.at (upd_ne hne)⟩
/-- a new cell -/
theorem SimH.newCell (s : SimH c g S Z H) {p : Addr} (hp : H p = none) {o : HO} {u : O} (hc : CellRep c ⟨g.G, g.ι ++ [p]⟩ (upd H p o) p u) : g.le ⟨g.G, g.ι ++ [p]⟩ ∧ SimH c ⟨g.G, g.ι ++ [p]⟩ (S ++ [u]) Z (upd H p o) := by
  have gp := s.gk.gone hp
  have le : g.le ⟨g.G, g.ι ++ [p]⟩ := ⟨fun _ _ e => e, ⟨[p], rfl⟩⟩
  refine ⟨le, s.gk.aside gp, s.zk.aside (s.zk.gone hp), s.zg, by simp [s.len], ?_, fun n a x e1 e2 => ?_⟩
  · have z := s.not_new hp
    have nd := s.nd
    rw [List.nodup_append]
    exact ⟨nd, by simp, fun a ha b hb => by simp at hb; subst hb; exact fun q => z (q ▸ ha)⟩
  · by_cases hn : n < S.length
    · have hn' : n < g.ι.length := s.len ▸ hn
      have e1' : g.ι[n]? = some a := by
        have : (g.ι ++ [p])[n]? = some a := e1
        rwa [List.getElem?_append_left hn'] at this
      rw [List.getElem?_append_left hn] at e2
      obtain ⟨h1, h2, h3⟩ := s.cell n a x e1' e2
      have hne : a ≠ p := fun z => s.not_new hp (z ▸ List.mem_of_getElem? e1')
      exact ⟨h1, h2, (h3.up le).at (upd_ne hne)⟩
    · have e0 : n = S.length := by
        have h2 := (List.getElem?_eq_some_iff.mp e2).1
        simp at h2
        omega
      subst e0
      have e1' : (g.ι ++ [p])[S.length]? = some a := e1
      rw [← s.len] at e1'
      simp at e1' e2
      subst e1' e2
      exact ⟨fun _ => gp, s.zk.gone hp, hc⟩
/-- a cell is changed -/
theorem SimH.write (s : SimH c g S Z H) {n : Nat} {a : Addr} {o : HO} {u u0 : O} (ha : g.ι[n]? = some a) (hx : S[n]? = some u0) (hc : CellRep c g (upd H a o) a u) (hd : u0 ≠ .dead := by simp) : SimH c g (S.set n u) Z (upd H a o) := by
  have hn : n < S.length := (List.getElem?_eq_some_iff.mp hx).1
  obtain ⟨h1, h2, _⟩ := s.cell n a u0 ha hx
  have h1 := h1 hd
  refine ⟨s.gk.aside h1, s.zk.aside h2, s.zg, by simp [s.len], s.nd, fun m b x e1 e2 => ?_⟩
  by_cases hm : m = n
  · subst hm
    rw [ha] at e1
    cases e1
    rw [List.getElem?_set_self hn] at e2
    cases e2
    exact ⟨fun _ => h1, h2, hc⟩
  · rw [List.getElem?_set_ne (Ne.symm hm)] at e2
    obtain ⟨k1, k2, k3⟩ := s.cell m b x e1 e2
    have hne : b ≠ a := fun z => by
      subst z
      exact hm (nodup_at s.nd e1 ha)
    exact ⟨k1, k2, k3.at (upd_ne hne)⟩
end

def Slots (c : RC) (g : Wd) (δ : Sl) (σ : L2.St) : Prop := σ.length = δ.length ∧ ∀ (i : Nat) d, δ[i]? = some (some d) → ∃ v, σ[i]? = some (some v) ∧ Rep c g d v
section
variable {c : RC} {g g' : Wd} {δ : Sl} {σ : L2.St}
theorem Slots.up (s : Slots c g δ σ) (le : g.le g') : Slots c g' δ σ := ⟨s.1, fun i d e => let ⟨v, h1, h2⟩ := s.2 i d e; ⟨v, h1, Rep.up le h2⟩⟩
theorem Slots.set (s : Slots c g δ σ) {d : D} {v : V} (i : Nat) (r : Rep c g d v) : Slots c g (δ.set i (some d)) (σ.set i (some v)) := by
  refine ⟨by simp [s.1], fun j e h => ?_⟩
  by_cases hj : i = j
  · subst hj
    have hl : i < δ.length := by
      have := (List.getElem?_eq_some_iff.mp h).1
      simpa using this
    rw [List.getElem?_set_self hl] at h
    cases h
    exact ⟨v, by rw [List.getElem?_set_self (s.1 ▸ hl)], r⟩
  · rw [List.getElem?_set_ne hj] at h
    obtain ⟨w, h1, h2⟩ := s.2 j e h
    exact ⟨w, by rw [List.getElem?_set_ne hj]; exact h1, h2⟩
theorem Slots.forget (s : Slots c g δ σ) (i : Nat) (x : Option V) : Slots c g (δ.set i none) (σ.set i x) := by
  refine ⟨by simp [s.1], fun j e h => ?_⟩
  by_cases hj : i = j
  · subst hj
    have hl : i < δ.length := by
      have := (List.getElem?_eq_some_iff.mp h).1
      simpa using this
    rw [List.getElem?_set_self hl] at h
    cases h
  · rw [List.getElem?_set_ne hj] at h
    obtain ⟨w, h1, h2⟩ := s.2 j e h
    exact ⟨w, by rw [List.getElem?_set_ne hj]; exact h1, h2⟩
end

def XRep (c : RC) (g : Wd) (Z H : Hp) (k : Nat) (vs : List D) (dd : Option Addr) : Prop :=
  (dd = none ∧ vs = []) ∨ ∃ d fs ws, dd = some d ∧ H d = some (.xd fs) ∧ (Z d = none ∧ g.G d = none) ∧ Att (c.fl k) ws fs ∧ RepL c g vs ws

/-! ### what is wanted behind a mirrored run -/
def Post (c : RC) {α β : Type} (rp : Wd → α → β → Prop) (g : Wd) (Z : Hp) (r : R α) (Q : β → Hp → Prop) (E : XK) : Prop := match r with
  | .ok a S => ∀ g' v H, g.le g' → SimH c g' S Z H → rp g' a v → Q v H
  | .exc k vs S => ∀ g' dd H, g.le g' → SimH c g' S Z H → XRep c g' Z H k vs dd → E (.ref (c.cl k)) dd H
  | .bad => False
def PostF (c : RC) (g : Wd) (Z : Hp) (r : F) (Dn : Ends) (W : WX) : Prop := match r with
  | .nx δ S => ∀ g' σ H, g.le g' → SimH c g' S Z H → Slots c g' δ σ → Dn.nx σ H
  | .brk δ S => ∀ g' σ H, g.le g' → SimH c g' S Z H → Slots c g' δ σ → Dn.bk σ H
  | .cnt δ S => ∀ g' σ H, g.le g' → SimH c g' S Z H → Slots c g' δ σ → Dn.ct σ H
  | .ret d S => ∀ g' v H, g.le g' → SimH c g' S Z H → Rep c g' d v → Dn.rt v H
  | .exc k vs δ S => ∀ g' dd σ H, g.le g' → SimH c g' S Z H → Slots c g' δ σ → XRep c g' Z H k vs dd → W (.ref (c.cl k)) dd σ H
  | .bad => False
section
variable {c : RC} {g g' : Wd} {Z : Hp} {α β α₂ β₂ : Type} {rp : Wd → α → β → Prop} {rp₂ : Wd → α₂ → β₂ → Prop} {Q : β → Hp → Prop} {Q₂ : β₂ → Hp → Prop} {E : XK} {r : R α} {Dn : Ends} {W : WX}
theorem Post.up (le : g.le g') (h : Post c rp g Z r Q E) : Post c rp g' Z r Q E := by
  cases r with
  | ok a S => exact fun g₁ v H l => h g₁ v H (le.trans l)
  | exc k vs S => exact fun g₁ v H l => h g₁ v H (le.trans l)
  | bad => exact h
theorem PostF.up {r : F} (le : g.le g') (h : PostF c g Z r Dn W) : PostF c g' Z r Dn W := by
  cases r with
  | nx δ S => exact fun g₁ v H l => h g₁ v H (le.trans l)
  | brk δ S => exact fun g₁ v H l => h g₁ v H (le.trans l)
  | cnt δ S => exact fun g₁ v H l => h g₁ v H (le.trans l)
  | ret d S => exact fun g₁ v H l => h g₁ v H (le.trans l)
  | exc k vs δ S => exact fun g₁ dd σ H l => h g₁ dd σ H (le.trans l)
  | bad => exact h
theorem Post.bind {f : α → Sto → R α₂} (h : Post c rp₂ g Z (r.bind f) Q₂ E) (k : ∀ a S g₁ v H, r = .ok a S → g.le g₁ → SimH c g₁ S Z H → rp g₁ a v → Post c rp₂ g₁ Z (f a S) Q₂ E → Q v H) : Post c rp g Z r Q E := by
  cases r with
  | ok a S => exact fun g₁ v H le s p => k a S g₁ v H rfl le s p (Post.up le h)
  | exc k vs S => exact h
  | bad => exact h
theorem Post.flow {δ : Sl} {σ : L2.St} {f : α → Sto → F} (sl : Slots c g δ σ) (h : PostF c g Z (r.flow δ f) Dn W) (k : ∀ a S g₁ v H, g.le g₁ → SimH c g₁ S Z H → rp g₁ a v → PostF c g₁ Z (f a S) Dn W → Q v H) :
    Post c rp g Z r Q (fun cls d H => W cls d σ H) := by
  cases r with
  | ok a S => exact fun g₁ v H le s p => k a S g₁ v H le s p (PostF.up le h)
  | exc k vs S => exact fun g₁ dd H le s x => h g₁ dd σ H le s (sl.up le) x
  | bad => exact h
theorem Post.mono {Q' : β → Hp → Prop} (h : Post c rp g Z r Q E) (k : ∀ v H, Q v H → Q' v H) : Post c rp g Z r Q' E := by
  cases r with
  | ok a S => exact fun g₁ v H le s p => k v H (h g₁ v H le s p)
  | exc k vs S => exact h
  | bad => exact h
end

/-! ### the mirrored readings -/
def eM (c : RC) (W : WX) (m : ME) : TE := fun σ H Q => ∃ g Z δ S, SimH c g S Z H ∧ Slots c g δ σ ∧ Post c (Rep c) g Z (m δ S) Q (fun k d H' => W k d σ H')
def tM (c : RC) (W : WX) (m : MT) : TT := fun σ H Q => ∃ g Z δ S, SimH c g S Z H ∧ Slots c g δ σ ∧ Post c (fun _ a b => a = b) g Z (m δ S) Q (fun k d H' => W k d σ H')
def aM (c : RC) (W : WX) (m : MA) : TA := fun σ H Q => ∃ g Z δ S, SimH c g S Z H ∧ Slots c g δ σ ∧ Post c (RepL c) g Z (m δ S) Q (fun k d H' => W k d σ H')
def sM (c : RC) (W : WX) (m : MS) : TS := fun Dn σ H => ∃ g Z δ S, SimH c g S Z H ∧ Slots c g δ σ ∧ PostF c g Z (m δ S) Dn W
/-- e is mirrored by m -/
abbrev CE (X : Cx) (c : RC) (W : WX) (e : Expr) (m : ME) : Prop := PE X e (eM c W m)
abbrev CT (X : Cx) (c : RC) (W : WX) (e : Expr) (m : MT) : Prop := PT X e (tM c W m)
abbrev CW (X : Cx) (c : RC) (W : WX) (e : Expr) (m : MT) : Prop := PW X e (tM c W m)
abbrev CA (X : Cx) (c : RC) (W : WX) (es : List Expr) (m : MA) : Prop := PA X es (aM c W m)
abbrev CS (X : Cx) (c : RC) (W : WX) (st : Stmt) (m : MS) : Prop := PS X st (sM c W m)
abbrev CSs (X : Cx) (c : RC) (W : WX) (st : List Stmt) (m : MS) : Prop := PSs X st (sM c W m)
section
variable {X : Cx}
theorem weakE {e : Expr} {t t' : TE} (h : PE X e t) (k : ∀ σ H Q, t' σ H Q → t σ H Q) : PE X e t' := ⟨fun pins s σ H Q I q => h.run pins s σ H Q I (k _ _ _ q)⟩
theorem weakT {e : Expr} {t t' : TT} (h : PT X e t) (k : ∀ σ H Q, t' σ H Q → t σ H Q) : PT X e t' := ⟨fun pins s σ H Q I q => h.run pins s σ H Q I (k _ _ _ q)⟩
theorem weakW {e : Expr} {t t' : TT} (h : PW X e t) (k : ∀ σ H Q, t' σ H Q → t σ H Q) : PW X e t' := ⟨fun whole pins s σ H Q I q => h.run whole pins s σ H Q I (k _ _ _ q)⟩
theorem weakA {e : List Expr} {t t' : TA} (h : PA X e t) (k : ∀ σ H Q, t' σ H Q → t σ H Q) : PA X e t' := ⟨fun pos pins s σ H Q I q => h.run pos pins s σ H Q I (k _ _ _ q)⟩
theorem weakS {e : Stmt} {t t' : TS} (h : PS X e t) (k : ∀ Dn σ H, t' Dn σ H → t Dn σ H) : PS X e t' := ⟨fun pins s σ H Dn I q => h.run pins s σ H Dn I (k _ _ _ q)⟩
theorem weakSs {e : List Stmt} {t t' : TS} (h : PSs X e t) (k : ∀ Dn σ H, t' Dn σ H → t Dn σ H) : PSs X e t' := ⟨fun pins s σ H Dn I q => h.run pins s σ H Dn I (k _ _ _ q)⟩
end
end DL

end
section
/-! DL, part b: expressions. -/
namespace DL
open PySem PySem.Spec PyProof.Rows L2

/-! ### the mirrors -/
def mVar (i : Nat) : ME := fun δ S => match δ[i]? with
  | some (some d) => .ok d S
  | _ => .bad
def mC (d : D) : ME := fun _ S => .ok d S
def mBin (f : D → D → Sto → R D) (a b : ME) : ME := fun δ S => (a δ S).bind fun x S1 => (b δ S1).bind fun y S2 => f x y S2
def mUn (f : D → Sto → R D) (a : ME) : ME := fun δ S => (a δ S).bind fun x S1 => f x S1
def mCall (f : List D → Sto → R D) (a : MA) : ME := fun δ S => (a δ S).bind f
def mNil : MA := fun _ S => .ok [] S
def mCons (a : ME) (b : MA) : MA := fun δ S => (a δ S).bind fun x S1 => (b δ S1).bind fun xs S2 => .ok (x :: xs) S2
def mTest (a : ME) : MT := fun δ S => (a δ S).bind fun x S1 => match x with
  | .bl b => .ok b S1
  | _ => .bad
def mIf (t : MT) (a b : ME) : ME := fun δ S => (t δ S).bind fun k S1 => if k = true then a δ S1 else b δ S1
def mAnd (t u : MT) : MT := fun δ S => (t δ S).bind fun k S1 => if k = true then u δ S1 else .ok false S1
def mOr (t u : MT) : MT := fun δ S => (t δ S).bind fun k S1 => if k = true then .ok true S1 else u δ S1
def mNot (t : MT) : MT := fun δ S => (t δ S).bind fun k S1 => .ok (!k) S1
/-- and, or, not as values of truth values -/
def mVal (t : MT) : ME := fun δ S => (t δ S).bind fun k S1 => .ok (.bl k) S1

/-- the items of a list -/
def D.seq (S : Sto) : D → Option (List D)
  | .lst xs => some xs
  | .loc n => match S[n]? with
    | some (.lst xs) => some xs
    | _ => none
  | _ => none
/-- .. of a list or tuple -/
def D.sq (S : Sto) : D → Option (List D)
  | .tup xs => some xs
  | d => d.seq S

def fAdd (x y : D) (S : Sto) : R D := match x, y with
  | .int i, .int j => .ok (.int (i + j)) S
  | .str a, .str b => if a.length + b.length ≤ 16777216 then .ok (.str (a ++ b)) S else .bad
  | .tup xs, .tup ys => if xs.length + ys.length ≤ 16777216 then .ok (.tup (xs ++ ys)) S else .bad
  | x, y => match x.seq S, y.seq S with
    | some xs, some ys => if xs.length + ys.length ≤ 16777216 then .ok (.lst (xs ++ ys)) S else .bad
    | _, _ => .bad
def fSub (x y : D) (S : Sto) : R D := match x, y with
  | .int i, .int j => .ok (.int (i - j)) S
  | _, _ => .bad
def fMul (x y : D) (S : Sto) : R D := match x, y with
  | .int i, .int j => if (-(2 ^ 64) < i ∧ i < 2 ^ 64) ∨ (-(2 ^ 64) < j ∧ j < 2 ^ 64) then .ok (.int (i * j)) S else .bad
  | _, _ => .bad
def fDiv (x y : D) (S : Sto) : R D := match x, y with
  | .int i, .int j => if 0 < j ∧ j < 2 ^ 200 then .ok (.int (i / j)) S else .bad
  | _, _ => .bad
def fMod (x y : D) (S : Sto) : R D := match x, y with
  | .int i, .int j => if 0 < j then .ok (.int (i % j)) S else .bad
  | _, _ => .bad
def fPow (x y : D) (S : Sto) : R D := match x, y with
  | .int i, .int j => if 0 ≤ j ∧ j ≤ 1000000 ∧ i.natAbs < 2 ^ 64 then .ok (.int (i ^ j.toNat)) S else .bad
  | _, _ => .bad
def fNeg (x : D) (S : Sto) : R D := match x with
  | .int i => .ok (.int (-i)) S
  | _ => .bad
def fLt (x y : D) (S : Sto) : R D := match x, y with
  | .int i, .int j => .ok (.bl (decide (i < j))) S
  | _, _ => .bad
def fLe (x y : D) (S : Sto) : R D := match x, y with
  | .int i, .int j => .ok (.bl (decide (i ≤ j))) S
  | .str a, .str b => .ok (.bl (!decide (b.cps.toList < a.cps.toList))) S
  | _, _ => .bad
def fGt (x y : D) (S : Sto) : R D := match x, y with
  | .int i, .int j => .ok (.bl (decide (j < i))) S
  | _, _ => .bad
def fGe (x y : D) (S : Sto) : R D := match x, y with
  | .int i, .int j => .ok (.bl (decide (j ≤ i))) S
  | _, _ => .bad

def D.isN : D → Option Bool
  | .non => some true
  | .glb _ => none
  | .cls _ => none
  | _ => some false
def fIsN (x : D) (S : Sto) : R D := match x.isN with
  | some b => .ok (.bl b) S
  | none => .bad
def fNotN (x : D) (S : Sto) : R D := match x.isN with
  | some b => .ok (.bl (!b)) S
  | none => .bad

/-- an item by its place -/
def fIx (x y : D) (S : Sto) : R D := match y with
  | .int i => match x with
    | .str z => if z.length ≤ 16777216 then (match atI z.cps.toList i with
      | some k => .ok (.str ⟨#[k]⟩) S
      | none => .bad) else .bad
    | x => match x.sq S with
      | some xs => (match atI xs i with
        | some d => .ok d S
        | none => .bad)
      | none => .bad
  | _ => .bad
/-- a part of a list -/
def cutD (xs : List D) (lo hi : Option Int) : List D := (xs.drop (HT.sIx xs.length 0 lo)).take (HT.sIx xs.length xs.length hi - HT.sIx xs.length 0 lo)
def mPart : Option ME → Sl → Sto → R (Option Int)
  | none, _, S => .ok none S
  | some m, δ, S => (m δ S).bind fun x S1 => match x with
    | .int i => .ok (some i) S1
    | _ => .bad
def fCut (x : D) (l h : Option Int) (S : Sto) : R D := match x with
  | .tup xs => .ok (.tup (cutD xs l h)) S
  | x => match x.seq S with
    | some xs => .ok (.lst (cutD xs l h)) S
    | none => .bad
def mSlice (a : ME) (lo hi : Option ME) : ME := fun δ S => (a δ S).bind fun x S1 => (mPart lo δ S1).bind fun l S2 => (mPart hi δ S2).bind fun h S3 => fCut x l h S3

def fLen (xs : List D) (S : Sto) : R D := match xs with
  | [.str z] => if z.length ≤ 16777216 then .ok (.int z.length) S else .bad
  | [.dic ks ds] => .ok (.int ks.length) S
  | [x] => (match x.sq S with
    | some ys => .ok (.int ys.length) S
    | none => .bad)
  | _ => .bad
def fAbs (xs : List D) (S : Sto) : R D := match xs with
  | [.int i] => .ok (.int (if i < 0 then -i else i)) S
  | _ => .bad
def fInt (xs : List D) (S : Sto) : R D := match xs with
  | [.int i] => .ok (.int i) S
  | [.bl k] => .ok (.int (if k then 1 else 0)) S
  | _ => .bad
def fMax (xs : List D) (S : Sto) : R D := match xs with
  | [.int i, .int j] => .ok (.int (if j > i then j else i)) S
  | _ => .bad
def fMin (xs : List D) (S : Sto) : R D := match xs with
  | [.int i, .int j] => .ok (.int (if j < i then j else i)) S
  | _ => .bad
def fBool (xs : List D) (S : Sto) : R D := match xs with
  | [.bl k] => .ok (.bl k) S
  | _ => .bad
def fTup (xs : List D) (S : Sto) : R D := if xs.length ≤ 16777216 then .ok (.tup xs) S else .bad
def fLst (xs : List D) (S : Sto) : R D := if xs.length ≤ 16777216 then .ok (.lst xs) S else .bad
/-- a list that will change -/
def fLstC (xs : List D) (S : Sto) : R D := if xs.length ≤ 16777216 ∧ D.cleanL xs = true then .ok (.loc S.length) (S ++ [.lst xs]) else .bad

/-! ### the frame of a rule -/
structure Cf (k : Nat) (X : Cx) (c : RC) : Prop where
  kk : c.K = X.K
  gd : X.A.guards = some []
  hr : Room k X.A
  calm : X.calm = true
  nx : c.ex = none
theorem Cf.mono {j k : Nat} {X : Cx} {c : RC} (h : Cf k X c) (l : j ≤ k) : Cf j X c := ⟨h.kk, h.gd, h.hr.mono l, h.calm, h.nx⟩
/-- the error that is handled lies among the pins -/
def PxOk (X : Cx) (c : RC) : Prop := ∀ a k dd, c.ex = some (a, k, dd) → ∃ oe vs, (a, oe) ∈ X.pn ∧ oe.cls = .ref (c.cl k) ∧ oe.dict = dd ∧ oe.data = .fields vs
/-- what a rule asks that serves in an except suite, too -/
structure Cq (X : Cx) (c : RC) : Prop where
  kk : c.K = X.K
  un : X.A.units + 64 < cLine
  px : PxOk X c
theorem Cf.q {k : Nat} {X : Cx} {c : RC} (h : Cf k X c) : Cq X c := ⟨h.kk, h.hr.units, fun a k dd e => by rw [h.nx] at e; cases e⟩
theorem sz {n : Nat} (h : n ≤ 16777216) : n ≤ sizeLine := by rw [sizeLine_eq]; exact h
theorem sz' {n : Nat} (h : n ≤ sizeLine) : n ≤ 16777216 := by rw [sizeLine_eq] at h; exact h

section
variable {c : RC} {g : Wd} {S : Sto} {Z H : Hp} {d : D} {v : V}
theorem seq_ok (s : SimH c g S Z H) (r : Rep c g d v) {xs : List D} (e : d.seq S = some xs) : ∃ a vs, v = .ref a ∧ SqL c.K H a vs ∧ RepL c g xs vs := by
  cases d with
  | lst ys =>
    cases e
    rw [Rep] at r
    obtain ⟨a, vs, rfl, q, p⟩ := r
    exact ⟨a, vs, rfl, s.gk.lst q, p⟩
  | loc n =>
    simp only [D.seq] at e
    split at e
    · rename_i ys hn
      cases e
      rw [Rep] at r
      obtain ⟨a, rfl, ha⟩ := r
      obtain ⟨_, _, _, vs, q, p⟩ := s.cell n a _ ha hn
      exact ⟨a, vs, rfl, SqL.of q, p⟩
    · cases e
  | _ => cases e
theorem tup_ok (s : SimH c g S Z H) {xs : List D} (r : Rep c g (.tup xs) v) : ∃ a vs, v = .ref a ∧ SqT c.K H a vs ∧ RepL c g xs vs := by
  rw [Rep] at r
  obtain ⟨a, vs, rfl, q, p⟩ := r
  exact ⟨a, vs, rfl, s.gk.tup q, p⟩
theorem sq_ok (s : SimH c g S Z H) (r : Rep c g d v) {xs : List D} (e : d.sq S = some xs) : ∃ a vs, v = .ref a ∧ (SqL c.K H a vs ∨ SqT c.K H a vs) ∧ RepL c g xs vs := by
  have other : d.seq S = some xs → ∃ a vs, v = .ref a ∧ (SqL c.K H a vs ∨ SqT c.K H a vs) ∧ RepL c g xs vs := fun e => by
    obtain ⟨a, vs, h1, h2, h3⟩ := seq_ok s r e
    exact ⟨a, vs, h1, .inl h2, h3⟩
  cases d with
  | tup ys =>
    cases e
    obtain ⟨a, vs, h1, h2, h3⟩ := tup_ok s r
    exact ⟨a, vs, h1, .inr h2, h3⟩
  | _ => exact other e
theorem Rep.int_inv {i : Int} (r : Rep c g (.int i) v) : v = .int i := by rwa [Rep] at r
theorem Rep.str_inv {i : Str} (r : Rep c g (.str i) v) : v = .str i := by rwa [Rep] at r
theorem Rep.bl_inv {i : Bool} (r : Rep c g (.bl i) v) : v = .bl i := by rwa [Rep] at r
theorem Rep.non_inv (r : Rep c g .non v) : v = .non := by rwa [Rep] at r
theorem Rep.int {i : Int} : Rep c g (.int i) (.int i) := by rw [Rep]
theorem Rep.str {i : Str} : Rep c g (.str i) (.str i) := by rw [Rep]
theorem Rep.bl {i : Bool} : Rep c g (.bl i) (.bl i) := by rw [Rep]
theorem Rep.non : Rep c g .non .non := by rw [Rep]
/-- a new tuple, a new list that stands -/
theorem tup_new (s : SimH c g S Z H) {xs : List D} {vs : List V} (r : RepL c g xs vs) {p : Addr} (hp : H p = none) {Q : VK} {E : XK} (q : Post c (Rep c) g Z (.ok (.tup xs) S) Q E) : Q (.ref p) (upd H p (.tup vs)) := by
  obtain ⟨le, s'⟩ := s.new hp (.tup vs)
  refine q _ _ _ le s' ?_
  rw [Rep]
  exact ⟨p, vs, rfl, .inl (.inl upd_same), RepL.up le r⟩
theorem lst_new (s : SimH c g S Z H) {xs : List D} {vs : List V} (r : RepL c g xs vs) {p : Addr} (hp : H p = none) {Q : VK} {E : XK} (q : Post c (Rep c) g Z (.ok (.lst xs) S) Q E) : Q (.ref p) (upd H p (.lst vs)) := by
  obtain ⟨le, s'⟩ := s.new hp (.lst vs)
  refine q _ _ _ le s' ?_
  rw [Rep]
  exact ⟨p, vs, rfl, .inl (.inl upd_same), RepL.up le r⟩
theorem lst_newC (s : SimH c g S Z H) {xs : List D} {vs : List V} (r : RepL c g xs vs) (hc : D.cleanL xs = true) {p : Addr} (hp : H p = none) {Q : VK} {E : XK} (q : Post c (Rep c) g Z (.ok (.loc S.length) (S ++ [.lst xs])) Q E) : Q (.ref p) (upd H p (.lst vs)) := by
  have le0 : g.le ⟨g.G, g.ι ++ [p]⟩ := ⟨fun _ _ e => e, ⟨[p], rfl⟩⟩
  obtain ⟨le, s'⟩ := s.newCell (o := .lst vs) (u := .lst xs) hp ⟨hc, vs, upd_same, RepL.up le0 r⟩
  refine q _ _ _ le s' ?_
  rw [Rep]
  exact ⟨p, rfl, by rw [← s.len]; simp⟩
end

/-! ### the rules -/
section
variable {X : Cx} {c : RC} {W : WX} {a b e : Expr} {ma mb : ME} {ta tb : MT} {pos : Pos} {k : Nat}
theorem ce_var {i : Nat} {x : Str} (hN : X.N[i]? = some x) (hv : Vis X.env.scope x) (hd : (x == ("__debug__" : Str)) = false := by decide) (hcd : (x == ("__classdict__" : Str)) = false := by decide) : CE X c W (.Name x pos) (mVar i) :=
  weakE (pe_var hN hv hd hcd) fun σ H Q ⟨g, Z, δ, S, s, sl, q⟩ => by
    unfold mVar at q
    split at q
    · rename_i d hd
      obtain ⟨v, h1, h2⟩ := sl.2 i d hd
      exact ⟨v, h1, q g v H (.refl g) s h2⟩
    · exact q.elim
theorem ce_v {i : Nat} {x : Str} (hN : X.N[i]? = some x := by rfl) (hv : Vis X.env.scope x := by first | exact .inl rfl | exact .inr (.inl rfl) | exact .inr (.inr rfl)) (hd : (x == ("__debug__" : Str)) = false := by decide) (hcd : (x == ("__classdict__" : Str)) = false := by decide) :
    CE X c W (.Name x pos) (mVar i) := ce_var hN hv hd hcd
theorem ce_int {i j} : CE X c W (.Constant (.int i) j pos) (mC (.int i)) := weakE pe_int fun σ H Q ⟨g, Z, δ, S, s, sl, q⟩ => q g _ H (.refl g) s Rep.int
theorem ce_bl {i j} : CE X c W (.Constant (.bool i) j pos) (mC (.bl i)) := weakE pe_bl fun σ H Q ⟨g, Z, δ, S, s, sl, q⟩ => q g _ H (.refl g) s Rep.bl
theorem ce_non {j} : CE X c W (.Constant .none j pos) (mC .non) := weakE pe_non fun σ H Q ⟨g, Z, δ, S, s, sl, q⟩ => q g _ H (.refl g) s Rep.non
theorem ce_str {i j} : CE X c W (.Constant (.str i) j pos) (mC (.str i)) := weakE pe_str fun σ H Q ⟨g, Z, δ, S, s, sl, q⟩ => q g _ H (.refl g) s Rep.str
/-- a module's name that is a number or a text -/
theorem ce_globI {x : Str} {i : Int} {u : Value} (hg : Gl X x) (hm : X.mg x = some u) (r : RelV (.int i) u) (hd : (x == ("__debug__" : Str)) = false := by decide) : CE X c W (.Name x pos) (mC (.int i)) :=
  weakE (pe_glob hg hm r hd) fun σ H Q ⟨g, Z, δ, S, s, sl, q⟩ => q g _ H (.refl g) s Rep.int
theorem ce_globS {x : Str} {i : Str} {u : Value} (hg : Gl X x) (hm : X.mg x = some u) (r : RelV (.str i) u) (hd : (x == ("__debug__" : Str)) = false := by decide) : CE X c W (.Name x pos) (mC (.str i)) :=
  weakE (pe_glob hg hm r hd) fun σ H Q ⟨g, Z, δ, S, s, sl, q⟩ => q g _ H (.refl g) s Rep.str

/-- an operation on values and its mirror -/
def OpD (c : RC) (r : R2) (f : D → D → Sto → R D) : Prop := ∀ (g : Wd) (Z : Hp) (S : Sto) (H : Hp) (x y : D) (v w : V) (Q : VK) (E : XK), SimH c g S Z H → Rep c g x v → Rep c g y w → Post c (Rep c) g Z (f x y S) Q E → r v w H Q
def UnD (c : RC) (r : V → Hp → VK → Prop) (f : D → Sto → R D) : Prop := ∀ (g : Wd) (Z : Hp) (S : Sto) (H : Hp) (x : D) (v : V) (Q : VK) (E : XK), SimH c g S Z H → Rep c g x v → Post c (Rep c) g Z (f x S) Q E → r v H Q
def ClD (c : RC) (r : List V → Hp → VK → Prop) (f : List D → Sto → R D) : Prop := ∀ (g : Wd) (Z : Hp) (S : Sto) (H : Hp) (x : List D) (v : List V) (Q : VK) (E : XK), SimH c g S Z H → RepL c g x v → Post c (Rep c) g Z (f x S) Q E → r v H Q
theorem op2 {r : R2} {f : D → D → Sto → R D} (hf : OpD c r f) {σ : L2.St} {H : Hp} {Q : VK} (h : eM c W (mBin f ma mb) σ H Q) : tOp r (eM c W ma) (eM c W mb) σ H Q := by
  obtain ⟨g, Z, δ, S, s, sl, q⟩ := h
  exact ⟨g, Z, δ, S, s, sl, Post.bind q fun x S1 g1 v H1 _ le1 s1 r1 q1 => ⟨g1, Z, δ, S1, s1, sl.up le1, Post.bind q1 fun y S2 g2 w H2 _ le2 s2 r2 q2 => hf g2 Z S2 H2 x y v w Q _ s2 (Rep.up le2 r1) r2 q2⟩⟩
theorem ce_op {op : Operator} {r : R2} {f : D → D → Sto → R D} (ho : OpR X (binaryOp op) r) (hf : OpD c r f) (ha : CE X c W a ma) (hb : CE X c W b mb) : CE X c W (.BinOp a op b pos) (mBin f ma mb) := weakE (pe_op ho ha hb) fun _ _ _ h => op2 hf h
theorem ce_cmp {op : CmpOp} {r : R2} {f : D → D → Sto → R D} (ho : OpR X (compareOp op) r) (hf : OpD c r f) (ha : CE X c W a ma) (hb : CE X c W b mb) (hm : behindInMarks op b = false := by rfl) : CE X c W (.Compare a [op] [b] pos) (mBin f ma mb) :=
  weakE (pe_cmpR ho ha hb hm) fun _ _ _ h => op2 hf h
/-- a test's value -/
theorem test_of {te : TE} {m : ME} (h : ∀ σ H Q, eM c W m σ H Q → te σ H Q) {σ : L2.St} {H : Hp} {Q : Bool → Hp → Prop} (q : tM c W (mTest m) σ H Q) : te σ H fun x H' => ∃ k, x = .bl k ∧ Q k H' := by
  obtain ⟨g, Z, δ, S, s, sl, q⟩ := q
  refine h _ _ _ ⟨g, Z, δ, S, s, sl, Post.bind q fun x S1 g1 v H1 _ le1 s1 r1 q1 => ?_⟩
  cases x with
  | bl k => exact ⟨k, r1.bl_inv, q1 g1 k H1 (.refl g1) s1 rfl⟩
  | _ => exact q1.elim
theorem ct_cmp {op : CmpOp} {r : R2} {f : D → D → Sto → R D} (ho : OpR X (compareOp op) r) (hf : OpD c r f) (ha : CE X c W a ma) (hb : CE X c W b mb) (hm : behindInMarks op b = false := by rfl) : CT X c W (.Compare a [op] [b] pos) (mTest (mBin f ma mb)) :=
  weakT (pt_cmpR ho ha hb hm) fun _ _ _ h => test_of (fun _ _ _ h => op2 hf h) h
theorem ct_val {m : ME} (h : CE X c W e m) (he : ∀ whole, isTrue e X.env whole = (do let v ← whole; standAt e.pos; holding [v] (truthy v)) := by intro _; rfl) : CT X c W e (mTest m) :=
  weakT (pt_val h he) fun _ _ _ h => test_of (fun _ _ _ h => h) h
theorem ce_un {op : UnaryOp} {r : V → Hp → VK → Prop} {f : D → Sto → R D} (ho : UnR X (unaryOp op) r) (hf : UnD c r f) (ha : CE X c W a ma) : CE X c W (.UnaryOp op a pos) (mUn f ma) :=
  weakE (pe_un ho ha) fun σ H Q ⟨g, Z, δ, S, s, sl, q⟩ => ⟨g, Z, δ, S, s, sl, Post.bind q fun x S1 g1 v H1 _ le1 s1 r1 q1 => hf g1 Z S1 H1 x v Q _ s1 r1 q1⟩
theorem ce_if {t : Expr} {mt : MT} (ht : CT X c W t mt) (ha : CE X c W a ma) (hb : CE X c W b mb) : CE X c W (.IfExp t a b pos) (mIf mt ma mb) :=
  weakE (pe_ifExp ht ha hb) fun σ H Q ⟨g, Z, δ, S, s, sl, q⟩ => ⟨g, Z, δ, S, s, sl, Post.bind q fun x S1 g1 v H1 _ le1 s1 r1 q1 => by
    subst r1
    cases x with
    | true => exact ⟨g1, Z, δ, S1, s1, sl.up le1, q1⟩
    | false => exact ⟨g1, Z, δ, S1, s1, sl.up le1, q1⟩⟩
theorem cw_and1 (ha : CT X c W a ta) : CW X c W (.BoolOp .And [a] pos) ta := pw_and1 ha
theorem cw_or1 (ha : CT X c W a ta) : CW X c W (.BoolOp .Or [a] pos) ta := pw_or1 ha
theorem cw_and {rest : List Expr} (ha : CT X c W a ta) (hb : CW X c W (.BoolOp .And (b :: rest) pos) tb) : CW X c W (.BoolOp .And (a :: b :: rest) pos) (mAnd ta tb) :=
  weakW (pw_and ha hb) fun σ H Q ⟨g, Z, δ, S, s, sl, q⟩ => ⟨g, Z, δ, S, s, sl, Post.bind q fun x S1 g1 v H1 _ le1 s1 r1 q1 => by
    subst r1
    cases x with
    | true => exact ⟨g1, Z, δ, S1, s1, sl.up le1, q1⟩
    | false => exact q1 g1 false H1 (.refl g1) s1 rfl⟩
theorem cw_or {rest : List Expr} (ha : CT X c W a ta) (hb : CW X c W (.BoolOp .Or (b :: rest) pos) tb) : CW X c W (.BoolOp .Or (a :: b :: rest) pos) (mOr ta tb) :=
  weakW (pw_or ha hb) fun σ H Q ⟨g, Z, δ, S, s, sl, q⟩ => ⟨g, Z, δ, S, s, sl, Post.bind q fun x S1 g1 v H1 _ le1 s1 r1 q1 => by
    subst r1
    cases x with
    | true => exact q1 g1 true H1 (.refl g1) s1 rfl
    | false => exact ⟨g1, Z, δ, S1, s1, sl.up le1, q1⟩⟩
theorem ct_bool {op : BoolOp} {es : List Expr} {t : MT} (h : CW X c W (.BoolOp op es pos) t) : CT X c W (.BoolOp op es pos) t := PW.pt h
theorem ct_not (ha : CT X c W a ta) : CT X c W (.UnaryOp .Not a pos) (mNot ta) :=
  weakT (pt_not ha) fun σ H Q ⟨g, Z, δ, S, s, sl, q⟩ => ⟨g, Z, δ, S, s, sl, Post.bind q fun x S1 g1 v H1 _ le1 s1 r1 q1 => by
    subst r1
    exact q1 g1 (!x) H1 (.refl g1) s1 rfl⟩
/-- and, or as values, every part a truth value -/
theorem ce_one {op : BoolOp} (h : CE X c W a ma) : CE X c W (.BoolOp op [a] pos) (mVal (mTest ma)) := weakE (pe_one h) fun σ H Q ⟨g, Z, δ, S, s, sl, q⟩ => ⟨g, Z, δ, S, s, sl, by
  unfold mVal mTest at q
  cases e1 : ma δ S with
  | ok x S1 =>
    rw [e1] at q
    cases x with
    | bl k => exact q
    | _ => exact q.elim
  | exc k vs S1 =>
    rw [e1] at q
    exact q
  | bad =>
    rw [e1] at q
    exact q⟩
theorem ce_and {rest : List Expr} (ha : CE X c W a ma) (hb : CE X c W (.BoolOp .And (b :: rest) pos) (mVal tb)) : CE X c W (.BoolOp .And (a :: b :: rest) pos) (mVal (mAnd (mTest ma) tb)) :=
  weakE (pe_and ha hb) fun σ H Q ⟨g, Z, δ, S, s, sl, q⟩ => ⟨g, Z, δ, S, s, sl, by
    have q' : Post c (Rep c) g Z ((ma δ S).bind fun x S1 => match x with | .bl true => mVal tb δ S1 | .bl false => .ok (.bl false) S1 | _ => .bad) Q (fun k d H' => W k d σ H') := by
      unfold mVal mAnd mTest at q
      cases e1 : ma δ S with
      | ok x S1 =>
        rw [e1] at q
        cases x with
        | bl k =>
          cases k with
          | true => exact q
          | false => exact q
        | _ => exact q
      | exc k vs S1 =>
        rw [e1] at q
        exact q
      | bad =>
        rw [e1] at q
        exact q
    refine Post.bind q' fun x S1 g1 v H1 _ le1 s1 r1 q1 => ?_
    cases x with
    | bl k =>
      refine ⟨k, r1.bl_inv, ?_⟩
      cases k with
      | true => exact ⟨g1, Z, δ, S1, s1, sl.up le1, q1⟩
      | false => exact q1 g1 _ H1 (.refl g1) s1 Rep.bl
    | _ => exact q1.elim⟩
theorem ce_or {rest : List Expr} (ha : CE X c W a ma) (hb : CE X c W (.BoolOp .Or (b :: rest) pos) (mVal tb)) : CE X c W (.BoolOp .Or (a :: b :: rest) pos) (mVal (mOr (mTest ma) tb)) :=
  weakE (pe_or ha hb) fun σ H Q ⟨g, Z, δ, S, s, sl, q⟩ => ⟨g, Z, δ, S, s, sl, by
    have q' : Post c (Rep c) g Z ((ma δ S).bind fun x S1 => match x with | .bl false => mVal tb δ S1 | .bl true => .ok (.bl true) S1 | _ => .bad) Q (fun k d H' => W k d σ H') := by
      unfold mVal mOr mTest at q
      cases e1 : ma δ S with
      | ok x S1 =>
        rw [e1] at q
        cases x with
        | bl k =>
          cases k with
          | true => exact q
          | false => exact q
        | _ => exact q
      | exc k vs S1 =>
        rw [e1] at q
        exact q
      | bad =>
        rw [e1] at q
        exact q
    refine Post.bind q' fun x S1 g1 v H1 _ le1 s1 r1 q1 => ?_
    cases x with
    | bl k =>
      refine ⟨k, r1.bl_inv, ?_⟩
      cases k with
      | false => exact ⟨g1, Z, δ, S1, s1, sl.up le1, q1⟩
      | true => exact q1 g1 _ H1 (.refl g1) s1 Rep.bl
    | _ => exact q1.elim⟩
theorem ce_not (ha : CE X c W a ma) : CE X c W (.UnaryOp .Not a pos) (mVal (mNot (mTest ma))) :=
  weakE (pe_not ha) fun σ H Q ⟨g, Z, δ, S, s, sl, q⟩ => ⟨g, Z, δ, S, s, sl, by
    have q' : Post c (Rep c) g Z ((ma δ S).bind fun x S1 => match x with | .bl k => .ok (.bl (!k)) S1 | _ => .bad) Q (fun k d H' => W k d σ H') := by
      unfold mVal mNot mTest at q
      cases e1 : ma δ S with
      | ok x S1 =>
        rw [e1] at q
        cases x with
        | bl k => exact q
        | _ => exact q
      | exc k vs S1 =>
        rw [e1] at q
        exact q
      | bad =>
        rw [e1] at q
        exact q
    refine Post.bind q' fun x S1 g1 v H1 _ le1 s1 r1 q1 => ?_
    cases x with
    | bl k => exact ⟨k, r1.bl_inv, q1 g1 _ H1 (.refl g1) s1 Rep.bl⟩
    | _ => exact q1.elim⟩

/-! arguments, displays -/
theorem ca_nil : CA X c W [] mNil := weakA pa_nil fun σ H Q ⟨g, Z, δ, S, s, sl, q⟩ => q g [] H (.refl g) s RepL.nil
theorem ca_cons {es : List Expr} {m : MA} (ha : CE X c W e ma) (hr : CA X c W es m) (hs : starEach (e :: es) X.env = (false, eval e X.env) :: starEach es X.env := by rfl) : CA X c W (e :: es) (mCons ma m) :=
  weakA (pa_cons ha hr hs) fun σ H Q ⟨g, Z, δ, S, s, sl, q⟩ => ⟨g, Z, δ, S, s, sl, Post.bind q fun x S1 g1 v H1 _ le1 s1 r1 q1 => ⟨g1, Z, δ, S1, s1, sl.up le1, Post.bind q1 fun xs S2 g2 vs H2 _ le2 s2 r2 q2 =>
    q2 g2 _ H2 (.refl g2) s2 (RepL.cons (Rep.up le2 r1) r2)⟩⟩
theorem ce_tup {es : List Expr} {m : MA} {x1} (h : CA X c W es m) : CE X c W (.Tuple es x1 pos) (mCall fTup m) :=
  weakE (pe_tup h) fun σ H Q ⟨g, Z, δ, S, s, sl, q⟩ => ⟨g, Z, δ, S, s, sl, Post.bind q fun xs S1 g1 vs H1 _ le1 s1 r1 q1 => by
    unfold fTup at q1
    split at q1
    · rename_i hz
      exact ⟨by rw [r1.length]; exact sz hz, fun p hp => tup_new s1 r1 hp q1⟩
    · exact q1.elim⟩
theorem ce_lst {es : List Expr} {m : MA} (h : CA X c W es m) : CE X c W (.List es pos) (mCall fLst m) :=
  weakE (pe_lst h) fun σ H Q ⟨g, Z, δ, S, s, sl, q⟩ => ⟨g, Z, δ, S, s, sl, Post.bind q fun xs S1 g1 vs H1 _ le1 s1 r1 q1 => by
    unfold fLst at q1
    split at q1
    · rename_i hz
      exact ⟨by rw [r1.length]; exact sz hz, fun p hp => lst_new s1 r1 hp q1⟩
    · exact q1.elim⟩
theorem ce_lstC {es : List Expr} {m : MA} (h : CA X c W es m) : CE X c W (.List es pos) (mCall fLstC m) :=
  weakE (pe_lst h) fun σ H Q ⟨g, Z, δ, S, s, sl, q⟩ => ⟨g, Z, δ, S, s, sl, Post.bind q fun xs S1 g1 vs H1 _ le1 s1 r1 q1 => by
    unfold fLstC at q1
    split at q1
    · rename_i hz
      exact ⟨by rw [r1.length]; exact sz hz.1, fun p hp => lst_newC s1 r1 hz.2 hp q1⟩
    · exact q1.elim⟩
/-- a built-in called by its name -/
theorem ce_callB {x : Str} {p : Pos} {es : List Expr} {m : MA} {id : String} {r : List V → Hp → VK → Prop} {f : List D → Sto → R D} (hc : CallR X (.builtin id) r) (hf : ClD c r f) (hg : Gl X x) (hm : X.mg x = none) (hv : bootBuiltins x = some (.builtin id)) (ha : CA X c W (e :: es) m)
    (hn : x ≠ "__name__" := by decide) (hdb : (x == ("__debug__" : Str)) = false := by decide) (he : starEach (e :: es) X.env = (false, eval e X.env) :: starEach es X.env := by rfl) (hpl : (backTo pos (starEach es X.env)).any (·.1) = false := by rfl) : CE X c W (.Call (.Name x p) (e :: es) [] pos) (mCall f m) :=
  weakE (pe_callB hc hg hm hv ha hn hdb he hpl) fun σ H Q ⟨g, Z, δ, S, s, sl, q⟩ => ⟨g, Z, δ, S, s, sl, Post.bind q fun xs S1 g1 vs H1 _ le1 s1 r1 q1 => hf g1 Z S1 H1 xs vs Q _ s1 r1 q1⟩
theorem ce_callTy {x : Str} {p : Pos} {es : List Expr} {m : MA} {T : String} {r : List V → Hp → VK → Prop} {f : List D → Sto → R D} (hc : CallR X (.type T) r) (hf : ClD c r f) (hg : Gl X x) (hm : X.mg x = none) (hv : bootBuiltins x = some (.type T)) (ha : CA X c W (e :: es) m)
    (hn : x ≠ "__name__" := by decide) (hdb : (x == ("__debug__" : Str)) = false := by decide) (he : starEach (e :: es) X.env = (false, eval e X.env) :: starEach es X.env := by rfl) (hpl : (backTo pos (starEach es X.env)).any (·.1) = false := by rfl) : CE X c W (.Call (.Name x p) (e :: es) [] pos) (mCall f m) :=
  weakE (pe_callTy hc hg hm hv ha hn hdb he hpl) fun σ H Q ⟨g, Z, δ, S, s, sl, q⟩ => ⟨g, Z, δ, S, s, sl, Post.bind q fun xs S1 g1 vs H1 _ le1 s1 r1 q1 => hf g1 Z S1 H1 xs vs Q _ s1 r1 q1⟩
end
end DL

end
section
/-! DL, part c: operations on values, loops, comprehensions, statements. -/
namespace DL
open PySem PySem.Spec PyProof.Rows L2

/-! ### lists joined, whatever they are -/
def rCatS (K : PySem.W.Frag) : R2 := fun x y H Q => ∃ l b xs zs, x = .ref l ∧ y = .ref b ∧ SqL K H l xs ∧ SqL K H b zs ∧ xs.length + zs.length ≤ sizeLine ∧ ∀ p, H p = none → Q (.ref p) (upd H p (.lst (xs ++ zs)))
theorem op_catS {X : Cx} : OpR X (binaryOp .Add) (rCatS X.K) := by
  intro pins s σ H x y v u Q I rx ry h
  obtain ⟨l, b, xs, zs, rfl, rfl, hx, hz, hsz, q⟩ := h
  cases rx
  cases ry
  obtain ⟨its, r, ⟨⟨c1, d1, t1, s1⟩, n1, e1, k1, j1, f1⟩, _⟩ := I.list hx
  obtain ⟨its2, r2, ⟨⟨c2, d2, t2, s2⟩, n2, e2, k2, j2, f2⟩, _⟩ := I.list hz
  simp only at k1 j1 f1 k2 j2 f2
  subst k1 j1 f1 k2 j2 f2
  have ea : its.toArray ++ its2.toArray = (its ++ its2).toArray := by simp
  have hl : its.length + its2.length ≤ sizeLine := by rw [← r.length, ← r2.length]; exact hsz
  refine concat_meets ⟨_, e1, rfl⟩ ⟨_, e2, rfl⟩ noFill_list_add seq_list_add PySem.F.slot_list_add PySem.F.entry_list_add (PySem.F.args_list_add_2 _ _) (list_addW l b its.toArray its2.toArray n1 n2 none none s1 s2 (by simpa using hl)) ⟨e1, e2, ?_⟩
  rw [ea]
  exact ⟨.ref _, _, I.lnew (t' := s.toks) (r.append r2) (by rw [List.length_append]; exact hsz), rfl, q _ I.fresh⟩

/-! ### data as the library has it -/
mutual
def D.py : D → Option PyData
  | .non => some .none
  | .bl b => some (.bool b)
  | .int i => some (.int i)
  | .str s => some (.str s)
  | .lst xs => (D.pyL xs).map .list
  | .tup xs => (D.pyL xs).map .tuple
  | _ => none
def D.pyL : List D → Option (List PyData)
  | [] => some []
  | d :: r => match D.py d, D.pyL r with
    | some p, some ps => some (p :: ps)
    | _, _ => none
end
def D.pyS (S : Sto) : D → Option PyData
  | .loc n => match S[n]? with
    | some (.lst xs) => (D.pyL xs).map .list
    | _ => none
  | d => d.py
section
variable {c : RC} {g : Wd} {S : Sto} {Z H : Hp}
mutual
theorem py_ok (s : SimH c g S Z H) : ∀ {d : D} {v : V} {p : PyData}, Rep c g d v → d.py = some p → Dp c.K H v p
  | .non, v, p, r, e => by cases e; rw [Rep] at r; subst r; exact .non
  | .bl b, v, p, r, e => by cases e; rw [Rep] at r; subst r; exact .bl b
  | .int b, v, p, r, e => by cases e; rw [Rep] at r; subst r; exact .int b
  | .str b, v, p, r, e => by cases e; rw [Rep] at r; subst r; exact .str b
  | .lst xs, v, p, r, e => by
    rw [D.py] at e
    obtain ⟨ps, e1, rfl⟩ := Option.map_eq_some_iff.mp e
    rw [Rep] at r
    obtain ⟨a, vs, rfl, q, rs⟩ := r
    exact .lst (s.gk.lst q) (pyL_ok s rs e1)
  | .tup xs, v, p, r, e => by
    rw [D.py] at e
    obtain ⟨ps, e1, rfl⟩ := Option.map_eq_some_iff.mp e
    rw [Rep] at r
    obtain ⟨a, vs, rfl, q, rs⟩ := r
    exact .tup (s.gk.tup q) (pyL_ok s rs e1)
  | .dic _ _, _, _, _, e => by cases e
  | .ins _ _, _, _, _, e => by cases e
  | .exv _ _, _, _, _, e => by cases e
  | .loc _, _, _, _, e => by cases e
  | .glb _, _, _, _, e => by cases e
  | .cls _, _, _, _, e => by cases e
theorem pyL_ok (s : SimH c g S Z H) : ∀ {ds : List D} {vs : List V} {ps : List PyData}, RepL c g ds vs → D.pyL ds = some ps → DpAll c.K H vs ps
  | [], vs, ps, r, e => by
    rw [D.pyL] at e
    cases e
    rw [RepL] at r
    subst r
    exact .nil
  | d :: ds, vs, ps, r, e => by
    rw [D.pyL] at e
    rw [RepL] at r
    obtain ⟨v, r', rfl, r1, r2⟩ := r
    cases h1 : D.py d with
    | none => rw [h1] at e; cases e
    | some p =>
      cases h2 : D.pyL ds with
      | none => rw [h1, h2] at e; cases e
      | some qs =>
        rw [h1, h2] at e
        cases e
        exact .cons (py_ok s r1 h1) (pyL_ok s r2 h2)
end
theorem pyS_ok (s : SimH c g S Z H) {d : D} {v : V} {p : PyData} (r : Rep c g d v) (e : d.pyS S = some p) : Dp c.K H v p := by
  cases d with
  | loc n =>
    simp only [D.pyS] at e
    split at e
    · rename_i xs hn
      obtain ⟨ps, e1, rfl⟩ := Option.map_eq_some_iff.mp e
      rw [Rep] at r
      obtain ⟨a, rfl, ha⟩ := r
      obtain ⟨_, _, _, vs, q, rs⟩ := s.cell n a _ ha hn
      exact .lst (SqL.of q) (pyL_ok s rs e1)
    · cases e
  | _ => exact py_ok s r e
end
def fEqT (x y : D) (S : Sto) : R D := match x.pyS S, y.pyS S with
  | some p, some q => if SeqAt.shaped p = true ∧ SeqAt.shaped q = true then .ok (.bl (PyData.eqv p q)) S else .bad
  | _, _ => .bad
def fNeT (x y : D) (S : Sto) : R D := match x.pyS S, y.pyS S with
  | some p, some q => if SeqAt.shaped p = true ∧ SeqAt.shaped q = true then .ok (.bl (!PyData.eqv p q)) S else .bad
  | _, _ => .bad
def fEq (x y : D) (S : Sto) : R D := match x, y with
  | .str a, .str b => .ok (.bl (decide (a = b))) S
  | .int a, .int b => .ok (.bl (decide (a = b))) S
  | .non, .non => .ok (.bl true) S
  | x, y => fEqT x y S
def fNe (x y : D) (S : Sto) : R D := match x, y with
  | .str a, .str b => .ok (.bl (!decide (a = b))) S
  | .int a, .int b => .ok (.bl (!decide (a = b))) S
  | .non, .non => .ok (.bl false) S
  | x, y => fNeT x y S

/-! ### flat things in a list -/
def D.flat : D → Bool
  | .non | .bl _ | .int _ | .str _ => true
  | _ => false
def D.v0 : D → V
  | .bl b => .bl b
  | .int i => .int i
  | .str s => .str s
  | _ => .non
def inD (x : D) (ys : List D) : Bool := ys.any fun y => eqV y.v0 x.v0
theorem Rep.flat_inv {c : RC} {g : Wd} {d : D} {v : V} (r : Rep c g d v) (h : d.flat = true) : v = d.v0 ∧ flatV v = true := by
  cases d with
  | non => rw [Rep] at r; subst r; exact ⟨rfl, rfl⟩
  | bl b => rw [Rep] at r; subst r; exact ⟨rfl, rfl⟩
  | int b => rw [Rep] at r; subst r; exact ⟨rfl, rfl⟩
  | str b => rw [Rep] at r; subst r; exact ⟨rfl, rfl⟩
  | _ => cases h
theorem RepL.flat_inv {c : RC} {g : Wd} : ∀ {ds : List D} {vs : List V}, RepL c g ds vs → ds.all D.flat = true → vs = ds.map D.v0 ∧ vs.all flatV = true
  | [], vs, r, _ => by rw [RepL] at r; subst r; exact ⟨rfl, rfl⟩
  | d :: ds, vs, r, h => by
    rw [RepL] at r
    obtain ⟨v, r', rfl, r1, r2⟩ := r
    rw [List.all_cons, Bool.and_eq_true] at h
    obtain ⟨e1, f1⟩ := r1.flat_inv h.1
    obtain ⟨e2, f2⟩ := RepL.flat_inv r2 h.2
    exact ⟨by rw [e1, e2]; rfl, by rw [List.all_cons, f1, f2]; rfl⟩
def fIn (neg : Bool) (x y : D) (S : Sto) : R D := match y with
  | .str z => (match x with
    | .str w => (match w.cps.toList with
      | [k] => .ok (.bl (if neg then !decide (k ∈ z.cps.toList) else decide (k ∈ z.cps.toList))) S
      | _ => .bad)
    | _ => .bad)
  | y => match y.sq S with
    | some ys => if x.flat = true ∧ ys.all D.flat = true then .ok (.bl (if neg then !inD x ys else inD x ys)) S else .bad
    | none => .bad

/-! ### what they are worth -/
section
variable {X : Cx} {c : RC} {k : Nat}
abbrev rAddU (K : PySem.W.Frag) : R2 := fun x y H Q => (rI0 fun i j => .int (i + j)) x y H Q ∨ (∃ i j, x = .str i ∧ y = .str j ∧ i.length + j.length ≤ sizeLine ∧ Q (.str (i ++ j)) H) ∨ rCatA K x y H Q ∨ rCatS K x y H Q
theorem or_add (cf : Cf k X c) : OpR X (binaryOp .Add) (rAddU c.K) := by
  rw [cf.kk]
  exact op_add.or (op_add_str.or (op_catA.or op_catS))
theorem od_add : OpD c (rAddU c.K) fAdd := by
  intro g Z S H x y v w Q E s rx ry q
  have other : (match x.seq S, y.seq S with
    | some xs, some ys => if xs.length + ys.length ≤ 16777216 then R.ok (D.lst (xs ++ ys)) S else .bad
    | _, _ => .bad) = fAdd x y S → rAddU c.K v w H Q := fun e => by
    rw [← e] at q
    split at q
    · rename_i xs ys h1 h2
      split at q
      · rename_i hz
        obtain ⟨a, vs, rfl, l1, r1⟩ := seq_ok s rx h1
        obtain ⟨b, ws, rfl, l2, r2⟩ := seq_ok s ry h2
        exact .inr (.inr (.inr ⟨a, b, vs, ws, rfl, rfl, l1, l2, by rw [r1.length, r2.length]; exact sz hz, fun p hp => lst_new s (r1.app r2) hp q⟩))
      · exact q.elim
    · exact q.elim
  cases x with
  | int i =>
    cases y with
    | int j => exact .inl ⟨i, j, rx.int_inv, ry.int_inv, q g _ H (.refl g) s Rep.int⟩
    | _ => exact other rfl
  | str i =>
    cases y with
    | str j =>
      simp only [fAdd] at q
      split at q
      · rename_i hz
        exact .inr (.inl ⟨i, j, rx.str_inv, ry.str_inv, sz hz, q g _ H (.refl g) s Rep.str⟩)
      · exact q.elim
    | _ => exact other rfl
  | tup xs =>
    cases y with
    | tup ys =>
      simp only [fAdd] at q
      split at q
      · rename_i hz
        obtain ⟨a, vs, rfl, l1, r1⟩ := tup_ok s rx
        obtain ⟨b, ws, rfl, l2, r2⟩ := tup_ok s ry
        refine .inr (.inr (.inl ⟨a, b, vs, ws, rfl, rfl, l1, l2, by rw [r1.length, r2.length]; exact sz hz, fun e => ?_, fun _ e => ?_, fun _ _ p hp => tup_new s (r1.app r2) hp q⟩))
        · subst e
          have e0 : xs = [] := List.eq_nil_of_length_eq_zero (by rw [← r1.length] <;> rfl)
          subst e0
          exact q g _ H (.refl g) s ry
        · subst e
          have e0 : ys = [] := List.eq_nil_of_length_eq_zero (by rw [← r2.length] <;> rfl)
          subst e0
          rw [List.append_nil] at q
          exact q g _ H (.refl g) s rx
      · exact q.elim
    | _ => exact other rfl
  | _ =>
    cases y <;> exact other rfl
theorem od_int {C : Int → Int → Prop} {gi : Int → Int → V} {f : D → D → Sto → R D} (hf : ∀ x y S, (∃ i j, x = .int i ∧ y = .int j ∧ ∃ d, f x y S = .ok d S ∧ C i j ∧ ∀ c g, Rep c g d (gi i j)) ∨ f x y S = .bad) : OpD c (rI C gi) f := by
  intro g Z S H x y v w Q E s rx ry q
  rcases hf x y S with ⟨i, j, rfl, rfl, d, e, hc, hr⟩ | e
  · rw [e] at q
    exact ⟨i, j, rx.int_inv, ry.int_inv, hc, q g _ H (.refl g) s (hr c g)⟩
  · rw [e] at q
    exact q.elim
theorem od_sub : OpD c (rI0 fun i j => .int (i - j)) fSub := by
  intro g Z S H x y v w Q E s rx ry q
  unfold fSub at q
  split at q
  · exact ⟨_, _, rx.int_inv, ry.int_inv, q g _ H (.refl g) s Rep.int⟩
  · exact q.elim
theorem od_mul : OpD c (rI CMul fun i j => .int (i * j)) fMul := by
  intro g Z S H x y v w Q E s rx ry q
  unfold fMul at q
  split at q
  · split at q
    · rename_i hc
      exact ⟨_, _, rx.int_inv, ry.int_inv, hc, q g _ H (.refl g) s Rep.int⟩
    · exact q.elim
  · exact q.elim
theorem log_small {j : Int} (h0 : 0 < j) (h : j < 2 ^ 200) : j.natAbs.log2 < 9000 := by
  have h1 : j.natAbs ≠ 0 := by omega
  have h2 : j.natAbs < 2 ^ 9000 := by
    have : (j.natAbs : Int) = j := by omega
    have h3 : (j.natAbs : Int) < 2 ^ 200 := by rw [this]; exact h
    have h4 : j.natAbs < 2 ^ 200 := by exact_mod_cast h3
    exact Nat.lt_of_lt_of_le h4 (Nat.pow_le_pow_right (by decide) (by decide))
  exact (Nat.log2_lt h1).mpr h2
theorem od_div : OpD c (rI CDivW fun i j => .int (i / j)) fDiv := by
  intro g Z S H x y v w Q E s rx ry q
  unfold fDiv at q
  split at q
  · split at q
    · rename_i hc
      exact ⟨_, _, rx.int_inv, ry.int_inv, ⟨hc.1, log_small hc.1 hc.2⟩, q g _ H (.refl g) s Rep.int⟩
    · exact q.elim
  · exact q.elim
theorem od_mod : OpD c (rI (fun _ j => 0 < j) fun i j => .int (i % j)) fMod := by
  intro g Z S H x y v w Q E s rx ry q
  unfold fMod at q
  split at q
  · split at q
    · rename_i hc
      exact ⟨_, _, rx.int_inv, ry.int_inv, hc, q g _ H (.refl g) s Rep.int⟩
    · exact q.elim
  · exact q.elim
theorem od_pow : OpD c (rI CPow fun i j => .int (i ^ j.toNat)) fPow := by
  intro g Z S H x y v w Q E s rx ry q
  unfold fPow at q
  split at q
  · split at q
    · rename_i hc
      exact ⟨_, _, rx.int_inv, ry.int_inv, hc, q g _ H (.refl g) s Rep.int⟩
    · exact q.elim
  · exact q.elim
theorem ud_neg : UnD c (rU fun i => .int (-i)) fNeg := by
  intro g Z S H x v Q E s rx q
  unfold fNeg at q
  split at q
  · exact ⟨_, rx.int_inv, q g _ H (.refl g) s Rep.int⟩
  · exact q.elim
theorem od_lt : OpD c (rI0 fun i j => .bl (decide (i < j))) fLt := by
  intro g Z S H x y v w Q E s rx ry q
  unfold fLt at q
  split at q
  · exact ⟨_, _, rx.int_inv, ry.int_inv, q g _ H (.refl g) s Rep.bl⟩
  · exact q.elim
theorem od_gt : OpD c (rI0 fun i j => .bl (decide (j < i))) fGt := by
  intro g Z S H x y v w Q E s rx ry q
  unfold fGt at q
  split at q
  · exact ⟨_, _, rx.int_inv, ry.int_inv, q g _ H (.refl g) s Rep.bl⟩
  · exact q.elim
theorem od_ge : OpD c (rI0 fun i j => .bl (decide (j ≤ i))) fGe := by
  intro g Z S H x y v w Q E s rx ry q
  unfold fGe at q
  split at q
  · exact ⟨_, _, rx.int_inv, ry.int_inv, q g _ H (.refl g) s Rep.bl⟩
  · exact q.elim
abbrev rLeU : R2 := fun x y H Q => (rI0 fun i j => .bl (decide (i ≤ j))) x y H Q ∨ (∃ i j, x = .str i ∧ y = .str j ∧ Q (.bl (!decide (j.cps.toList < i.cps.toList))) H)
theorem or_le : OpR X (compareOp .LtE) rLeU := op_le.or op_le_str
theorem od_le : OpD c rLeU fLe := by
  intro g Z S H x y v w Q E s rx ry q
  unfold fLe at q
  split at q
  · exact .inl ⟨_, _, rx.int_inv, ry.int_inv, q g _ H (.refl g) s Rep.bl⟩
  · exact .inr ⟨_, _, rx.str_inv, ry.str_inv, q g _ H (.refl g) s Rep.bl⟩
  · exact q.elim
theorem isN_ok {g : Wd} {d : D} {v : V} {b : Bool} (r : Rep c g d v) (e : d.isN = some b) : decide (v = .non) = b := by
  cases d with
  | non => cases e; rw [r.non_inv]; rfl
  | bl b => cases e; rw [r.bl_inv]; rfl
  | int b => cases e; rw [r.int_inv]; rfl
  | str b => cases e; rw [r.str_inv]; rfl
  | glb b => cases e
  | cls b => cases e
  | lst xs => cases e; rw [Rep] at r; obtain ⟨a, vs, rfl, _⟩ := r; rfl
  | tup xs => cases e; rw [Rep] at r; obtain ⟨a, vs, rfl, _⟩ := r; rfl
  | dic ks xs => cases e; rw [Rep] at r; obtain ⟨a, vs, rfl, _⟩ := r; rfl
  | ins j xs => cases e; rw [Rep] at r; obtain ⟨a, dx, fs, vs, rfl, _⟩ := r; rfl
  | exv j xs => cases e; rw [Rep] at r; obtain ⟨a, vs, rfl, _⟩ := r; rfl
  | loc n => cases e; rw [Rep] at r; obtain ⟨a, rfl, _⟩ := r; rfl
def fIsN2 (x y : D) (S : Sto) : R D := match y with
  | .non => fIsN x S
  | _ => .bad
def fNotN2 (x y : D) (S : Sto) : R D := match y with
  | .non => fNotN x S
  | _ => .bad
theorem od_isN : OpD c (fun x y H Q => y = .non ∧ Q (.bl (decide (x = .non))) H) fIsN2 := by
  intro g Z S H x y v w Q E s rx ry q
  unfold fIsN2 at q
  split at q
  · unfold fIsN at q
    split at q
    · rename_i b hb
      exact ⟨ry.non_inv, by rw [isN_ok rx hb]; exact q g _ H (.refl g) s Rep.bl⟩
    · exact q.elim
  · exact q.elim
theorem od_notN : OpD c (fun x y H Q => y = .non ∧ Q (.bl (!decide (x = .non))) H) fNotN2 := by
  intro g Z S H x y v w Q E s rx ry q
  unfold fNotN2 at q
  split at q
  · unfold fNotN at q
    split at q
    · rename_i b hb
      exact ⟨ry.non_inv, by rw [isN_ok rx hb]; exact q g _ H (.refl g) s Rep.bl⟩
    · exact q.elim
  · exact q.elim
abbrev rEqU (K : PySem.W.Frag) : R2 := fun x y H Q => rEqD K x y H Q ∨ rEq x y H Q
abbrev rNeU (K : PySem.W.Frag) : R2 := fun x y H Q => rNeD K x y H Q ∨ rNe x y H Q
theorem or_eq (cf : Cq X c) : OpR X (compareOp .Eq) (rEqU c.K) := by rw [cf.kk]; exact (op_eqD cf.un).or op_eq
theorem or_ne (cf : Cq X c) : OpR X (compareOp .NotEq) (rNeU c.K) := by rw [cf.kk]; exact (op_neD cf.un).or op_ne
theorem od_eqT : OpD c (rEqD c.K) fEqT := by
  intro g Z S H x y v w Q E s rx ry q
  unfold fEqT at q
  split at q
  · rename_i a b h1 h2
    split at q
    · rename_i hs
      exact ⟨a, b, pyS_ok s rx h1, pyS_ok s ry h2, hs.1, hs.2, q g _ H (.refl g) s Rep.bl⟩
    · exact q.elim
  · exact q.elim
theorem od_neT : OpD c (rNeD c.K) fNeT := by
  intro g Z S H x y v w Q E s rx ry q
  unfold fNeT at q
  split at q
  · rename_i a b h1 h2
    split at q
    · rename_i hs
      exact ⟨a, b, pyS_ok s rx h1, pyS_ok s ry h2, hs.1, hs.2, q g _ H (.refl g) s Rep.bl⟩
    · exact q.elim
  · exact q.elim
theorem od_eq : OpD c (rEqU c.K) fEq := by
  intro g Z S H x y v w Q E s rx ry q
  unfold fEq at q
  split at q
  · rename_i a b
    rw [rx.str_inv, ry.str_inv]
    have e : decide (V.str a = V.str b) = decide (a = b) := by by_cases h : a = b <;> simp [h]
    exact .inr ⟨rfl, by rw [e]; exact q g _ H (.refl g) s Rep.bl⟩
  · rename_i a b
    rw [rx.int_inv, ry.int_inv]
    have e : decide (V.int a = V.int b) = decide (a = b) := by by_cases h : a = b <;> simp [h]
    exact .inr ⟨rfl, by rw [e]; exact q g _ H (.refl g) s Rep.bl⟩
  · rw [rx.non_inv, ry.non_inv]
    exact .inr ⟨rfl, q g _ H (.refl g) s Rep.bl⟩
  · exact .inl (od_eqT g Z S H _ _ v w Q E s rx ry q)
theorem od_ne : OpD c (rNeU c.K) fNe := by
  intro g Z S H x y v w Q E s rx ry q
  unfold fNe at q
  split at q
  · rename_i a b
    rw [rx.str_inv, ry.str_inv]
    have e : decide (V.str a = V.str b) = decide (a = b) := by by_cases h : a = b <;> simp [h]
    exact .inr ⟨rfl, by rw [e]; exact q g _ H (.refl g) s Rep.bl⟩
  · rename_i a b
    rw [rx.int_inv, ry.int_inv]
    have e : decide (V.int a = V.int b) = decide (a = b) := by by_cases h : a = b <;> simp [h]
    exact .inr ⟨rfl, by rw [e]; exact q g _ H (.refl g) s Rep.bl⟩
  · rw [rx.non_inv, ry.non_inv]
    exact .inr ⟨rfl, q g _ H (.refl g) s Rep.bl⟩
  · exact .inl (od_neT g Z S H _ _ v w Q E s rx ry q)
abbrev rInU (K : PySem.W.Frag) (neg : Bool) : R2 := fun x y H Q => rIn K neg x y H Q ∨ (∃ (k : Nat) (z : Str), x = .str ⟨#[k]⟩ ∧ y = .str z ∧ Q (.bl (if neg then !decide (k ∈ z.cps.toList) else decide (k ∈ z.cps.toList))) H)
theorem or_in (cf : Cf k X c) : OpR X (compareOp .In) (rInU c.K false) := by
  rw [cf.kk]
  exact op_in_seq.or op_in_sign
theorem or_notIn (cf : Cf k X c) : OpR X (compareOp .NotIn) (rInU c.K true) := by
  rw [cf.kk]
  exact op_notIn_seq.or op_notIn_sign
theorem od_in (neg : Bool) : OpD c (rInU c.K neg) (fIn neg) := by
  intro g Z S H x y v w Q E s rx ry q
  have other : (match y.sq S with
    | some ys => if x.flat = true ∧ ys.all D.flat = true then R.ok (D.bl (if neg then !inD x ys else inD x ys)) S else .bad
    | none => .bad) = fIn neg x y S → rInU c.K neg v w H Q := fun e => by
    rw [← e] at q
    split at q
    · rename_i ys h1
      split at q
      · rename_i hf
        obtain ⟨a, vs, rfl, l1, r1⟩ := sq_ok s ry h1
        obtain ⟨e1, f1⟩ := rx.flat_inv hf.1
        obtain ⟨e2, f2⟩ := r1.flat_inv hf.2
        refine .inl ⟨a, vs, rfl, l1, f1, f2, ?_⟩
        have e3 : inV v vs = inD x ys := by
          rw [e1, e2]
          unfold inV inD
          rw [List.any_map]
          rfl
        rw [e3]
        exact q g _ H (.refl g) s Rep.bl
      · exact q.elim
    · exact q.elim
  cases y with
  | str z =>
    simp only [fIn] at q
    split at q
    · rename_i w'
      split at q
      · rename_i k hk
        refine .inr ⟨k, z, ?_, ry.str_inv, q g _ H (.refl g) s Rep.bl⟩
        rw [rx.str_inv]
        have : w' = ⟨#[k]⟩ := by
          cases w' with
          | mk cps =>
            congr
            exact Array.toList_inj.mp hk
        rw [this]
      · exact q.elim
    · exact q.elim
  | _ => exact other rfl

/-! subscripts -/
theorem map_atI {α β : Type} {xs : List α} {ys : List β} (h : ys.length = xs.length) {i : Int} {x : α} (e : atI xs i = some x) : ∃ j : Nat, xs[j]? = some x ∧ ∀ y, ys[j]? = some y → atI ys i = some y := by
  unfold atI at e ⊢
  obtain ⟨j, e1, e2⟩ := Option.bind_eq_some_iff.mp e
  exact ⟨j, e2, fun y hy => Option.bind_eq_some_iff.mpr ⟨j, by rw [h]; exact e1, hy⟩⟩
theorem ix_or (cf : Cf k X c) : IxR X (rIx c.K) := by rw [cf.kk]; exact ix_seq
theorem od_ix : OpD c (rIx c.K) fIx := by
  intro g Z S H x y v w Q E s rx ry q
  unfold fIx at q
  split at q
  · rename_i i
    split at q
    · rename_i z
      split at q
      · rename_i hz
        split at q
        · rename_i n hn
          exact .inr (.inr ⟨z, i, n, rx.str_inv, ry.int_inv, sz hz, hn, q g _ H (.refl g) s Rep.str⟩)
        · exact q.elim
      · exact q.elim
    · split at q
      · rename_i xs hx
        split at q
        · rename_i d hd
          obtain ⟨a, vs, rfl, l1, r1⟩ := sq_ok s rx hx
          obtain ⟨j, e1, e2⟩ := map_atI r1.length hd
          obtain ⟨u, h1, h2⟩ := r1.get e1
          have q' := q g _ H (.refl g) s h2
          rcases l1 with l1 | l1
          · exact .inl ⟨a, vs, i, u, rfl, ry.int_inv, l1, e2 u h1, q'⟩
          · exact .inr (.inl ⟨a, vs, i, u, rfl, ry.int_inv, l1, e2 u h1, q'⟩)
        · exact q.elim
      · exact q.elim
  · exact q.elim
theorem ce_ix {W : WX} {a b : Expr} {ma mb : ME} {pos : Pos} (cf : Cf k X c) (ha : CE X c W a ma) (hb : CE X c W b mb) (hs : PlainIx b := by exact fun _ _ => rfl) : CE X c W (.Subscript a b pos) (mBin fIx ma mb) :=
  weakE (pe_ix (ix_or cf) ha hb hs) fun _ _ _ h => op2 od_ix h
theorem cut_rep {g : Wd} {ds : List D} {vs : List V} (r : RepL c g ds vs) (lo hi : Option Int) : RepL c g (cutD ds lo hi) (cutV vs lo hi) := by
  unfold cutD cutV
  rw [r.length]
  exact (r.drop _).take _
def oM (c : RC) (W : WX) (m : Option ME) : L2.TO := fun σ H Q => ∃ g Z δ S, SimH c g S Z H ∧ Slots c g δ σ ∧ Post c (fun _ a b => a = b) g Z (mPart m δ S) Q (fun k d H' => W k d σ H')
theorem co_none {W : WX} : PO X none (oM c W none) := ⟨fun pins s σ H Q I ⟨g, Z, δ, S, s', sl, q⟩ => po_none.run pins s σ H Q I (q g _ H (.refl g) s' rfl)⟩
theorem co_some {W : WX} {e : Expr} {m : ME} (h : CE X c W e m) : PO X (some e) (oM c W (some m)) := ⟨fun pins s σ H Q I ⟨g, Z, δ, S, s', sl, q⟩ => (po_some h).run pins s σ H Q I ⟨g, Z, δ, S, s', sl, Post.bind q fun x S1 g1 v H1 _ le1 s1 r1 q1 => by
  cases x with
  | int i => exact ⟨i, r1.int_inv, q1 g1 _ H1 (.refl g1) s1 rfl⟩
  | _ => exact q1.elim⟩⟩
abbrev rSlU (K : PySem.W.Frag) : V → Option Int → Option Int → Hp → VK → Prop := fun x lo hi H Q => rSlL K x lo hi H Q ∨ rSlA K x lo hi H Q
theorem cutV_whole {xs : List V} {lo hi : Option Int} (h : HT.sIx xs.length 0 lo = 0 ∧ HT.sIx xs.length xs.length hi = xs.length) : cutV xs lo hi = xs := by
  unfold cutV
  rw [h.1, h.2]
  simp
theorem ce_slice {W : WX} {a : Expr} {lo hi : Option Expr} {ma : ME} {ml mh : Option ME} {pos p2 : Pos} (cf : Cf k X c) (ha : CE X c W a ma) (hl : PO X lo (oM c W ml)) (hh : PO X hi (oM c W mh)) : CE X c W (.Subscript a (.Slice lo hi none p2) pos) (mSlice ma ml mh) :=
  weakE (pe_slice (r := rSlU c.K) (by rw [cf.kk]; exact sl_list.or sl_tupA) ha hl hh) fun σ H Q ⟨g, Z, δ, S, s, sl, q⟩ => ⟨g, Z, δ, S, s, sl, Post.bind q fun x S1 g1 v H1 _ le1 s1 r1 q1 => ⟨g1, Z, δ, S1, s1, sl.up le1, Post.bind q1 fun l S2 g2 l' H2 _ le2 s2 e2 q2 =>
    ⟨g2, Z, δ, S2, s2, (sl.up le1).up le2, Post.bind q2 fun h S3 g3 h' H3 _ le3 s3 e3 q3 => by
      subst e2
      subst e3
      have rx := Rep.up le3 (Rep.up le2 r1)
      have other : (match x.seq S3 with
        | some xs => R.ok (D.lst (cutD xs l h)) S3
        | none => .bad) = fCut x l h S3 → rSlU c.K v l h H3 Q := fun e => by
        rw [← e] at q3
        split at q3
        · rename_i xs hx
          obtain ⟨a, vs, rfl, l1, r2⟩ := seq_ok s3 rx hx
          exact .inl ⟨a, vs, rfl, l1, fun p hp => lst_new s3 (cut_rep r2 l h) hp q3⟩
        · exact q3.elim
      cases x with
      | tup xs =>
        obtain ⟨a, vs, rfl, l1, r2⟩ := tup_ok s3 rx
        refine .inr ⟨a, vs, rfl, l1, fun hw => ?_, fun _ p hp => tup_new s3 (cut_rep r2 l h) hp q3⟩
        refine q3 g3 _ H3 (.refl g3) s3 ?_
        have e4 : cutD xs l h = xs := by
          unfold cutD
          rw [← r2.length, hw.1, hw.2]
          rw [r2.length]
          simp
        rw [e4]
        exact rx
      | _ => exact other rfl⟩⟩⟩
end

/-! ### built-ins -/
section
variable {X : Cx} {c : RC} {k : Nat}
theorem vals_one {g : Wd} {d : D} {vs : List V} (r : RepL c g [d] vs) : ∃ v, vs = [v] ∧ Rep c g d v := by
  obtain ⟨v, r', rfl, r1, r2⟩ := r.cons_inv
  rw [r2.nil_inv]
  exact ⟨v, rfl, r1⟩
theorem vals_two {g : Wd} {d e : D} {vs : List V} (r : RepL c g [d, e] vs) : ∃ v w, vs = [v, w] ∧ Rep c g d v ∧ Rep c g e w := by
  obtain ⟨v, r', rfl, r1, r2⟩ := r.cons_inv
  obtain ⟨w, rfl, r3⟩ := vals_one r2
  exact ⟨v, w, rfl, r1, r3⟩
abbrev rLenU (K : PySem.W.Frag) : List V → Hp → VK → Prop := fun xs H Q => (∃ x n, xs = [x] ∧ LenV K x H n ∧ Q (.int n) H) ∨ (∃ a kvs, xs = [V.ref a] ∧ Rd H a (.dK kvs) ∧ Q (.int kvs.length) H)
theorem cl_abs : ClD c (fun xs H Q => ∃ i, xs = [.int i] ∧ Q (.int (if i < 0 then -i else i)) H) fAbs := by
  intro g Z S H xs vs Q E s r q
  unfold fAbs at q
  split at q
  · obtain ⟨v, rfl, r1⟩ := vals_one r
    rw [r1.int_inv]
    exact ⟨_, rfl, q g _ H (.refl g) s Rep.int⟩
  · exact q.elim
theorem cl_int : ClD c (fun xs H Q => (∃ i, xs = [.int i] ∧ Q (.int i) H) ∨ ∃ k, xs = [.bl k] ∧ Q (.int (if k then 1 else 0)) H) fInt := by
  intro g Z S H xs vs Q E s r q
  unfold fInt at q
  split at q
  · obtain ⟨v, rfl, r1⟩ := vals_one r
    rw [r1.int_inv]
    exact .inl ⟨_, rfl, q g _ H (.refl g) s Rep.int⟩
  · obtain ⟨v, rfl, r1⟩ := vals_one r
    rw [r1.bl_inv]
    exact .inr ⟨_, rfl, q g _ H (.refl g) s Rep.int⟩
  · exact q.elim
theorem cl_max : ClD c (fun xs H Q => ∃ i j, xs = [.int i, .int j] ∧ Q (.int (if j > i then j else i)) H) fMax := by
  intro g Z S H xs vs Q E s r q
  unfold fMax at q
  split at q
  · obtain ⟨v, w, rfl, r1, r2⟩ := vals_two r
    rw [r1.int_inv, r2.int_inv]
    exact ⟨_, _, rfl, q g _ H (.refl g) s Rep.int⟩
  · exact q.elim
theorem cl_min : ClD c (fun xs H Q => ∃ i j, xs = [.int i, .int j] ∧ Q (.int (if j < i then j else i)) H) fMin := by
  intro g Z S H xs vs Q E s r q
  unfold fMin at q
  split at q
  · obtain ⟨v, w, rfl, r1, r2⟩ := vals_two r
    rw [r1.int_inv, r2.int_inv]
    exact ⟨_, _, rfl, q g _ H (.refl g) s Rep.int⟩
  · exact q.elim
def fLenS (xs : List D) (S : Sto) : R D := match xs with
  | [.str z] => if z.length ≤ 16777216 then .ok (.int z.length) S else .bad
  | [x] => (match x.sq S with
    | some ys => .ok (.int ys.length) S
    | none => .bad)
  | _ => .bad
abbrev rLenV (K : PySem.W.Frag) : List V → Hp → VK → Prop := fun xs H Q => (∃ p ys, xs = [.ref p] ∧ (SqL K H p ys ∨ SqT K H p ys) ∧ Q (.int ys.length) H) ∨ ∃ z, xs = [.str z] ∧ z.length ≤ sizeLine ∧ Q (.int z.length) H
theorem cr_len (cf : Cf k X c) : CallR X (.builtin "len") (rLenV c.K) := by
  rw [cf.kk]
  exact CallR.or call_len_seq call_len_str
theorem cl_len : ClD c (rLenV c.K) fLenS := by
  intro g Z S H xs vs Q E s r q
  unfold fLenS at q
  split at q
  · split at q
    · rename_i z hz
      obtain ⟨v, rfl, r1⟩ := vals_one r
      rw [r1.str_inv]
      exact .inr ⟨_, rfl, sz hz, q g _ H (.refl g) s Rep.int⟩
    · exact q.elim
  · rename_i x _
    split at q
    · rename_i ys hy
      obtain ⟨v, rfl, r1⟩ := vals_one r
      obtain ⟨a, us, rfl, l1, r2⟩ := sq_ok s r1 hy
      refine .inl ⟨a, us, rfl, l1, ?_⟩
      rw [r2.length]
      exact q g _ H (.refl g) s Rep.int
    · exact q.elim
  · exact q.elim
end
end DL

end
section
/-! DL, part d: statements, targets, loops, comprehensions. -/
namespace DL
open PySem PySem.Spec PyProof.Rows L2

/-! ### mirrors -/
def sNx : MS := fun δ S => .nx δ S
def sSeq (a b : MS) : MS := fun δ S => match a δ S with
  | .nx δ1 S1 => b δ1 S1
  | r => r
def sSet (i : Nat) (m : ME) : MS := fun δ S => (m δ S).flow δ fun d S1 => .nx (δ.set i (some d)) S1
def sRet (m : ME) : MS := fun δ S => (m δ S).flow δ fun d S1 => .ret d S1
def sIf (t : MT) (a b : MS) : MS := fun δ S => (t δ S).flow δ fun k S1 => if k = true then a δ S1 else b δ S1
def sDrop (m : ME) : MS := fun δ S => (m δ S).flow δ fun _ S1 => .nx δ S1
def sPar (i j : Nat) (m : MA) : MS := fun δ S => (m δ S).flow δ fun xs S1 => match xs with
  | [a, b] => .nx ((δ.set i (some a)).set j (some b)) S1
  | _ => .bad
/-- targets -/
structure MG where
  f : D → Sl → Option Sl
  ts : List Nat
def gN (i : Nat) : MG := ⟨fun d δ => some (δ.set i (some d)), [i]⟩
def gTs : List MG → List D → Sl → Option Sl
  | [], [], δ => some δ
  | g :: gs, d :: ds, δ => (g.f d δ).bind fun δ1 => gTs gs ds δ1
  | _, _, _ => none
def gT (gs : List MG) : MG := ⟨fun d δ => match d with
  | .tup ds => gTs gs ds δ
  | _ => none, gs.flatMap (·.ts)⟩
def sAsg (m : ME) (gm : MG) : MS := fun δ S => (m δ S).flow δ fun d S1 => match gm.f d δ with
  | some δ1 => .nx δ1 S1
  | none => .bad
/-- xs[i] = v -/
def sSub (mv mo mi : ME) : MS := fun δ S => (mv δ S).flow δ fun v S1 => (mo δ S1).flow δ fun o S2 => (mi δ S2).flow δ fun i S3 => match o, i with
  | .loc n, .int j => (match S3[n]? with
    | some (.lst xs) => (match ixN xs.length j with
      | some p => if v.clean = true then .nx δ (S3.set n (.lst (xs.set p v))) else .bad
      | none => .bad)
    | _ => .bad)
  | _, _ => .bad
/-- xs.append(v) -/
def mMeth1 (chk : D → Sto → Bool) (f : D → D → Sto → R D) (mo me : ME) : ME := fun δ S => (mo δ S).bind fun x S1 => if chk x S1 = true then (me δ S1).bind fun y S2 => f x y S2 else .bad
def isSq (d : D) (S : Sto) : Bool := (d.seq S).isSome
def fApp (o v : D) (S : Sto) : R D := match o with
  | .loc n => (match S[n]? with
    | some (.lst xs) => if xs.length < 16777216 ∧ v.clean = true then .ok .non (S.set n (.lst (xs ++ [v]))) else .bad
    | _ => .bad)
  | _ => .bad
def forGo (gm : MG) (body : MS) : List D → Sl → Sto → F
  | [], δ, S => .nx δ S
  | d :: r, δ, S => match gm.f d δ with
    | none => .bad
    | some δ1 => match body δ1 S with
      | .nx δ2 S2 => forGo gm body r δ2 S2
      | .cnt δ2 S2 => forGo gm body r δ2 S2
      | .brk δ2 S2 => .nx δ2 S2
      | x => x
def sFor (mi : MA) (gm : MG) (body : MS) : MS := fun δ S => (mi δ S).flow δ fun ds S1 => forGo gm body ds δ S1
def noX {α : Type} : R α → R α
  | .exc _ _ _ => .bad
  | r => r
def wipeD (δ : Sl) : List Nat → Sl
  | [] => δ
  | v :: vs => (wipeD δ vs).set v none
def lcGo (gm : MG) (t : MT) (e : ME) (δ : Sl) : List D → List D → Sto → R (List D)
  | [], acc, S => .ok acc S
  | d :: r, acc, S => match gm.f d δ with
    | none => .bad
    | some δ1 => (t δ1 S).bind fun k S1 => if k = true then (e δ1 S1).bind fun y S2 => lcGo gm t e δ r (acc ++ [y]) S2 else lcGo gm t e δ r acc S1
def mLc (mi : MA) (gm : MG) (vs : List Nat) (t : MT) (e : ME) (fin : List D → Sto → R D) : ME := fun δ S => (mi δ S).bind fun ds S1 => if ds.length ≤ 16777216 then (noX (lcGo gm t e (wipeD δ vs) ds [] S1)).bind fin else .bad
def tOk : MT := fun _ S => .ok true S
/-- what a for walks -/
def mSeqI (m : ME) : MA := fun δ S => (m δ S).bind fun d S1 => match d with
  | .lst xs => .ok xs S1
  | _ => .bad
def mTupI (m : ME) : MA := fun δ S => (m δ S).bind fun d S1 => match d with
  | .tup xs => .ok xs S1
  | _ => .bad
def mStrI (m : ME) : MA := fun δ S => (m δ S).bind fun d S1 => match d with
  | .str z => .ok (z.cps.toList.map fun k => .str ⟨#[k]⟩) S1
  | _ => .bad
def fits62 (n : Int) : Bool := decide (-4611686018427387904 ≤ n) && decide (n < 4611686018427387904)
theorem fits62_ok {n : Int} (h : fits62 n = true) : -(2 ^ 62) ≤ n ∧ n < 2 ^ 62 := by
  have p62 : (2 : Int) ^ 62 = 4611686018427387904 := by decide +kernel
  rw [p62]
  unfold fits62 at h
  rw [Bool.and_eq_true] at h
  exact ⟨of_decide_eq_true h.1, of_decide_eq_true h.2⟩
theorem fits62_nat {n : Nat} (h : n < 1000000) : fits62 (n : Int) = true := by
  unfold fits62
  rw [decide_eq_true (by omega), decide_eq_true (by omega)]
  rfl
def mRgI (m : MA) : MA := fun δ S => (m δ S).bind fun ds S1 => match ds with
  | [.int n] => if fits62 n = true then .ok ((List.range n.toNat).map fun (i : Nat) => D.int (i : Int)) S1 else .bad
  | _ => .bad
def mEnI (m : ME) : MA := fun δ S => (m δ S).bind fun d S1 => match d with
  | .lst xs => .ok (xs.mapIdx fun i x => .tup [.int (i : Int), x]) S1
  | _ => .bad

/-! ### statements -/
section
variable {X : Cx} {c : RC} {W : WX} {pos : Pos} {k : Nat}
theorem weakF {g g' : Wd} {Z : Hp} {r : F} {Dn : Ends} {nx' : L2.St → Hp → Prop} (h : PostF c g Z r { Dn with nx := nx' } W) (k : ∀ σ H, nx' σ H → Dn.nx σ H) : PostF c g Z r Dn W := by
  cases r with
  | nx δ S => exact fun g1 σ H le s sl => k σ H (h g1 σ H le s sl)
  | _ => exact h
theorem cs_nil : CSs X c W [] sNx := weakSs pss_nil fun Dn σ H ⟨g, Z, δ, S, s, sl, q⟩ => q g σ H (.refl g) s sl
theorem cs_pass : CS X c W (.Pass pos) sNx := weakS ps_pass fun Dn σ H ⟨g, Z, δ, S, s, sl, q⟩ => q g σ H (.refl g) s sl
theorem seq_post {g : Wd} {Z : Hp} {a b : MS} {δ : Sl} {S : Sto} {Dn : Ends} (q : PostF c g Z (sSeq a b δ S) Dn W) : PostF c g Z (a δ S) { Dn with nx := sM c W b Dn } W := by
  unfold sSeq at q
  cases e : a δ S with
  | nx δ1 S1 =>
    rw [e] at q
    exact fun g1 σ H le s sl => ⟨g1, Z, δ1, S1, s, sl, PostF.up le q⟩
  | _ =>
    rw [e] at q
    exact q
theorem cs_cons {st : Stmt} {rest : List Stmt} {a b : MS} (h1 : CS X c W st a) (h2 : CSs X c W rest b) : CSs X c W (st :: rest) (sSeq a b) :=
  weakSs (pss_cons h1 h2) fun Dn σ H ⟨g, Z, δ, S, s, sl, q⟩ => ⟨g, Z, δ, S, s, sl, seq_post q⟩
theorem cs_one {st : Stmt} {a : MS} (h1 : CS X c W st a) : CSs X c W [st] a := pss_one h1
theorem cs_set {i : Nat} {x : Str} {e : Expr} {m : ME} {pos' : Pos} (hN : X.N.Nodup) (he : CE X c W e m) (hi : X.N[i]? = some x := by rfl) (hx : L2.Loc X.env.scope x := by first | exact Or.inl rfl | exact Or.inr rfl)
    (hs : swapsWith e (some (.Name x pos')) pos.line X.env = pure false := by rfl) (hf : X.fn x = true ∨ X.env.scope.names.lookup x = some .local := by first | exact .inl rfl | exact .inr rfl) : CS X c W (.Assign [.Name x pos'] e pos) (sSet i m) :=
  weakS (ps_set hN hi hx he hs hf) fun Dn σ H ⟨g, Z, δ, S, s, sl, q⟩ => ⟨g, Z, δ, S, s, sl, Post.flow sl q fun d S1 g1 v H1 le1 s1 r1 q1 => q1 g1 _ H1 (.refl g1) s1 ((sl.up le1).set i r1)⟩
theorem cs_ret {e : Expr} {m : ME} (he : CE X c W e m) : CS X c W (.Return (some e) pos) (sRet m) :=
  weakS (ps_ret he) fun Dn σ H ⟨g, Z, δ, S, s, sl, q⟩ => ⟨g, Z, δ, S, s, sl, Post.flow sl q fun d S1 g1 v H1 le1 s1 r1 q1 => q1 g1 _ H1 (.refl g1) s1 r1⟩
theorem cs_if {t : Expr} {a b : List Stmt} {mt : MT} {ma mb : MS} (ht : CT X c W t mt) (ha : CSs X c W a ma) (hb : CSs X c W b mb) : CS X c W (.If t a b pos) (sIf mt ma mb) :=
  weakS (ps_if ht ha hb) fun Dn σ H ⟨g, Z, δ, S, s, sl, q⟩ => ⟨g, Z, δ, S, s, sl, Post.flow sl q fun x S1 g1 v H1 le1 s1 r1 q1 => by
    subst r1
    cases x with
    | true => exact ⟨g1, Z, δ, S1, s1, sl.up le1, q1⟩
    | false => exact ⟨g1, Z, δ, S1, s1, sl.up le1, q1⟩⟩
theorem cs_expr {e : Expr} {m : ME} (he : CE X c W e m) (hs : swapsWith e none pos.line X.env = pure false := by rfl) : CS X c W (.Expr e pos) (sDrop m) :=
  weakS (ps_expr he hs) fun Dn σ H ⟨g, Z, δ, S, s, sl, q⟩ => ⟨g, Z, δ, S, s, sl, Post.flow sl q fun x S1 g1 v H1 le1 s1 r1 q1 => q1 g1 _ H1 (.refl g1) s1 (sl.up le1)⟩
theorem cs_par {i j : Nat} {x y : Str} {a b : Expr} {m : MA} {px py pt : Pos} {kt k2 pt2} (cf : Cf k X c) (hN : X.N.Nodup) (ha : CA X c W [a, b] m) (hi : X.N[i]? = some x := by rfl) (hj : X.N[j]? = some y := by rfl) (hij : i ≠ j := by decide)
    (h1 : X.env.scope.names.lookup x = some .local := by rfl) (h2 : X.env.scope.names.lookup y = some .local := by rfl) (hw : swappedStores [.Tuple [.Name x px, .Name y py] kt pt] (.Tuple [a, b] k2 pt2) X.env = pure (some [x, y]) := by rfl)
    (hs : swapsWithSole [.Tuple [.Name x px, .Name y py] kt pt] (.Tuple [a, b] k2 pt2) pos.line X.env = pure false := by rfl) :
    CS X c W (.Assign [.Tuple [.Name x px, .Name y py] kt pt] (.Tuple [a, b] k2 pt2) pos) (sPar i j m) :=
  weakS (ps_par cf.calm hN hi hj hij h1 h2 ha hw hs) fun Dn σ H ⟨g, Z, δ, S, s, sl, q⟩ => ⟨g, Z, δ, S, s, sl, Post.flow sl q fun xs S1 g1 vs H1 le1 s1 r1 q1 => by
    split at q1
    · rename_i u w
      obtain ⟨v1, v2, rfl, ra, rb⟩ := vals_two r1
      exact ⟨v1, v2, rfl, q1 g1 _ H1 (.refl g1) s1 (((sl.up le1).set i ra).set j rb)⟩
    · exact q1.elim⟩

/-! ### targets -/
def Off (ts : List Nat) (σ σ' : L2.St) : Prop := σ'.length = σ.length ∧ ∀ i, i ∉ ts → σ'[i]? = σ[i]?
theorem Off.refl {ts : List Nat} (σ : L2.St) : Off ts σ σ := ⟨rfl, fun _ _ => rfl⟩
theorem Off.trans {ts us : List Nat} {σ σ1 σ2 : L2.St} (a : Off ts σ σ1) (b : Off us σ1 σ2) : Off (ts ++ us) σ σ2 := ⟨b.1.trans a.1, fun i h => by
  rw [List.mem_append] at h
  exact (b.2 i fun q => h (.inr q)).trans (a.2 i fun q => h (.inl q))⟩
theorem Off.set {σ : L2.St} (i : Nat) (v : Option V) : Off [i] σ (σ.set i v) := ⟨by simp, fun j h => by
  rw [List.mem_singleton] at h
  exact List.getElem?_set_ne (Ne.symm h)⟩
def gM (c : RC) (gm : MG) : TG := fun v σ H Q => ∃ g Z δ S d, SimH c g S Z H ∧ Slots c g δ σ ∧ Rep c g d v ∧ ∃ δ', gm.f d δ = some δ' ∧ ∀ σ', Slots c g δ' σ' → Off gm.ts σ σ' → Q σ' H
def gMs (c : RC) (gs : List MG) : TGs := fun vs σ H Q => ∃ g Z δ S ds, SimH c g S Z H ∧ Slots c g δ σ ∧ RepL c g ds vs ∧ ∃ δ', gTs gs ds δ = some δ' ∧ ∀ σ', Slots c g δ' σ' → Off (gs.flatMap (·.ts)) σ σ' → Q σ' H
abbrev CG (X : Cx) (c : RC) (t : Expr) (gm : MG) : Prop := PG X t (gM c gm)
theorem weakG {t : Expr} {g g' : TG} (h : PG X t g) (k : ∀ v σ H Q, g' v σ H Q → g v σ H Q) : PG X t g' := ⟨fun pins s σ H v u Q I r q => h.run pins s σ H v u Q I r (k _ _ _ _ q)⟩
theorem weakGs {t : List Expr} {g g' : TGs} (h : PGs X t g) (k : ∀ v σ H Q, g' v σ H Q → g v σ H Q) : PGs X t g' := ⟨fun pins s σ H v u Q I r q => h.run pins s σ H v u Q I r (k _ _ _ _ q)⟩
theorem cg_name {i : Nat} {x : Str} (hN : X.N.Nodup) (hi : X.N[i]? = some x := by rfl) (hx : L2.Loc X.env.scope x := by first | exact Or.inl rfl | exact Or.inr rfl)
    (hf : X.fn x = true ∨ X.env.scope.names.lookup x = some .local := by first | exact .inl rfl | exact .inr rfl) : CG X c (.Name x pos) (gN i) :=
  weakG (pg_name hN hi hx hf) fun v σ H Q ⟨g, Z, δ, S, d, s, sl, r, δ', e, q⟩ => by
    cases e
    exact q _ (sl.set i r) (Off.set i _)
theorem cgs_nil : PGs X [] (gMs c []) := weakGs pgs_nil fun v σ H Q ⟨g, Z, δ, S, ds, s, sl, r, δ', e, q⟩ => by
  cases ds with
  | nil => cases e; exact ⟨r.nil_inv, q _ sl (Off.refl _)⟩
  | cons d ds => cases e
theorem cgs_cons {e : Expr} {es : List Expr} {g : MG} {gs : List MG} (h1 : CG X c e g) (h2 : PGs X es (gMs c gs)) (hs : (assignEach (e :: es) X.env).map (·.2) = assign e X.env :: (assignEach es X.env).map (·.2) := by rfl) : PGs X (e :: es) (gMs c (g :: gs)) :=
  weakGs (pgs_cons h1 h2 hs) fun v σ H Q ⟨g', Z, δ, S, ds, s, sl, r, δ', e, q⟩ => by
    cases ds with
    | nil => cases e
    | cons d ds =>
      obtain ⟨u, us, rfl, r1, r2⟩ := r.cons_inv
      obtain ⟨δ1, e1, e2⟩ := Option.bind_eq_some_iff.mp e
      exact ⟨u, us, rfl, g', Z, δ, S, d, s, sl, r1, δ1, e1, fun σ1 sl1 o1 => ⟨g', Z, δ1, S, ds, s, sl1, r2, δ', e2, fun σ2 sl2 o2 => q σ2 sl2 (o1.trans o2)⟩⟩
theorem gTs_len : ∀ {gs : List MG} {ds : List D} {δ δ' : Sl}, gTs gs ds δ = some δ' → ds.length = gs.length
  | [], [], _, _, _ => rfl
  | [], _ :: _, _, _, e => by cases e
  | _ :: _, [], _, _, e => by cases e
  | g :: gs, d :: ds, δ, δ', e => by
    obtain ⟨δ1, _, e2⟩ := Option.bind_eq_some_iff.mp e
    rw [List.length_cons, List.length_cons, gTs_len e2]
theorem cg_tup {es : List Expr} {kk : Nat} {gs : List MG} (hK : c.K = X.K) (hc : X.calm = true) (h : PGs X es (gMs c gs)) (hn : (assignEach es X.env).length = gs.length := by rfl) (hst : (assignEach es X.env).findIdx? (·.1) = none := by rfl) : CG X c (.Tuple es kk pos) (gT gs) :=
  weakG (pg_tup (n := gs.length) hc h hn hst) fun v σ H Q ⟨g, Z, δ, S, d, s, sl, r, δ', e, q⟩ => by
    cases d with
    | tup ds =>
      obtain ⟨a, vs, rfl, l1, r1⟩ := tup_ok s r
      have e' : gTs gs ds δ = some δ' := e
      exact ⟨a, vs, rfl, by rw [← hK]; exact l1, by rw [r1.length]; exact gTs_len e', g, Z, δ, S, ds, s, sl, r1, δ', e', q⟩
    | _ => cases e
theorem cs_asg {tg e : Expr} {m : ME} {gm : MG} (he : CE X c W e m) (hg : CG X c tg gm) (hs : swapsWithSole [tg] e pos.line X.env = pure false := by rfl) (hw : swappedStores [tg] e X.env = pure none := by rfl)
    (h1 : (assignEach [tg] X.env).map (·.2) = [assign tg X.env] := by rfl) : CS X c W (.Assign [tg] e pos) (sAsg m gm) :=
  weakS (ps_asg he hg hs hw h1) fun Dn σ H ⟨g, Z, δ, S, s, sl, q⟩ => ⟨g, Z, δ, S, s, sl, Post.flow sl q fun d S1 g1 v H1 le1 s1 r1 q1 => by
    split at q1
    · rename_i δ1 hd
      exact ⟨g1, Z, δ, S1, d, s1, sl.up le1, r1, δ1, hd, fun σ' sl' _ => q1 g1 σ' H1 (.refl g1) s1 sl'⟩
    · exact q1.elim⟩
theorem cleanL_set {xs : List D} {v : D} {p : Nat} (h : D.cleanL xs = true) (hv : v.clean = true) : D.cleanL (xs.set p v) = true := by
  rw [cleanL_iff] at h ⊢
  intro d hd
  rcases List.mem_or_eq_of_mem_set hd with h1 | h1
  · exact h d h1
  · rw [h1]; exact hv
theorem cleanL_app {xs : List D} {v : D} (h : D.cleanL xs = true) (hv : v.clean = true) : D.cleanL (xs ++ [v]) = true := by
  rw [cleanL_iff] at h ⊢
  intro d hd
  rcases List.mem_append.mp hd with h1 | h1
  · exact h d h1
  · rw [List.mem_singleton.mp h1]; exact hv
/-- o[i] = e, o a list that changes -/
theorem cs_sub {o i e : Expr} {mv mo mi : ME} {tpos : Pos} (he : CE X c W e mv) (ho : CE X c W o mo) (hi : CE X c W i mi)
    (hs : swapsWithSole [.Subscript o i tpos] e pos.line X.env = pure false := by rfl) (hw : swappedStores [.Subscript o i tpos] e X.env = pure none := by rfl)
    (h1 : (assignEach [.Subscript o i tpos] X.env).map (·.2) = [assign (.Subscript o i tpos) X.env] := by rfl) (hg : PG X (.Subscript o i tpos) (gSub (eM c W mo) (eM c W mi) rSetL)) : CS X c W (.Assign [.Subscript o i tpos] e pos) (sSub mv mo mi) :=
  weakS (ps_asg he hg hs hw h1) fun Dn σ H ⟨g, Z, δ, S, s, sl, q⟩ => ⟨g, Z, δ, S, s, sl, Post.flow sl q fun v S1 g1 vv H1 le1 s1 r1 q1 => ⟨g1, Z, δ, S1, s1, sl.up le1, Post.flow (sl.up le1) q1 fun ov S2 g2 ov' H2 le2 s2 r2 q2 =>
    ⟨g2, Z, δ, S2, s2, (sl.up le1).up le2, Post.flow ((sl.up le1).up le2) q2 fun iv S3 g3 iv' H3 le3 s3 r3 q3 => by
      split at q3
      · rename_i n j
        split at q3
        · rename_i xs hx
          split at q3
          · rename_i p hp'
            split at q3
            · rename_i hc
              have r2' := Rep.up le3 r2
              rw [Rep] at r2'
              obtain ⟨a, rfl, ha⟩ := r2'
              obtain ⟨_, _, hcl, vs, hH, rs⟩ := s3.cell n a _ ha hx
              refine ⟨a, vs, j, p, rfl, r3.int_inv, hH, by rw [rs.length]; exact hp', ?_⟩
              have hn : n < S3.length := (List.getElem?_eq_some_iff.mp hx).1
              exact q3 g3 _ _ (.refl g3) (s3.write ha hx ⟨cleanL_set hcl hc, _, upd_same, rs.set p (Rep.up le3 (Rep.up le2 r1))⟩) (((sl.up le1).up le2).up le3)
            · exact q3.elim
          · exact q3.elim
        · exact q3.elim
      · exact q3.elim⟩⟩⟩
/-- o.append(e) -/
theorem ce_app {o e : Expr} {mo me : ME} {apos cpos : Pos} (cf : Cf k X c) (ho : CE X c W o mo) (he : CE X c W e me) (hbase : attributeBase o "append" X.env (eval o X.env) = eval o X.env := by rfl)
    (hfew : ((backTo cpos (starEach [e] X.env)).all (fun x => !x.1) && (backToKw cpos (keywordEach [] X.env)).all (fun x => x.1.isSome) && decide ([e].length + ([] : List Keyword).length + (if ([] : List Keyword).isEmpty then 0 else 1) < 30)) = true := by rfl)
    (hline : (apos.endLine == cpos.line) = true := by rfl) (hs : starEach [e] X.env = (false, eval e X.env) :: starEach [] X.env := by rfl) : CE X c W (.Call (.Attribute o "append" apos) [e] [] cpos) (mMeth1 isSq fApp mo me) :=
  weakE (pe_bm PySem.F.plainAttrs_list PySem.F.slot_list_append PySem.F.type_list_append mt_append ho (ca_cons he ca_nil hs) hbase hfew hline hs rfl) fun σ H Q ⟨g, Z, δ, S, s, sl, q⟩ => ⟨g, Z, δ, S, s, sl, Post.bind q fun ov S1 g1 ov' H1 eS le1 s1 r1 q1 => by
    split at q1
    · rename_i hk
      obtain ⟨xs0, hx0⟩ := Option.isSome_iff_exists.mp hk
      obtain ⟨a, vs0, rfl, l0, _⟩ := seq_ok s1 r1 hx0
      refine ⟨.inl ⟨rfl, vs0, by rw [← cf.kk]; exact l0⟩, g1, Z, δ, S1, s1, sl.up le1, ?_⟩
      have q2 : Post c (Rep c) g1 Z ((mCons me mNil δ S1).bind fun xs S2 => match xs with | [y] => fApp ov y S2 | _ => .bad) Q (fun k d H' => W k d σ H') := by
        unfold mCons mNil
        cases e1 : me δ S1 with
        | ok y S2 => rw [e1] at q1; exact q1
        | exc kk ws S2 => rw [e1] at q1; exact q1
        | bad => rw [e1] at q1; exact q1
      refine Post.bind q2 fun ys S2 g2 ws H2 eS2 le2 s2 r2 q3 => ?_
      split at q3
      · rename_i y
        obtain ⟨w, rfl, ry⟩ := vals_one r2
        unfold fApp at q3
        split at q3
        · rename_i n
          split at q3
          · rename_i xs hx
            split at q3
            · rename_i hc
              have r1' := Rep.up le2 r1
              rw [Rep] at r1'
              obtain ⟨a', e', ha⟩ := r1'
              cases e'
              obtain ⟨_, _, hcl, vs, hH, rs⟩ := s2.cell n a _ ha hx
              have hn : n < S2.length := (List.getElem?_eq_some_iff.mp hx).1
              refine ⟨a, vs, w, rfl, rfl, hH, by rw [rs.length, sizeLine_eq]; exact hc.1, ?_⟩
              exact q3 g2 _ _ (.refl g2) (s2.write ha hx ⟨cleanL_app hcl hc.2, _, upd_same, rs.app (RepL.cons ry RepL.nil)⟩) Rep.non
            · exact q3.elim
          · exact q3.elim
        · exact q3.elim
      · exact q3.elim
    · exact q1.elim⟩

/-! ### what a for walks -/
def ItOk (c : RC) (g : Wd) (Z : Hp) (J : It) (ds : List D) : Prop := ∀ g' Z' S H (i : Nat), g.le g' → (∀ a o, Z a = some o → Z' a = some o) → SimH c g' S Z' H → (ds.length ≤ i → J.stop i H) ∧ ∀ d, ds[i]? = some d → J.go i H ∧ ∀ x H', J.yld i H x H' → ∃ g'', g'.le g'' ∧ SimH c g'' S Z' H' ∧ Rep c g'' d x
def iM (c : RC) (W : WX) (m : MA) : TI := fun σ H Rk => ∃ g Z δ S, SimH c g S Z H ∧ Slots c g δ σ ∧ Post c (fun g' ds J => ItOk c g' Z J ds) g Z (m δ S) Rk (fun k d H' => W k d σ H')
abbrev CI (X : Cx) (c : RC) (W : WX) (tg e : Expr) (m : MA) : Prop := PI X tg e (iM c W m)
theorem weakI {tg e : Expr} {t t' : TI} (h : PI X tg e t) (k : ∀ σ H Q, t' σ H Q → t σ H Q) : PI X tg e t' := ⟨fun pins s σ H Q I q => h.run pins s σ H Q I (k _ _ _ q)⟩
theorem it_list {K : PySem.W.Frag} {g : Wd} {Z : Hp} {a : Addr} {ds : List D} {vs : List V} (hK : c.K = K) (l : SqL c.K g.G a vs) (r : RepL c g ds vs) : ItOk c g Z (Itl K a) ds := by
  intro g' Z' S H i le _ s
  have l' : SqL K H a vs := by rw [← hK]; exact s.gk.lst (SqL.up l le)
  refine ⟨fun h => ⟨vs, l', by rw [r.length]; exact h⟩, fun d hd => ?_⟩
  obtain ⟨v, h1, h2⟩ := r.get hd
  refine ⟨⟨vs, v, l', h1⟩, fun x H' y => ?_⟩
  obtain ⟨rfl, y2⟩ := y
  have y3 := y2 vs l'
  rw [h1] at y3
  cases y3
  exact ⟨g', .refl g', s, Rep.up le h2⟩
theorem it_tup {K : PySem.W.Frag} {g : Wd} {Z : Hp} {a : Addr} {ds : List D} {vs : List V} (hK : c.K = K) (l : SqT c.K g.G a vs) (r : RepL c g ds vs) : ItOk c g Z (Itt K a) ds := by
  intro g' Z' S H i le _ s
  have l' : SqT K H a vs := by rw [← hK]; exact s.gk.tup (SqT.up l le)
  refine ⟨fun h => ⟨vs, l', by rw [r.length]; exact h⟩, fun d hd => ?_⟩
  obtain ⟨v, h1, h2⟩ := r.get hd
  refine ⟨⟨vs, v, l', h1⟩, fun x H' y => ?_⟩
  obtain ⟨rfl, y2⟩ := y
  have y3 := y2 vs l'
  rw [h1] at y3
  cases y3
  exact ⟨g', .refl g', s, Rep.up le h2⟩
theorem ci_list {tg e : Expr} {m : ME} (cf : Cf k X c) (he : CE X c W e m) : CI X c W tg e (mSeqI m) :=
  weakI (pi_list he) fun σ H Q ⟨g, Z, δ, S, s, sl, q⟩ => ⟨g, Z, δ, S, s, sl, Post.bind q fun d S1 g1 v H1 eS le1 s1 r1 q1 => by
    split at q1
    · rename_i xs
      rw [Rep] at r1
      obtain ⟨a, vs, rfl, l, rs⟩ := r1
      exact ⟨a, rfl, ⟨vs, by rw [← cf.kk]; exact s1.gk.lst l⟩, q1 g1 _ H1 (.refl g1) s1 (it_list cf.kk l rs)⟩
    · exact q1.elim⟩
theorem ci_tup {tg e : Expr} {m : ME} (cf : Cf k X c) (he : CE X c W e m) : CI X c W tg e (mTupI m) :=
  weakI (pi_tup he) fun σ H Q ⟨g, Z, δ, S, s, sl, q⟩ => ⟨g, Z, δ, S, s, sl, Post.bind q fun d S1 g1 v H1 eS le1 s1 r1 q1 => by
    split at q1
    · rename_i xs
      rw [Rep] at r1
      obtain ⟨a, vs, rfl, l, rs⟩ := r1
      exact ⟨a, rfl, ⟨vs, by rw [← cf.kk]; exact s1.gk.tup l⟩, q1 g1 _ H1 (.refl g1) s1 (it_tup cf.kk l rs)⟩
    · exact q1.elim⟩
theorem ci_str {tg e : Expr} {m : ME} (he : CE X c W e m) : CI X c W tg e (mStrI m) :=
  weakI (pi_str he) fun σ H Q ⟨g, Z, δ, S, s, sl, q⟩ => ⟨g, Z, δ, S, s, sl, Post.bind q fun d S1 g1 v H1 eS le1 s1 r1 q1 => by
    split at q1
    · rename_i z
      refine ⟨z, r1.str_inv, q1 g1 _ H1 (.refl g1) s1 fun g' Z' S' H' i le _ s' => ⟨fun h => ?_, fun d hd => ?_⟩⟩
      · rw [List.length_map, Array.length_toList] at h
        exact h
      · rw [List.getElem?_map] at hd
        obtain ⟨n, hn, rfl⟩ := Option.map_eq_some_iff.mp hd
        have hn' : z.cps[i]? = some n := by simpa using hn
        refine ⟨(Array.getElem?_eq_some_iff.mp hn').1, fun x H2 y => ?_⟩
        obtain ⟨rfl, n2, h2, rfl⟩ := y
        rw [hn'] at h2
        cases h2
        exact ⟨g', .refl g', s', Rep.str⟩
    · exact q1.elim⟩
theorem ci_range {tg a : Expr} {m : MA} {p pos : Pos} (ha : CA X c W [a] m) (hm : X.mg "range" = none) (hg : Gl X "range" := by rfl) (hs : starEach [a] X.env = [(false, eval a X.env)] := by rfl) : CI X c W tg (.Call (.Name "range" p) [a] [] pos) (mRgI m) :=
  weakI (pi_range1 hg hm ha hs) fun σ H Q ⟨g, Z, δ, S, s, sl, q⟩ => ⟨g, Z, δ, S, s, sl, Post.bind q fun ds S1 g1 vs H1 eS le1 s1 r1 q1 => by
    split at q1
    · rename_i n
      split at q1
      · rename_i hb0
        have hb := fits62_ok hb0
        obtain ⟨v, rfl, rn⟩ := vals_one r1
        refine ⟨n, by rw [rn.int_inv], hb.1, hb.2, q1 g1 _ H1 (.refl g1) s1 fun g' Z' S' H' i le _ s' => ⟨fun h => ?_, fun d hd => ?_⟩⟩
        · rw [List.length_map, List.length_range] at h
          exact h
        · rw [List.getElem?_map] at hd
          obtain ⟨j, hj, rfl⟩ := Option.map_eq_some_iff.mp hd
          have hlt : i < n.toNat := by
            have := (List.getElem?_eq_some_iff.mp hj).1
            simpa using this
          have ej : j = i := by
            rw [List.getElem?_range hlt] at hj
            cases hj
            rfl
          subst ej
          refine ⟨hlt, fun x H2 y => ?_⟩
          obtain ⟨rfl, rfl⟩ := y
          refine ⟨g', .refl g', s', ?_⟩
          rw [Int.zero_add]
          exact Rep.int
      · exact q1.elim
    · exact q1.elim⟩
theorem ci_enum {e : Expr} {elts : List Expr} {kk : Nat} {tpos p pos : Pos} {m : ME} (cf : Cf k X c) (he : CE X c W e m) (hm : X.mg "enumerate" = none) (hg : Gl X "enumerate" := by rfl) (hs : starEach [e] X.env = [(false, eval e X.env)] := by rfl)
    (hs2 : starEach [e] X.env = (false, eval e X.env) :: starEach [] X.env := by rfl) : CI X c W (.Tuple elts kk tpos) (.Call (.Name "enumerate" p) [e] [] pos) (mEnI m) :=
  weakI (pi_enum hg hm (ca_cons he ca_nil hs2) hs) fun σ H Q ⟨g, Z, δ, S, s, sl, q⟩ => ⟨g, Z, δ, S, s, sl, by
    have q' : Post c (fun g' ds J => ItOk c g' Z J ds) g Z ((mCons m mNil δ S).bind fun ds S1 => match ds with | [.lst xs] => .ok (xs.mapIdx fun (i : Nat) x => D.tup [.int (i : Int), x]) S1 | _ => .bad) Q (fun k d H' => W k d σ H') := by
      unfold mEnI at q
      unfold mCons mNil
      cases e1 : m δ S with
      | ok y S2 =>
        rw [e1] at q
        cases y <;> exact q
      | exc kk ws S2 => rw [e1] at q; exact q
      | bad => rw [e1] at q; exact q
    refine Post.bind q' fun ds S1 g1 vs H1 eS le1 s1 r1 q1 => ?_
    split at q1
    · rename_i xs
      obtain ⟨v, rfl, rn⟩ := vals_one r1
      rw [Rep] at rn
      obtain ⟨a, us, rfl, l, rs⟩ := rn
      have l1 : SqL X.K H1 a us := by rw [← cf.kk]; exact s1.gk.lst l
      refine ⟨a, us, rfl, l1, q1 g1 _ H1 (.refl g1) s1 fun g' Z' S' H' i le _ s' => ?_⟩
      have l' : SqL X.K H' a us := by rw [← cf.kk]; exact s'.gk.lst (SqL.up l le)
      refine ⟨fun h => ⟨us, l', by rw [List.length_mapIdx] at h; rw [rs.length]; exact h⟩, fun d hd => ?_⟩
      rw [List.getElem?_mapIdx] at hd
      obtain ⟨y, hy, rfl⟩ := Option.map_eq_some_iff.mp hd
      obtain ⟨v, h1, h2⟩ := rs.get hy
      refine ⟨⟨us, v, l', h1⟩, fun x H2 yl => ?_⟩
      obtain ⟨T, x2, rfl, hT, rfl, h3⟩ := yl
      have h4 := h3 us l'
      rw [h1] at h4
      cases h4
      obtain ⟨le2, s2⟩ := s'.new hT (.tup [.int (i : Nat), v])
      refine ⟨_, le2, s2, ?_⟩
      rw [Rep]
      exact ⟨T, _, rfl, .inl (.inl upd_same), RepL.cons Rep.int (RepL.cons (Rep.up le2 (Rep.up le h2)) RepL.nil)⟩
    · exact q1.elim⟩

/-! ### for -/
theorem for_ok {g1 : Wd} {Z : Hp} {gm : MG} {body : MS} {ds : List D} {δ : Sl} {S : Sto} {J : It} {H : Hp} {σ : L2.St} {Dn : Ends} (it : ItOk c g1 Z J ds) (s : SimH c g1 S Z H) (sl : Slots c g1 δ σ) (q : PostF c g1 Z (forGo gm body ds δ S) Dn W) :
    ∃ V : Nat → Nat → L2.St → Hp → Prop, (∃ m, V 0 m σ H) ∧ ∀ i m σ H, V i m σ H → (J.stop i H ∧ Dn.nx σ H) ∨ (J.go i H ∧ ∃ N : L2.St → Hp → Prop, (∀ σ' H', N σ' H' → ∃ m', m' < m ∧ V (i + 1) m' σ' H') ∧
      ∀ x H', J.yld i H x H' → gM c gm x σ H' fun σ2 H2 => sM c W body { Dn with nx := N, ct := N, bk := Dn.nx } σ2 H2) := by
  refine ⟨fun i m σ' H' => m = ds.length - i ∧ i ≤ ds.length ∧ ∃ g' δ' S', g1.le g' ∧ SimH c g' S' Z H' ∧ Slots c g' δ' σ' ∧ PostF c g' Z (forGo gm body (ds.drop i) δ' S') Dn W, ⟨ds.length, by simp, Nat.zero_le _, g1, δ, S, .refl g1, s, sl, q⟩, ?_⟩
  rintro i m σ' H' ⟨rfl, hi, g', δ', S', le, s', sl', q'⟩
  by_cases hlt : i < ds.length
  · right
    obtain ⟨go, yl⟩ := (it g' Z S' H' i le (fun _ _ e => e) s').2 ds[i] (by simp [hlt])
    refine ⟨go, fun σ2 H2 => ∃ g2 δ2 S2, g1.le g2 ∧ SimH c g2 S2 Z H2 ∧ Slots c g2 δ2 σ2 ∧ PostF c g2 Z (forGo gm body (ds.drop (i + 1)) δ2 S2) Dn W, fun σ2 H2 h => ⟨ds.length - (i + 1), by omega, rfl, by omega, h⟩, fun x H2 y => ?_⟩
    obtain ⟨g2, le2, s2, rx⟩ := yl x H2 y
    rw [List.drop_eq_getElem_cons hlt] at q'
    unfold forGo at q'
    split at q'
    · exact q'.elim
    · rename_i δ1 hg
      refine ⟨g2, Z, δ', S', ds[i], s2, sl'.up le2, rx, δ1, hg, fun σ3 sl3 _ => ⟨g2, Z, δ1, S', s2, sl3, ?_⟩⟩
      have q2 := PostF.up le2 q'
      have leA := le.trans le2
      cases e : body δ1 S' with
      | nx δ2 S2 => rw [e] at q2; exact fun g3 σ4 H4 le3 s3 sl4 => ⟨g3, δ2, S2, leA.trans le3, s3, sl4, PostF.up le3 q2⟩
      | cnt δ2 S2 => rw [e] at q2; exact fun g3 σ4 H4 le3 s3 sl4 => ⟨g3, δ2, S2, leA.trans le3, s3, sl4, PostF.up le3 q2⟩
      | brk δ2 S2 => rw [e] at q2; exact q2
      | ret d S2 => rw [e] at q2; exact q2
      | exc kk vs δ2 S2 => rw [e] at q2; exact q2
      | bad => rw [e] at q2; exact q2
  · left
    have e0 : i = ds.length := by omega
    subst e0
    rw [List.drop_length] at q'
    exact ⟨(it g' Z S' H' _ le (fun _ _ e => e) s').1 (Nat.le_refl _), q' g' σ' H' (.refl g') s' sl'⟩
theorem cs_for {tg iter : Expr} {body : List Stmt} {mi : MA} {gm : MG} {mb : MS} (cf : Cf k X c) (hp : PassesOwn (model X.prog X.w) X.A X.env X.xe) (hi : CI X c W tg iter mi) (hg : CG X c tg gm) (hb : CSs X c W body mb) (hs : ∀ x, foldedSetIterable iter X.env x = pure x := by intro _; rfl) : CS X c W (.For tg iter body [] pos) (sFor mi gm mb) :=
  weakS (ps_for hp cf.calm hi hg hb hs) fun Dn σ H ⟨g, Z, δ, S, s, sl, q⟩ => ⟨g, Z, δ, S, s, sl, Post.flow sl q fun ds S1 g1 J H1 le1 s1 it q1 => for_ok it s1 (sl.up le1) q1⟩

/-! ### comprehensions -/
abbrev W0 : WX := fun _ _ _ _ => False
theorem Slots.wipe {g : Wd} {δ : Sl} {σ : L2.St} (s : Slots c g δ σ) : ∀ vs : List Nat, Slots c g (wipeD δ vs) (L2.wipe σ vs)
  | [] => s
  | v :: vs => (Slots.wipe s vs).forget v none
theorem SimH.frame {g : Wd} {S : Sto} {Z H : Hp} (s : SimH c g S Z H) {p : Addr} (hp : H p = none) (o : HO) : SimH c g S (upd Z p o) (upd H p o) := by
  have b := s.beside hp o
  refine ⟨b.gk, s.zk.new (s.zk.gone hp), fun a u e => ?_, b.len, b.nd, fun n a u e1 e2 => ?_⟩
  · by_cases ha : a = p
    · rw [ha]; exact s.gk.gone hp
    · rw [upd_ne ha] at e; exact s.zg a u e
  obtain ⟨h1, h2, h3⟩ := b.cell n a u e1 e2
  have hne : a ≠ p := fun z => s.not_new hp (z ▸ List.mem_of_getElem? e1)
  exact ⟨h1, (upd_ne hne).trans h2, h3⟩
theorem SimH.reframe {g : Wd} {S : Sto} {Z H : Hp} {p : Addr} {o o' : HO} (s : SimH c g S (upd Z p o) H) : SimH c g S (upd Z p o') (upd H p o') := by
  have hg : g.G p = none := s.zg p o upd_same
  refine ⟨s.gk.aside hg, fun a u e => ?_, fun a u e => ?_, s.len, s.nd, fun n a u e1 e2 => ?_⟩
  · by_cases ha : a = p
    · subst ha
      rw [upd_same] at e ⊢
      exact e
    · have e' : upd Z p o a = some u := by rw [upd_ne ha] at e ⊢; exact e
      rw [upd_ne ha]
      exact s.zk a u e'
  · by_cases ha : a = p
    · rw [ha]; exact hg
    · have e' : upd Z p o a = some u := by rw [upd_ne ha] at e ⊢; exact e
      exact s.zg a u e'
  · obtain ⟨h1, h2, h3⟩ := s.cell n a u e1 e2
    have hne : a ≠ p := fun z => by
      rw [z, upd_same] at h2
      cases h2
    refine ⟨h1, ?_, h3.at (upd_ne hne)⟩
    rw [upd_ne hne] at h2 ⊢
    exact h2
theorem SimH.unframe {g : Wd} {S : Sto} {Z H : Hp} {p : Addr} {o : HO} (s : SimH c g S (upd Z p o) H) (hz : Z p = none) : SimH c g S Z H := by
  refine ⟨s.gk, fun a u e => s.zk a u ?_, fun a u e => s.zg a u ?_, s.len, s.nd, fun n a u e1 e2 => ?_⟩
  · rw [upd_ne (ne_of_none e hz)]; exact e
  · rw [upd_ne (ne_of_none e hz)]; exact e
  · obtain ⟨h1, h2, h3⟩ := s.cell n a u e1 e2
    have hne : a ≠ p := fun z => by
      rw [z, upd_same] at h2
      cases h2
    rw [upd_ne hne] at h2
    exact ⟨h1, h2, h3⟩
/-- a list that was made aside stands from now on -/
theorem SimH.settle {g : Wd} {S : Sto} {Z H : Hp} {p : Addr} {vs : List V} (s : SimH c g S (upd Z p (.lst vs)) H) (hz : Z p = none) : g.le ⟨upd g.G p (.lst vs), g.ι⟩ ∧ SimH c ⟨upd g.G p (.lst vs), g.ι⟩ S Z H := by
  have hg : g.G p = none := s.zg p _ upd_same
  have hH : H p = some (.lst vs) := s.zk p _ upd_same
  have le : g.le ⟨upd g.G p (.lst vs), g.ι⟩ := ⟨fun x u e => (upd_ne (ne_of_none e hg)).trans e, List.prefix_rfl⟩
  have u := s.unframe hz
  refine ⟨le, fun a o e => ?_, u.zk, fun a o e => (upd_ne (ne_of_none e hz)).trans (u.zg a o e), u.len, u.nd, fun n a o e1 e2 => ?_⟩
  · by_cases ha : a = p
    · subst ha
      have e' : some (HO.lst vs) = some o := upd_same.symm.trans e
      cases e'
      exact .inl hH
    · exact u.gk a o (by rw [← e]; exact (upd_ne ha).symm)
  · obtain ⟨h1, h2, h3⟩ := s.cell n a o e1 e2
    have hne : a ≠ p := fun z => by
      rw [z, upd_same] at h2
      cases h2
    rw [upd_ne hne] at h2
    exact ⟨fun hd => (upd_ne hne).trans (h1 hd), h2, h3.up le⟩
/-- .. or is a cell -/
theorem SimH.settleC {g : Wd} {S : Sto} {Z H : Hp} {p : Addr} {vs : List V} {ds : List D} (s : SimH c g S (upd Z p (.lst vs)) H) (hz : Z p = none) (r : RepL c g ds vs) (hc : D.cleanL ds = true) :
    g.le ⟨g.G, g.ι ++ [p]⟩ ∧ SimH c ⟨g.G, g.ι ++ [p]⟩ (S ++ [.lst ds]) Z H := by
  have hg : g.G p = none := s.zg p _ upd_same
  have hH : H p = some (.lst vs) := s.zk p _ upd_same
  have le : g.le ⟨g.G, g.ι ++ [p]⟩ := ⟨fun _ _ e => e, ⟨[p], rfl⟩⟩
  have u := s.unframe hz
  have np : p ∉ g.ι := fun h => by
    obtain ⟨n, o, e1, e2⟩ := u.mem_cell h
    have := (s.cell n p o e1 e2).2.1
    rw [upd_same] at this
    cases this
  refine ⟨le, u.gk, u.zk, u.zg, by simp [u.len], ?_, fun n a o e1 e2 => ?_⟩
  · rw [List.nodup_append]
    exact ⟨u.nd, by simp, fun a ha b hb => by simp at hb; subst hb; exact fun q => np (q ▸ ha)⟩
  · by_cases hn : n < S.length
    · have hn' : n < g.ι.length := u.len ▸ hn
      have e1' : g.ι[n]? = some a := by
        have : (g.ι ++ [p])[n]? = some a := e1
        rwa [List.getElem?_append_left hn'] at this
      rw [List.getElem?_append_left hn] at e2
      obtain ⟨h1, h2, h3⟩ := u.cell n a o e1' e2
      exact ⟨h1, h2, h3.up le⟩
    · have e0 : n = S.length := by
        have h2 := (List.getElem?_eq_some_iff.mp e2).1
        simp at h2
        omega
      subst e0
      have e1' : (g.ι ++ [p])[S.length]? = some a := e1
      rw [← u.len] at e1'
      simp at e1' e2
      subst e1' e2
      exact ⟨fun _ => hg, hz, hc, vs, hH, RepL.up le r⟩
theorem Post.noX {α β : Type} {rp : Wd → α → β → Prop} {g : Wd} {Z : Hp} {r : R α} {Q : β → Hp → Prop} {E E' : XK} (h : Post c rp g Z (noX r) Q E) : Post c rp g Z r Q E' := by
  cases r with
  | exc k vs S => exact False.elim h
  | _ => exact h
theorem noX_bind {α β : Type} (r : R α) (f : α → Sto → R β) : noX (r.bind f) = (noX r).bind fun a S => noX (f a S) := by
  cases r <;> rfl
theorem wipe_get (σ : L2.St) : ∀ (vs : List Nat) (i : Nat), (L2.wipe σ vs)[i]? = if i ∈ vs ∧ i < σ.length then some none else σ[i]?
  | [], i => by simp [L2.wipe]
  | v :: vs, i => by
    unfold L2.wipe
    by_cases h : v = i
    · subst h
      by_cases hl : v < σ.length
      · rw [List.getElem?_set_self (by rw [wipe_length]; exact hl), if_pos ⟨List.mem_cons_self, hl⟩]
      · rw [if_neg fun q => hl q.2, List.getElem?_eq_none_iff.mpr (by rw [List.length_set, wipe_length]; omega), List.getElem?_eq_none_iff.mpr (by omega)]
    · rw [List.getElem?_set_ne h, wipe_get σ vs i]
      have : (i ∈ v :: vs) ↔ i ∈ vs := ⟨fun q => (List.mem_cons.mp q).resolve_left fun z => h z.symm, List.mem_cons_of_mem _⟩
      simp only [this]
theorem wipe_off {ts vs : List Nat} {σ σ' : L2.St} (o : Off ts (L2.wipe σ vs) σ') (h : ∀ i ∈ ts, i ∈ vs) : L2.wipe σ' vs = L2.wipe σ vs := by
  apply List.ext_getElem?
  intro i
  have hl : σ'.length = σ.length := by rw [o.1, wipe_length]
  rw [wipe_get, wipe_get, hl]
  by_cases hv : i ∈ vs ∧ i < σ.length
  · rw [if_pos hv, if_pos hv]
  · rw [if_neg hv, if_neg hv]
    by_cases hv2 : i ∈ vs
    · have : ¬ i < σ.length := fun q => hv ⟨hv2, q⟩
      rw [List.getElem?_eq_none_iff.mpr (by omega), List.getElem?_eq_none_iff.mpr (by omega)]
    · rw [o.2 i fun q => hv2 (h i q), wipe_get, if_neg hv]
/-- what a comprehension's turns come to -/
theorem lc_ok {g1 : Wd} {Z : Hp} {gm : MG} {mt : MT} {me : ME} {ds : List D} {δ : Sl} {vs : List Nat} {S : Sto} {J : It} {H : Hp} {σ : L2.St} {Q : VK} {fin : List D → Sto → R D} {E : XK} (it : ItOk c g1 Z J ds) (hlen : ds.length ≤ 16777216) (hts : ∀ i ∈ gm.ts, i ∈ vs)
    (s : SimH c g1 S Z H) (sl : Slots c g1 δ (L2.wipe σ vs)) (q : Post c (Rep c) g1 Z ((noX (lcGo gm mt me δ ds [] S)).bind fin) Q E)
    (hfin : ∀ g' S' H' p ws acc, g1.le g' → SimH c g' S' (upd Z p (.lst ws)) H' → Z p = none → RepL c g' acc ws → Post c (Rep c) g' Z (fin acc S') Q E → Q (.ref p) H') (p : Addr) (hp : H p = none) :
    ∃ V : Nat → Nat → Hp → Prop, (∃ m, V 0 m (upd H p (.lst []))) ∧ ∀ i m H, V i m H → (J.stop i H ∧ Q (.ref p) H) ∨ (J.go i H ∧ ∃ Nx : Hp → Prop, (∀ H', Nx H' → ∃ m', m' < m ∧ V (i + 1) m' H') ∧
      ∀ x H', J.yld i H x H' → gM c gm x (L2.wipe σ vs) H' fun σ2 H2 => L2.wipe σ2 vs = L2.wipe σ vs ∧ tM c W0 mt σ2 H2 fun b H3 => if b = true then eM c W0 me σ2 H3 fun y H4 => ∃ acc, H4 p = some (.lst acc) ∧ acc.length < sizeLine ∧ Nx (upd H4 p (.lst (acc ++ [y]))) else Nx H3) := by
  have zp : Z p = none := s.zk.gone hp
  have ze : ∀ ws, ∀ a o, Z a = some o → upd Z p (.lst ws) a = some o := fun ws a o e => (upd_ne (ne_of_none e zp)).trans e
  refine ⟨fun i m H' => m = ds.length - i ∧ i ≤ ds.length ∧ ∃ g' S' acc ws, g1.le g' ∧ SimH c g' S' (upd Z p (.lst ws)) H' ∧ RepL c g' acc ws ∧ acc.length ≤ i ∧ Post c (Rep c) g' Z ((noX (lcGo gm mt me δ (ds.drop i) acc S')).bind fin) Q E,
    ⟨ds.length, by simp, Nat.zero_le _, g1, S, [], [], .refl g1, s.frame hp _, RepL.nil, Nat.le_refl _, q⟩, ?_⟩
  rintro i m H' ⟨rfl, hi, g', S', acc, ws, le, s', ra, hacc, q'⟩
  by_cases hlt : i < ds.length
  · right
    obtain ⟨go, yl⟩ := (it g' _ S' H' i le (ze ws) s').2 ds[i] (by simp [hlt])
    refine ⟨go, fun H2 => ∃ g2 S2 acc2 ws2, g1.le g2 ∧ SimH c g2 S2 (upd Z p (.lst ws2)) H2 ∧ RepL c g2 acc2 ws2 ∧ acc2.length ≤ i + 1 ∧ Post c (Rep c) g2 Z ((noX (lcGo gm mt me δ (ds.drop (i + 1)) acc2 S2)).bind fin) Q E,
      fun H2 h => ⟨ds.length - (i + 1), by omega, rfl, by omega, h⟩, fun x H2 y => ?_⟩
    obtain ⟨g2, le2, s2, rx⟩ := yl x H2 y
    rw [List.drop_eq_getElem_cons hlt] at q'
    unfold lcGo at q'
    split at q'
    · exact q'.elim
    · rename_i δ1 hg
      refine ⟨g2, _, δ, S', ds[i], s2, (sl.up le).up le2, rx, δ1, hg, fun σ3 sl3 off => ⟨wipe_off off hts, g2, _, δ1, S', s2, sl3, ?_⟩⟩
      rw [noX_bind] at q'
      have leA := le.trans le2
      cases e1 : mt δ1 S' with
      | bad => rw [e1] at q'; exact q'.elim
      | exc kk us S2 => rw [e1] at q'; exact q'.elim
      | ok b S2 =>
        rw [e1] at q'
        intro g3 b' H3 le3 s3 eb
        subst eb
        have q3 := Post.up (le2.trans le3) q'
        cases b with
        | false => exact ⟨g3, S2, acc, ws, leA.trans le3, s3, ra.up (le2.trans le3), by omega, q3⟩
        | true =>
          refine ⟨g3, _, δ1, S2, s3, sl3.up le3, ?_⟩
          have q4 : Post c (Rep c) g3 Z ((noX ((me δ1 S2).bind fun y S2 => lcGo gm mt me δ (ds.drop (i + 1)) (acc ++ [y]) S2)).bind fin) Q E := q3
          rw [noX_bind] at q4
          cases e2 : me δ1 S2 with
          | bad => rw [e2] at q4; exact q4.elim
          | exc kk us S3 => rw [e2] at q4; exact q4.elim
          | ok d S3 =>
            rw [e2] at q4
            intro g4 v H4 le4 s4 rv
            have hH : H4 p = some (.lst ws) := s4.zk p _ upd_same
            refine ⟨ws, hH, by rw [ra.length, sizeLine_eq]; omega, g4, S3, acc ++ [d], ws ++ [v], (leA.trans le3).trans le4, s4.reframe, ?_, by rw [List.length_append]; simp; omega, Post.up le4 q4⟩
            exact (ra.up ((le2.trans le3).trans le4)).app (RepL.cons rv RepL.nil)
  · left
    have e0 : i = ds.length := by omega
    subst e0
    rw [List.drop_length] at q'
    exact ⟨(it g' _ S' H' _ le (ze ws) s').1 (Nat.le_refl _), hfin g' S' H' p ws acc le s' zp ra q'⟩
def finL (acc : List D) (S : Sto) : R D := .ok (.lst acc) S
def finC (acc : List D) (S : Sto) : R D := if D.cleanL acc = true then .ok (.loc S.length) (S ++ [.lst acc]) else .bad
theorem finL_ok {g1 : Wd} {Z : Hp} {Q : VK} {E : XK} : ∀ g' S' H' p ws acc, g1.le g' → SimH c g' S' (upd Z p (.lst ws)) H' → Z p = none → RepL c g' acc ws → Post c (Rep c) g' Z (finL acc S') Q E → Q (.ref p) H' := fun g' S' H' p ws acc le s hz r q => by
  obtain ⟨le2, s2⟩ := s.settle hz
  refine q _ _ _ le2 s2 ?_
  rw [Rep]
  exact ⟨p, ws, rfl, .inl (.inl upd_same), r.up le2⟩
theorem finC_ok {g1 : Wd} {Z : Hp} {Q : VK} {E : XK} : ∀ g' S' H' p ws acc, g1.le g' → SimH c g' S' (upd Z p (.lst ws)) H' → Z p = none → RepL c g' acc ws → Post c (Rep c) g' Z (finC acc S') Q E → Q (.ref p) H' := fun g' S' H' p ws acc le s hz r q => by
  unfold finC at q
  split at q
  · rename_i hc
    obtain ⟨le2, s2⟩ := s.settleC hz r hc
    refine q _ _ _ le2 s2 ?_
    rw [Rep]
    exact ⟨p, rfl, by rw [← s.len]; simp⟩
  · exact q.elim
abbrev FinOk (c : RC) (fin : List D → Sto → R D) : Prop := ∀ {g1 : Wd} {Z : Hp} {Q : VK} {E : XK}, ∀ g' S' H' p ws acc, g1.le g' → SimH c g' S' (upd Z p (.lst ws)) H' → Z p = none → RepL c g' acc ws → Post c (Rep c) g' Z (fin acc S') Q E → Q (.ref p) H'
theorem lc_read {mi : MA} {gm : MG} {mt : MT} {me : ME} {vs : List Nat} {fin : List D → Sto → R D} (hfin : FinOk c fin) (hts : ∀ i ∈ gm.ts, i ∈ vs) {σ : L2.St} {H : Hp} {Q : VK} (h : eM c W (mLc mi gm vs mt me fin) σ H Q) :
    tLc (iM c W mi) (gM c gm) (tM c W0 mt) (eM c W0 me) vs σ H Q := by
  obtain ⟨g, Z, δ, S, s, sl, q⟩ := h
  refine ⟨g, Z, δ, S, s, sl, Post.bind q fun ds S1 g1 J H1 eS le1 s1 it q1 => ?_⟩
  split at q1
  · rename_i hlen
    exact fun p hp => lc_ok it hlen hts s1 ((sl.up le1).wipe vs) q1 (hfin (g1 := g1)) p hp
  · exact q1.elim
/-- [e for t in it if ..], as a value -/
theorem ce_lc {elt tg iter : Expr} {ifs : List Expr} {scope : Scope} {own : List (Str × Nat)} {mi : MA} {gm : MG} {mt : MT} {me : ME} {fin : List D → Sto → R D} (cf : Cf k X c) (hN : X.N.Nodup) (hfin : FinOk c fin) (hi : CI X c W tg iter mi) (ok : BlkOk X.N X.env.scope scope own)
    (hts : ∀ i ∈ gm.ts, i ∈ own.map (·.2))
    (hg : ∀ (s : Shared) (H : Hp) (C : Addr) (cl : List (Str × Addr)) (fp : List Addr), CG (X.blk s H scope (compEnvC scope cl C X.env) fp) c tg gm)
    (ht : ∀ (s : Shared) (H : Hp) (C : Addr) (cl : List (Str × Addr)) (fp : List Addr), PTs (X.blk s H scope (compEnvC scope cl C X.env) fp) ifs (tM c W0 mt))
    (he : ∀ (s : Shared) (H : Hp) (C : Addr) (cl : List (Str × Addr)) (fp : List Addr), CE (X.blk s H scope (compEnvC scope cl C X.env) fp) c W0 elt me) (hs : ∀ x, foldedSetIterable iter X.env x = pure x := by intro _; rfl) :
    CE X c W (.ListComp elt [⟨tg, iter, ifs, 0⟩] scope pos) (mLc mi gm (own.map (·.2)) mt me fin) :=
  weakE (pe_lc cf.calm hN hi ok hg ht he hs) fun σ H Q h => lc_read hfin hts h
/-- y = [..] -/
theorem cs_setLc {i : Nat} {y : Str} {py spos : Pos} {elt tg iter : Expr} {ifs : List Expr} {scope : Scope} {own : List (Str × Nat)} {mi : MA} {gm : MG} {mt : MT} {me : ME} {fin : List D → Sto → R D} (cf : Cf k X c) (hN : X.N.Nodup) (hfin : FinOk c fin) (hi : CI X c W tg iter mi)
    (ok : BlkOk X.N X.env.scope scope own) (hts : ∀ i ∈ gm.ts, i ∈ own.map (·.2))
    (hg : ∀ (s : Shared) (H : Hp) (C : Addr) (cl : List (Str × Addr)) (fp : List Addr), CG (X.blk s H scope (compEnvC scope cl C X.env) fp) c tg gm)
    (ht : ∀ (s : Shared) (H : Hp) (C : Addr) (cl : List (Str × Addr)) (fp : List Addr), PTs (X.blk s H scope (compEnvC scope cl C X.env) fp) ifs (tM c W0 mt))
    (he : ∀ (s : Shared) (H : Hp) (C : Addr) (cl : List (Str × Addr)) (fp : List Addr), CE (X.blk s H scope (compEnvC scope cl C X.env) fp) c W0 elt me)
    (hsw : swapsWith (.ListComp elt [⟨tg, iter, ifs, 0⟩] scope pos) (some (.Name y py)) spos.line X.env = pure true) (hy : X.N[i]? = some y := by rfl) (hyl : X.env.scope.names.lookup y = some .local := by rfl) (hs : ∀ x, foldedSetIterable iter X.env x = pure x := by intro _; rfl) :
    CS X c W (.Assign [.Name y py] (.ListComp elt [⟨tg, iter, ifs, 0⟩] scope pos) spos) (sSet i (mLc mi gm (own.map (·.2)) mt me fin)) :=
  weakS (ps_setLc cf.calm hN hy hyl hsw hi ok hg ht he hs) fun Dn σ H ⟨g, Z, δ, S, s, sl, q⟩ => lc_read hfin hts ⟨g, Z, δ, S, s, sl, Post.flow sl q fun d S1 g1 v H1 le1 s1 r1 q1 => q1 g1 _ H1 (.refl g1) s1 ((sl.up le1).set i r1)⟩
theorem cts_nil : PTs X [] (tM c W tOk) := ⟨fun pins s σ H Q I ⟨g, Z, δ, S, s', sl, q⟩ => pts_nil.run pins s σ H Q I (q g true H (.refl g) s' rfl)⟩
theorem cts_one {t : Expr} {mt : MT} (h : CT X c W t mt) : PTs X [t] (tM c W mt) := pts_one h
end
end DL

end
section
/-! DL, part e: defs and their calls. The promise of a def is its mirror. -/
namespace DL
open PySem PySem.Spec PyProof.Rows L2

/-- a def that keeps a promise where no repr is under way -/
structure FnG (P : Program) (w : World) (K : PySem.W.Frag) (mg : Str → Option Value) (base : Heap) (k : Nat) (f : Addr) (fd : FuncData) (ps : List Str) (sp : Sp) : Prop where
  len : ∀ vs H Q E, sp vs H Q E → vs.length = ps.length
  run : ∀ (A : Around) (outer : List Env) (s : Shared) (H : Hp) (args : Args) (us : List Value) (vs : List V) (Q : VK) (E : XK), A.guards = some [] → Room k A → Env0 P w K mg base A outer s H → BindsTo s fd args (ps.zip us) → Vals vs us → sp vs H Q E →
    codeAny (model P w) A (.call (.ref f) args) (CR (L2.CX P w) outer P w H s Q E) s
theorem FnG.mono {P : Program} {w : World} {K : PySem.W.Frag} {mg : Str → Option Value} {base : Heap} {j k : Nat} {f : Addr} {fd : FuncData} {ps : List Str} {sp : Sp} (F : FnG P w K mg base j f fd ps sp) (h : j ≤ k) : FnG P w K mg base k f fd ps sp :=
  ⟨F.len, fun A outer s H args us vs Q E hg hr => F.run A outer s H args us vs Q E hg (hr.mono h)⟩

/-- a body keeps its def's promise -/
theorem fnG_body {P : Program} {w : World} {K : PySem.W.Frag} {mg : Str → Option Value} {base : Heap} {k : Nat} {f : Addr} {x qual : Str} {params : Arguments} {body : List Stmt} {scope : Scope} {dvs : List V} {kws : List (Str × V)} {fd : FuncData} {N ps : List Str} {sp : Sp}
    (F : FunD K x qual params body scope dvs kws f fd) (S : FnScope N ps scope) (len : ∀ vs H Q E, sp vs H Q E → vs.length = ps.length)
    (hbody : ∀ (cdv : Value) (A : Around) (outer : List Env) (s : Shared) (H : Hp) (vs : List V) (Q : VK) (E : XK), A.guards = some [] → Room k (A.deeper (envOfC qual scope s.heap.objs.size f cdv)) → sp vs H Q E →
      ∃ t, PSs (cxOf (L2.CX P w) P w K mg base N qual scope f cdv A outer s H E) body t ∧ t { nx := fun _ H' => Q .non H', rt := Q } (start N vs) H) : FnG P w K mg base (k + 1) f fd ps sp := by
  obtain ⟨oc, od, dV, kV, doc, pm, an, cdv, ct, osl, rfl, lk, hcd, _, _⟩ := F.ex
  refine ⟨len, ?_⟩
  intro A outer s H args us vs Q E hgd hr e0 hb r hsp
  have inHeap : K.In s.heap := e0.mod.kin.keeps fun b o e => (e0.bs b o e).1
  have noLim : s.heap.NoLimit := e0.mod.nolimit.keeps fun b o e => (e0.bs b o e).1
  have kinds : ∀ y ∈ ps.zip us, scope.names.lookup y.1 = some .local ∨ (scope.names.lookup y.1 = some .cell ∧ ((cellsFrom (s.heap.objs.size + 1) scope.names []).lookup y.1).isSome = true) := by
    rintro ⟨n, v⟩ hy
    rcases S.par n (List.of_mem_zip hy).1 with q | q
    · exact .inl q
    · exact .inr ⟨q, PySem.W.cellsFrom_some _ _ _ (.inl q)⟩
  refine codeAny_call_function hr.depth (inHeap _ _ lk) rfl S.co S.gen rfl (PySem.W.codeRec_of inHeap hcd) (hb _ _ _ _ (wpAny_newFunctionEnv_cells S.kind kinds ?_))
  rintro env rfl s1 cal
  obtain ⟨t, pt, hq⟩ := hbody cdv A outer s H vs Q E hgd (hr.deeper _) hsp
  have I0 := inv_start (CX := L2.CX P w) (E := E) S hr.hd e0 (len _ _ _ _ hsp) r cal
  refine ⟨noLim.keeps cal.toInCall.keep, codeAny_func (wpAny_mono (pt.run [] s1 (start N vs) H _ I0 hq) ?_ fun e s' hs => hs)⟩
  rintro (_ | _ | _ | u) s' hs
  · obtain ⟨_, H', J, q⟩ := hs
    exact ⟨.non, H', J.os, J.bare, J.base, J.hok, rfl, q⟩
  · obtain ⟨_, _, _, q⟩ := hs
    exact q.elim
  · obtain ⟨_, _, _, q⟩ := hs
    exact q.elim
  · obtain ⟨v, _, H', J, rv, q⟩ := hs
    exact ⟨v, H', J.os, J.bare, J.base, J.hok, rv, q⟩

/-! ### a def's mirror -/
/-- what is handed back: the cells that the def made are let go; one that is handed back stands from now on -/
def finD (n0 : Nat) (d : D) (S : Sto) : R D := if S.length = n0 then .ok d S else if n0 ≤ S.length then (match d with
  | .loc n => if n < n0 then .ok d (S.take n0) else (match S[n]? with
    | some (.lst xs) => .ok (.lst xs) (S.take n0)
    | _ => .bad)
  | d => if d.clean = true then .ok d (S.take n0) else .bad) else .bad
/-- .. one cell that is handed back is a cell -/
def finK (n0 : Nat) (d : D) (S : Sto) : R D := if n0 ≤ S.length then (match d with
  | .loc n => if n < n0 then .bad else (match S[n]? with
    | some (.lst xs) => .ok (.loc n0) (S.take n0 ++ [.lst xs])
    | _ => .bad)
  | _ => .bad) else .bad
/-- .. all cells stay -/
def finW (_ : Nat) (d : D) (S : Sto) : R D := .ok d S
def finX (n0 : Nat) (k : Nat) (vs : List D) (S : Sto) : R D := if S.length = n0 then .exc k vs S else if n0 ≤ S.length ∧ D.cleanL vs = true then .exc k vs (S.take n0) else .bad
def mDef (fin : Nat → D → Sto → R D) (n : Nat) (m : MS) : MF := fun ds S => match m (ds.map some ++ List.replicate (n - ds.length) none) S with
  | .nx _ S' => fin S.length .non S'
  | .ret d S' => fin S.length d S'
  | .exc k vs _ S' => finX S.length k vs S'
  | _ => .bad
def spM (c : RC) (n : Nat) (f : MF) : Sp := fun vs H Q E => ∃ g Z S ds, SimH c g S Z H ∧ RepL c g ds vs ∧ ds.length = n ∧ Post c (Rep c) g Z (f ds S) Q E

section
variable {c : RC} {g g' : Wd} {S S' : Sto} {Z H : Hp}
mutual
theorem Rep.clean {G : Hp} {ι ι' : List Addr} : ∀ {d : D} {v : V}, d.clean = true → Rep c ⟨G, ι⟩ d v → Rep c ⟨G, ι'⟩ d v
  | .non, v, _, h => by simpa only [Rep] using h
  | .bl b, v, _, h => by simpa only [Rep] using h
  | .int i, v, _, h => by simpa only [Rep] using h
  | .str s, v, _, h => by simpa only [Rep] using h
  | .glb u, v, _, h => by simpa only [Rep] using h
  | .cls k, v, _, h => by simpa only [Rep] using h
  | .lst ds, v, hc, h => by
    rw [Rep] at h ⊢
    obtain ⟨a, vs, e, s, r⟩ := h
    exact ⟨a, vs, e, s, RepL.clean hc r⟩
  | .tup ds, v, hc, h => by
    rw [Rep] at h ⊢
    obtain ⟨a, vs, e, s, r⟩ := h
    exact ⟨a, vs, e, s, RepL.clean hc r⟩
  | .dic ks ds, v, hc, h => by
    rw [Rep] at h ⊢
    obtain ⟨a, kvs, e, s, q, r⟩ := h
    exact ⟨a, kvs, e, s, q, RepL.clean hc r⟩
  | .ins k ds, v, hc, h => by
    rw [Rep] at h ⊢
    obtain ⟨a, dx, fs, vs, e, s, q, r⟩ := h
    exact ⟨a, dx, fs, vs, e, s, q, RepL.clean hc r⟩
  | .exv k ds, v, hc, h => by
    rw [Rep] at h ⊢
    obtain ⟨a, dd, e, s, q⟩ := h
    refine ⟨a, dd, e, s, ?_⟩
    rcases q with q | ⟨d, fs, vs, e1, e2, e3, r⟩
    · exact .inl q
    · exact .inr ⟨d, fs, vs, e1, e2, e3, RepL.clean hc r⟩
  | .loc n, v, hc, h => by cases hc
theorem RepL.clean {G : Hp} {ι ι' : List Addr} : ∀ {ds : List D} {vs : List V}, D.cleanL ds = true → RepL c ⟨G, ι⟩ ds vs → RepL c ⟨G, ι'⟩ ds vs
  | [], vs, _, h => by simpa only [RepL] using h
  | d :: ds, vs, hc, h => by
    rw [D.cleanL, Bool.and_eq_true] at hc
    rw [RepL] at h ⊢
    obtain ⟨v, r, e, p, q⟩ := h
    exact ⟨v, r, e, Rep.clean hc.1 p, RepL.clean hc.2 q⟩
end
theorem CellRep.clean {G H : Hp} {ι ι' : List Addr} {a : Addr} : ∀ {o : O}, CellRep c ⟨G, ι⟩ H a o → CellRep c ⟨G, ι'⟩ H a o
  | .lst ds, ⟨h, vs, q, r⟩ => ⟨h, vs, q, RepL.clean h r⟩
  | .dic ks ds, ⟨h, kvs, q, z, r⟩ => ⟨h, kvs, q, z, RepL.clean h r⟩
  | .dct ks ds, ⟨h, kvs, q, z, r⟩ => ⟨h, kvs, q, z, RepL.clean h r⟩
  | .ins k ds, ⟨h, dx, fs, vs, q, z, r⟩ => ⟨h, dx, fs, vs, q, z, RepL.clean h r⟩
  | .dead, h => h
/-- the last cells are let go -/
theorem SimH.cut (s : SimH c g' S' Z H) (le : g.le g') {n : Nat} (hn : g.ι.length = n) (hS : n ≤ S'.length) : g.le ⟨g'.G, g.ι⟩ ∧ SimH c ⟨g'.G, g.ι⟩ (S'.take n) Z H := by
  obtain ⟨r, hr⟩ := le.i
  refine ⟨⟨le.g, List.prefix_rfl⟩, s.gk, s.zk, s.zg, ?_, ?_, fun m a o e1 e2 => ?_⟩
  · show g.ι.length = _
    rw [List.length_take, hn]
    omega
  · have nd := s.nd
    rw [← hr, List.nodup_append] at nd
    exact nd.1
  · have hm : m < n := by
      have := (List.getElem?_eq_some_iff.mp e1).1
      rw [← hn]
      exact this
    have e1' : g'.ι[m]? = some a := pre_get le.i e1
    rw [List.getElem?_take_of_lt hm] at e2
    obtain ⟨h1, h2, h3⟩ := s.cell m a o e1' e2
    exact ⟨h1, h2, CellRep.clean (ι := g'.ι) h3⟩
/-- a cell that was let go stands -/
theorem SimH.fix (s : SimH c g S Z H) {a : Addr} {o : HO} (ha : H a = some o) (hi : a ∉ g.ι) (hz : Z a = none) (hg : g.G a = none) : g.le ⟨upd g.G a o, g.ι⟩ ∧ SimH c ⟨upd g.G a o, g.ι⟩ S Z H := by
  have le : g.le ⟨upd g.G a o, g.ι⟩ := ⟨fun x u e => (upd_ne (ne_of_none e hg)).trans e, List.prefix_rfl⟩
  refine ⟨le, fun b u e => ?_, s.zk, fun b u e => ?_, s.len, s.nd, fun n b u e1 e2 => ?_⟩
  · by_cases hb : b = a
    · subst hb
      have e' : some o = some u := upd_same.symm.trans e
      cases e'
      exact .inl ha
    · exact s.gk b u (by rw [← e]; exact (upd_ne hb).symm)
  · have hb : b ≠ a := fun q => by
      rw [q, hz] at e
      cases e
    exact (upd_ne hb).trans (s.zg b u e)
  · obtain ⟨h1, h2, h3⟩ := s.cell n b u e1 e2
    have hb : b ≠ a := fun q => hi (q ▸ List.mem_of_getElem? e1)
    exact ⟨fun hd => (upd_ne hb).trans (h1 hd), h2, h3.up le⟩
theorem fin_keep {d : D} {Q : VK} {E : XK} (hlen : g.ι.length = S.length) (q : Post c (Rep c) g Z (finD S.length d S') Q E) : ∀ g' v H, g.le g' → SimH c g' S' Z H → Rep c g' d v → Q v H := by
  intro g' v H le s r
  unfold finD at q
  split at q
  · exact q g' v H le s r
  · split at q
    · rename_i hS
      obtain ⟨le1, s1⟩ := s.cut le hlen hS
      have other : (if d.clean = true then R.ok d (S'.take S.length) else .bad) = R.ok d (S'.take S.length) → Post c (Rep c) g Z (R.ok d (S'.take S.length)) Q E → d.clean = true → Q v H := fun _ q hc => q _ _ _ le1 s1 (Rep.clean (ι := g'.ι) hc r)
      split at q
      · rename_i n
        split at q
        · rename_i hn
          refine q _ _ _ le1 s1 ?_
          rw [Rep] at r ⊢
          obtain ⟨a, rfl, e⟩ := r
          obtain ⟨rr, hr⟩ := le.i
          refine ⟨a, rfl, ?_⟩
          rw [← hr, List.getElem?_append_left (by omega)] at e
          exact e
        · rename_i hn
          split at q
          · rename_i xs hx
            rw [Rep] at r
            obtain ⟨a, rfl, e⟩ := r
            obtain ⟨h1, h2, hc, vs, hH, rs⟩ := s.cell n a _ e hx
            have na : a ∉ g.ι := fun h => by
              obtain ⟨m, hm, em⟩ := List.getElem_of_mem h
              have e2 : g'.ι[m]? = some a := pre_get le.i (by simp [hm, em])
              have := nodup_at s.nd e e2
              omega
            obtain ⟨le2, s2⟩ := s1.fix hH na h2 (h1 (by simp))
            refine q _ _ _ (le1.trans le2) s2 ?_
            rw [Rep]
            exact ⟨a, vs, rfl, .inl (.inl upd_same), RepL.up le2 (RepL.clean (ι := g'.ι) hc rs)⟩
          · exact q.elim
      · split at q
        · rename_i hc
          exact q _ _ _ le1 s1 (Rep.clean (ι := g'.ι) hc r)
        · exact q.elim
    · exact q.elim
theorem fin_cell {d : D} {Q : VK} {E : XK} (hlen : g.ι.length = S.length) (q : Post c (Rep c) g Z (finK S.length d S') Q E) : ∀ g' v H, g.le g' → SimH c g' S' Z H → Rep c g' d v → Q v H := by
  intro g' v H le s r
  unfold finK at q
  split at q
  · rename_i hS
    obtain ⟨le1, s1⟩ := s.cut le hlen hS
    split at q
    · rename_i n
      split at q
      · exact q.elim
      · rename_i hn
        split at q
        · rename_i xs hx
          rw [Rep] at r
          obtain ⟨a, rfl, e⟩ := r
          obtain ⟨h1, h2, hc, vs, hH, rs⟩ := s.cell n a _ e hx
          have na : a ∉ g.ι := fun h => by
            obtain ⟨m, hm, em⟩ := List.getElem_of_mem h
            have e2 : g'.ι[m]? = some a := pre_get le.i (by simp [hm, em])
            have := nodup_at s.nd e e2
            omega
          have hl : S.length ≤ S'.length := hS
          have lt : (S'.take S.length).length = g.ι.length := by rw [List.length_take, hlen]; omega
          refine q ⟨g'.G, g.ι ++ [a]⟩ _ H ⟨le.g, ⟨[a], rfl⟩⟩ ⟨s1.gk, s1.zk, s1.zg, by simp [lt], ?_, fun m b o e1 e2 => ?_⟩ ?_
          · rw [List.nodup_append]
            exact ⟨s1.nd, by simp, fun x hx y hy => by simp at hy; subst hy; exact fun z => na (z ▸ hx)⟩
          · by_cases hm : m < g.ι.length
            · have e1' : g.ι[m]? = some b := by
                have : (g.ι ++ [a])[m]? = some b := e1
                rwa [List.getElem?_append_left hm] at this
              rw [List.getElem?_append_left (by rw [lt]; exact hm)] at e2
              obtain ⟨k1, k2, k3⟩ := s1.cell m b o e1' e2
              exact ⟨k1, k2, CellRep.clean (ι := g.ι) k3⟩
            · have e0 : m = g.ι.length := by
                have := (List.getElem?_eq_some_iff.mp e1).1
                simp at this
                omega
              subst e0
              have e1' : (g.ι ++ [a])[g.ι.length]? = some b := e1
              simp at e1'
              rw [← lt] at e2
              simp at e2
              subst e1' e2
              exact ⟨h1, h2, hc, vs, hH, RepL.clean (ι := g'.ι) hc rs⟩
          · rw [Rep]
            refine ⟨a, rfl, ?_⟩
            show (g.ι ++ [a])[S.length]? = some a
            rw [← hlen]
            simp
        · exact q.elim
    · exact q.elim
  · exact q.elim
theorem fin_whole {d : D} {Q : VK} {E : XK} (hlen : g.ι.length = S.length) (q : Post c (Rep c) g Z (finW S.length d S') Q E) : ∀ g' v H, g.le g' → SimH c g' S' Z H → Rep c g' d v → Q v H := q
theorem fin_exc {k : Nat} {vs : List D} {Q : VK} {E : XK} (hlen : g.ι.length = S.length) (q : Post c (Rep c) g Z (finX S.length k vs S') Q E) : ∀ g' dd H, g.le g' → SimH c g' S' Z H → XRep c g' Z H k vs dd → E (.ref (c.cl k)) dd H := by
  intro g' dd H le s r
  unfold finX at q
  split at q
  · exact q g' dd H le s r
  · split at q
    · rename_i hS
      obtain ⟨le1, s1⟩ := s.cut le hlen hS.1
      refine q _ dd H le1 s1 ?_
      rcases r with r | ⟨d, fs, ws, e1, e2, ez, e3, r⟩
      · exact .inl r
      · exact .inr ⟨d, fs, ws, e1, e2, ez, e3, RepL.clean (ι := g'.ι) hS.2 r⟩
    · exact q.elim
end
/-- what a way to hand back must do -/
abbrev FinD (c : RC) (fin : Nat → D → Sto → R D) : Prop := ∀ {g : Wd} {S S' : Sto} {Z : Hp} {d : D} {Q : VK} {E : XK}, g.ι.length = S.length → Post c (Rep c) g Z (fin S.length d S') Q E → ∀ g' v H, g.le g' → SimH c g' S' Z H → Rep c g' d v → Q v H
theorem slots_start {c : RC} {g : Wd} {N : List Str} : ∀ {ds : List D} {vs : List V}, RepL c g ds vs → Slots c g (ds.map some ++ List.replicate (N.length - ds.length) none) (start N vs) := fun {ds vs} r => by
  unfold L2.start
  have hl := r.length
  refine ⟨by simp [hl], fun i d e => ?_⟩
  by_cases hi : i < ds.length
  · rw [List.getElem?_append_left (by simpa using hi), List.getElem?_map] at e
    obtain ⟨d', h1, h2⟩ := Option.map_eq_some_iff.mp e
    cases h2
    obtain ⟨v, h3, h4⟩ := r.get h1
    refine ⟨v, ?_, h4⟩
    rw [List.getElem?_append_left (by simp [hl, hi]), List.getElem?_map, h3]
    rfl
  · rw [List.getElem?_append_right (by simpa using Nat.le_of_not_lt hi)] at e
    have := List.eq_of_mem_replicate (List.mem_of_getElem? e)
    cases this
/-- THE RULE for a def: its body's mirror is its promise -/
theorem def_ok {P : Program} {w : World} {K : PySem.W.Frag} {mg : Str → Option Value} {base : Heap} {k : Nat} {f : Addr} {x qual : Str} {params : Arguments} {body : List Stmt} {scope : Scope} {dvs : List V} {kws : List (Str × V)} {fd : FuncData} {N ps : List Str} {c : RC} {fin : Nat → D → Sto → R D} {m : MS}
    (hK : c.K = K) (hnx : c.ex = none) (F : FunD K x qual params body scope dvs kws f fd) (S : FnScope N ps scope) (hfin : FinD c fin)
    (hbody : ∀ (cdv : Value) (A : Around) (outer : List Env) (s : Shared) (H : Hp) (E : XK), Cf k (cxOf (L2.CX P w) P w K mg base N qual scope f cdv A outer s H E) c → CSs (cxOf (L2.CX P w) P w K mg base N qual scope f cdv A outer s H E) c (fun cls d _ H => E cls d H) body m) :
    FnG P w K mg base (k + 1) f fd ps (spM c ps.length (mDef fin N.length m)) := by
  refine fnG_body F S (fun vs H Q E h => ?_) fun cdv A outer s H vs Q E hg hr h => ?_
  · obtain ⟨g, Z, St, ds, _, r, hl, _⟩ := h
    rw [r.length, hl]
  · obtain ⟨g, Z, St, ds, sm, r, hl, q⟩ := h
    refine ⟨sM c (fun cls d _ H => E cls d H) m, hbody _ _ _ _ _ _ ⟨hK, hg, hr, rfl, hnx⟩, g, Z, _, St, sm, slots_start r, ?_⟩
    unfold mDef at q
    split at q
    · rename_i e
      rw [e]
      exact fun g' σ H' le s' sl => hfin sm.len q g' .non H' le s' Rep.non
    · rename_i e
      rw [e]
      exact fun g' v H' le s' rv => hfin sm.len q g' v H' le s' rv
    · rename_i e
      rw [e]
      exact fun g' dd σ H' le s' sl x => fin_exc sm.len q g' dd H' le s' x
    · exact q.elim

/-! ### calls -/
section
variable {X : Cx} {c : RC} {W : WX} {k n : Nat} {f C : Addr} {fd : FuncData} {ps : List Str} {fm : MF} {x : Str} {p pos : Pos} {e : Expr} {es : List Expr} {m : MA}
theorem run_G {sp : Sp} {pins : List (Addr × Obj)} {σ : L2.St} {H : Hp} {s : Shared} {Q : VK} {us : List Value} {vs : List V} {ds : List Value} {dvs : List V} (cf : Cf k X c) (tk : Takes X W) (F : FnG X.prog X.w X.K X.mg X.base k f fd ps sp) (hb : Binds X.K fd ps ds) (hd : Vals dvs ds)
    (I : Inv X pins σ H s) (r : Vals vs us) (h : sp (vs ++ dvs) H Q fun cls d H' => W cls d σ H') : wpAny (model X.prog X.w) X.A (call (.ref f) us) (EP X pins σ Q) X.xe s := by
  have r2 : Vals (vs ++ dvs) (us ++ ds) := r.append hd
  have hl : (us ++ ds).length = ps.length := by rw [← r2.length, F.len _ _ _ _ h]
  refine wpAny_call (codeAny_mono (F.run X.A X.stack s H ⟨us, []⟩ (us ++ ds) (vs ++ dvs) Q _ cf.gd cf.hr I.env0 (hb s us I.kIn hl) r2 h) ?_)
  rintro (err | (_ | _ | _ | u)) s' hq
  · exact passAt tk σ pins H s err s' I hq
  · exact hq.elim
  · exact hq.elim
  · exact hq.elim
  · exact I.after hq
theorem spM_of {g : Wd} {Z : Hp} {S : Sto} {H : Hp} {ds : List D} {vs : List V} {Q : VK} {E : XK} (s : SimH c g S Z H) (r : RepL c g ds vs) (hn : ds.length = n) (q : Post c (Rep c) g Z (fm ds S) Q E) : spM c n fm vs H Q E := ⟨g, Z, S, ds, s, r, hn, q⟩
/-- f(e, ..), all the parameters that have no default given -/
def cut (n : Nat) (fm : MF) (more : List D) : MF := fun ds S => if ds.length + more.length = n then fm (ds ++ more) S else .bad
theorem ce_call {ds : List Value} {dvs : List V} {more : List D} (cf : Cf k X c) (tk : Takes X W) (F : FnG X.prog X.w X.K X.mg X.base k f fd ps (spM c n fm)) (hm : X.mg x = some (.ref f)) (hk : PySem.W.keepIn X.K (.ref f) = true) (hb : Binds X.K fd ps ds) (hd : Vals dvs ds) (hmore : ∀ g, RepL c g more dvs)
    (ha : CA X c W (e :: es) m) (hg : Gl X x := by rfl) (hdb : (x == ("__debug__" : Str)) = false := by decide) (he : starEach (e :: es) X.env = (false, eval e X.env) :: starEach es X.env := by rfl) (hpl : (backTo pos (starEach es X.env)).any (·.1) = false := by rfl) :
    CE X c W (.Call (.Name x p) (e :: es) [] pos) (mCall (cut n fm more) m) := by
  refine ⟨fun pins s σ H Q I ⟨g, Z, δ, S, sm, sl, q⟩ => ?_⟩
  refine wpAny_Call_Name_kw (ld_glob I hg hm ?_ hdb)
  refine PySem.W.callWith_K (h₀ := X.base) I.ok.mod.kin hk (thn (ha.run pos pins s σ H _ I ⟨g, Z, δ, S, sm, sl, Post.bind (Q := fun vs H1 => spM c n fm (vs ++ dvs) H1 Q fun cls d H' => W cls d σ H') q fun ds S1 g1 vs H1 eS le1 s1 r1 q1 => ?_⟩) fun us s1 ⟨vs, H1, I1, r, q⟩ => ⟨I1.kIn, ?_⟩) he hpl
  · unfold cut at q1
    split at q1
    · rename_i hn
      exact spM_of s1 (r1.app (hmore g1)) (by rw [List.length_append]; exact hn) q1
    · exact q1.elim
  · exact run_G cf tk F hb hd I1 r q
theorem ce_call0 {ds : List Value} {dvs : List V} {more : List D} (cf : Cf k X c) (tk : Takes X W) (F : FnG X.prog X.w X.K X.mg X.base k f fd ps (spM c n fm)) (hm : X.mg x = some (.ref f)) (hk : PySem.W.keepIn X.K (.ref f) = true) (hb : Binds X.K fd ps ds) (hd : Vals dvs ds) (hmore : ∀ g, RepL c g more dvs)
    (hg : Gl X x := by rfl) (hdb : (x == ("__debug__" : Str)) = false := by decide) : CE X c W (.Call (.Name x p) [] [] pos) (mCall (cut n fm more) mNil) := by
  refine ⟨fun pins s σ H Q I ⟨g, Z, δ, S, sm, sl, q⟩ => ?_⟩
  refine wpAny_Call_Name_kw (ld_glob I hg hm ?_ hdb)
  refine PySem.W.callWith_K0 I.kIn hk (run_G (us := []) (vs := []) cf tk F hb hd I .nil ?_)
  have q' : Post c (Rep c) g Z (cut n fm more [] S) Q _ := q
  unfold cut at q'
  split at q'
  · rename_i hn
    exact spM_of sm (hmore g) (by simpa using hn) q'
  · exact q'.elim
/-- no default -/
theorem ce_callN (cf : Cf k X c) (tk : Takes X W) (F : FnG X.prog X.w X.K X.mg X.base k f fd ps (spM c n fm)) (hm : X.mg x = some (.ref f)) (hk : PySem.W.keepIn X.K (.ref f) = true) (hb : Binds X.K fd ps [])
    (ha : CA X c W (e :: es) m) (hg : Gl X x := by rfl) (hdb : (x == ("__debug__" : Str)) = false := by decide) (he : starEach (e :: es) X.env = (false, eval e X.env) :: starEach es X.env := by rfl) (hpl : (backTo pos (starEach es X.env)).any (·.1) = false := by rfl) :
    CE X c W (.Call (.Name x p) (e :: es) [] pos) (mCall (cut n fm []) m) := ce_call cf tk F hm hk hb .nil (fun _ => RepL.nil) ha hg hdb he hpl
end
end DL

end
section
/-! DL, part f: own errors of any base, made by an __init__ that stores its parameters; read, held as values. -/
namespace DL
open PySem PySem.Spec PyProof.Rows L2

/-- what the written part says of an error's class -/
structure ExF (K : PySem.W.Frag) (C : Addr) (B newId initId : String) (bmB : List Value) : Prop where
  FB : ExcBaseFacts B newId initId bmB
  SF : StoreFacts B bmB "object.__setattr__" "object"
  ini : PySem.W.excInitIn K C bmB newId = true
  ov : PySem.W.excOver K C bmB = true
  hd : PySem.W.hasDictIn K C = true
  sa : PySem.W.findIn K (.ref C) "__setattr__" = some (some (.builtin "object.__setattr__"))
  ga : PySem.W.findIn K (.ref C) "__getattribute__" = some (some (.builtin "BaseException.__getattribute__"))
  gg : PySem.W.findIn K (.ref C) "__getattr__" = some none
  exC : PySem.W.subIn K (.ref C) (.type "BaseException") = some true
  tyC : PySem.W.typeIn K (.ref C) = some (.type "type")
  kC : PySem.W.keepIn K (.ref C) = true

section
open Builtin Builtin.ObjectAttr
variable {prog : Program} {w : World} {A : Around} {R : Result → Shared → Prop} {hp : Heap} {g : Array GenState} {d : Drawn} {t : Nat} {os : OsState} {K : PySem.W.Frag} {C : Addr} {B newId initId : String} {bmB : List Value}
theorem hasDict_of (h : PySem.W.hasDictIn K C = true) : ∃ cd, PySem.W.clsIn K C = some cd ∧ cd.hasDict = true := by
  unfold PySem.W.hasDictIn at h
  cases e : PySem.W.clsIn K C with
  | none => rw [e] at h; cases h
  | some cd => rw [e] at h; exact ⟨cd, rfl, h⟩
/-- x.name = v, the first attribute of an error -/
theorem sets_first (T : ExF K C B newId initId bmB) {name : Str} {tk : Tok} {v : Value} {x : Addr} {fv : Array Value} (X : K.In hp) (hx : hp.get? x = some { cls := .ref C, data := .fields fv }) (no : PySem.W.takerIn K C name = some none)
    (fin : ∀ h' tk' dx, (∀ b o, b ≠ x → hp.get? b = some o → h'.get? b = some o) → hp.objs.size ≤ dx → dx ≠ x → h'.get? x = some { cls := .ref C, dict := some dx, data := .fields fv } → h'.Ns1 dx (fun y => if y = name then some v else none) → R (.ok (.ret .none)) ⟨h', g, d, tk', os⟩) :
    codeAny (model prog w) A (.call (.builtin "object.__setattr__") ⟨[.ref x, .str name tk, v], []⟩) R ⟨hp, g, d, t, os⟩ := by
  have inst : PySem.W.InstAt hp x { cls := .ref C, data := .fields fv } C none := ⟨hx, rfl, rfl, trivial⟩
  refine PySem.W.osa_openX T.SF X inst T.ov no fun b => ?_
  obtain ⟨cd, hcd, hdi⟩ := hasDict_of T.hd
  have away : hp.objs.size ≠ x := Ne.symm (Nat.ne_of_lt (Heap.lt_size hx))
  have lk := PySem.W.looks_clsIn (M := model prog w) X hcd
  obtain ⟨nm, bs, mro, ns, qn, hd, sn, sb, ab, col, del⟩ := cd
  obtain rfl : hd = true := hdi
  show wpAny _ _ (storeInOwnDict (.ref x) (.ref C) (.str name tk) name v b) _ _ _
  unfold storeInOwnDict ownDictForStores
  repeat (first | with_reducible refine PySem.HandSPX.store_in_new ?_ ?_ | with_reducible refine wpAny_loadPart_at hx ?_ | with_reducible refine lk.at ?_ | wp_step)
  · exact ⟨_, #[], _, (Heap.get?_update_ne _ _ _ _ away).trans (Heap.get?_push_at rfl rfl), rfl, fun e he => absurd he (by simp), fun _ => rfl⟩
  · intro h2 tk2 hn2 same
    refine fin h2 tk2 hp.objs.size (fun c o hc ho => ?_) (Nat.le_refl _) away ?_ hn2
    · refine (same.2 c (Nat.ne_of_lt (Heap.lt_size ho))).trans ?_
      rw [Heap.get?_update_ne _ _ _ _ hc]
      exact Heap.get?_push_of_some _ ho
    · refine (same.2 x away.symm).trans ?_
      exact Heap.get?_update_self _ (Heap.get?_push_of_some _ hx) rfl
/-- a further one -/
theorem sets_next (T : ExF K C B newId initId bmB) {name : Str} {tk : Tok} {v : Value} {x dx : Addr} {fv : Array Value} {m0 : Str → Option Value} {nl : List Str} (X : K.In hp) (hx : hp.get? x = some { cls := .ref C, dict := some dx, data := .fields fv }) (hns : hp.Ns1 dx m0) (hw : Within m0 nl)
    (few : nl.length ≤ 1000) (no : PySem.W.takerIn K C name = some none)
    (fin : ∀ h' tk', (∀ b o, b ≠ dx → hp.get? b = some o → h'.get? b = some o) → h'.Ns1 dx (fun y => if y = name then some v else m0 y) → R (.ok (.ret .none)) ⟨h', g, d, tk', os⟩) :
    codeAny (model prog w) A (.call (.builtin "object.__setattr__") ⟨[.ref x, .str name tk, v], []⟩) R ⟨hp, g, d, t, os⟩ := by
  obtain ⟨oD, _, _, hoD, _, _⟩ := hns.count hw
  have inst : PySem.W.InstAt hp x { cls := .ref C, dict := some dx, data := .fields fv } C (some oD) := ⟨hx, rfl, rfl, hoD⟩
  refine PySem.W.osa_openX T.SF X inst T.ov no fun b => ?_
  obtain ⟨cd, hcd, hdi⟩ := hasDict_of T.hd
  have lk := PySem.W.looks_clsIn (M := model prog w) X hcd
  obtain ⟨nm, bs, mro, ns, qn, hd, sn, sb, ab, col, del⟩ := cd
  obtain rfl : hd = true := hdi
  show wpAny _ _ (storeInOwnDict (.ref x) (.ref C) (.str name tk) name v b) _ _ _
  unfold storeInOwnDict ownDictForStores
  repeat (first | with_reducible refine PySem.OEX.store_in_old hns hw few ?_ | with_reducible refine wpAny_loadPart_at hx ?_ | with_reducible refine lk.at ?_ | wp_step)
  intro h2 tk2 hn2 same
  exact fin h2 tk2 (fun c o hc ho => (same.2 c hc).trans ho) hn2
end

section
variable {X : Cx} {pins : List (Addr × Obj)} {σ : L2.St} {H : Hp} {s : Shared} {a C dx : Addr} {f : Str} {y : V} {u : Value} {fs : List (Str × V)} {Q : Unit → Shared → Prop} {E : Value → Shared → Prop} {A : Around} {B newId initId : String} {bmB : List Value}
/-- what is beside an error under way, when it gets its dict -/
theorem kept_beside {P : Program} {w : World} {hp h' : Heap} (ok : HOk P w H hp) (e : H a = some (exo a C none)) (hnd : H dx = none) (k : ∀ b o, b ≠ a → hp.get? b = some o → h'.get? b = some o) (ea : ObjOk P w (upd (upd H dx (exd dx fs)) a (exo a C (some dx))) h' a (exo a C (some dx)))
    (ed : ObjOk P w (upd (upd H dx (exd dx fs)) a (exo a C (some dx))) h' dx (exd dx fs)) : HOk P w (upd (upd H dx (exd dx fs)) a (exo a C (some dx))) h' := by
  intro b o q
  by_cases hb : b = a
  · subst hb
    rw [upd_same] at q
    cases q
    exact ea
  · by_cases hd : b = dx
    · subst hd
      rw [upd_ne hb, upd_same] at q
      cases q
      exact ed
    · rw [upd_ne hb, upd_ne hd] at q
      refine (ok b o q).stay (fun c v hc z => ?_) (fun c hc => ?_) fun c xs hc => ?_
      · refine k c v ?_ z
        rcases hc with rfl | hc
        · exact hb
        · exact at_ne e hc exo_own
      · rw [upd_ne (at_ne e hc exo_own), upd_ne (ne_of_none hc hnd)]
        exact hc
      · rw [upd_ne (at_ne e hc exo_tup), upd_ne (ne_of_none hc hnd)]
        exact hc
theorem ost_first (T : ExF X.K C B newId initId bmB) (I : Inv X pins σ H s) (e : H a = some (exo a C none)) (no : NoAttr X.K C f) (ry : RelV y u)
    (h : ∀ dx s', H dx = none → dx ≠ a → Inv X pins σ (upd (upd H dx (exd dx [(f, y)])) a (exo a C (some dx))) s' → Q () s') : wpAny (model X.prog X.w) A (setAttr (.ref a) f u) Q E s := by
  obtain ⟨t1, ho⟩ := exo_at I.hok e
  obtain ⟨hp, g, d, t, os⟩ := s
  have inst : PySem.W.InstAt hp a { cls := .ref C, data := .fields #[.ref t1, .none, .none, .none, .bool false, .none] } C none := ⟨ho, rfl, rfl, trivial⟩
  refine PySem.W.set_plain I.kIn inst T.sa (sets_first T I.kIn ho no.taker fun h' tk' dx k dn dne hx hn => ?_)
  have hnd : H dx = none := I.hok.fresh dn
  have old : ∀ {b : Addr} {o : Obj}, hp.get? b = some o → b ≠ dx := fun z q => by
    have := Heap.lt_size z
    rw [q] at this
    exact absurd (Nat.lt_of_lt_of_le this dn) (Nat.lt_irrefl _)
  have na : ∀ {b : Addr}, H b = none → b ≠ a := fun n z => by rw [z, e] at n; cases n
  refine h dx _ hnd dne (I.un (t' := tk') ?_ (kept_beside I.hok e hnd k (exo_ok hx) (exd_ok hn (relO_put (fs := []) ry fun g => True.intro))))
  refine ⟨fun b o q n _ _ => k b o (na n) q, fun b o q n _ _ => ⟨o.slots, k b o (na n) q⟩, fun b o q n _ => ?_, fun b o q _ => ?_, fun b xs q => ?_, fun b o v q => ?_, fun b ps q => ⟨#[], ?_⟩⟩
  · rw [upd_ne (na n), upd_ne (old q)]
    exact n
  · by_cases hb : b = a
    · exact ⟨_, hb ▸ hx⟩
    · exact ⟨o, k b o hb q⟩
  · rw [upd_ne (at_ne e q exo_tup), upd_ne (ne_of_none q hnd)]
    exact q
  · rw [upd_ne (at_ne e q exo_frz), upd_ne (ne_of_none q hnd)]
    exact q
  · rw [upd_ne (at_ne e q exo_tbl), upd_ne (ne_of_none q hnd), q]
    simp
theorem ost_next (T : ExF X.K C B newId initId bmB) (I : Inv X pins σ H s) (e : H a = some (exo a C (some dx))) (ed : H dx = some (exd dx fs)) (hl : fs.length ≤ 900) (no : NoAttr X.K C f) (ry : RelV y u)
    (h : ∀ s', Inv X pins σ (upd H dx (exd dx ((f, y) :: fs))) s' → Q () s') : wpAny (model X.prog X.w) A (setAttr (.ref a) f u) Q E s := by
  obtain ⟨t1, ho⟩ := exo_at I.hok e
  obtain ⟨mA, hns, rel⟩ := exd_at I.hok ed
  obtain ⟨hp, g, d, t, os⟩ := s
  have hw := within_of rel
  have few : (fs.map (·.1)).length ≤ 1000 := by rw [List.length_map]; omega
  obtain ⟨oD, _, _, hoD, _, _⟩ := hns.count hw
  have inst : PySem.W.InstAt hp a { cls := .ref C, dict := some dx, data := .fields #[.ref t1, .none, .none, .none, .bool false, .none] } C (some oD) := ⟨ho, rfl, rfl, hoD⟩
  refine PySem.W.set_plain I.kIn inst T.sa (sets_next T I.kIn ho hns hw few no.taker fun h' tk' k hn => ?_)
  have there : ∃ o, h'.get? dx = some o := by
    obtain ⟨o, _, _, e', _⟩ := hn
    exact ⟨o, e'⟩
  exact h _ (I.write (t' := tk') (x := dx) (e := dx) (o := exd dx ((f, y) :: fs)) (by rw [ed]; exact True.intro) (.inl rfl) k there (exd_ok hn (relO_put ry rel)))
end

/-! ### the __init__ of an error: self.f = f, once to thrice -/
/-- the promise -/
def spX (c : RC) (k n : Nat) : Sp := fun vs H Q _ => ∃ a ws, vs = .ref a :: ws ∧ ws.length = n ∧ H a = some (exo a (c.cl k) none) ∧ ∀ d fs, H d = none → d ≠ a → Att (c.fl k) ws fs → Q .non (upd (upd H d (exd d fs)) a (exo a (c.cl k) (some d)))
def tFst (K : PySem.W.Frag) (f : Str) (to te : TE) : TS := fun Dn σ H => te σ H fun y H1 => to σ H1 fun x H2 => ∃ (a C : Addr) (B newId initId : String) (bmB : List Value), x = .ref a ∧ ExF K C B newId initId bmB ∧ NoAttr K C f ∧
  ((H2 a = some (exo a C none) ∧ ∀ dx, H2 dx = none → dx ≠ a → Dn.nx σ (upd (upd H2 dx (exd dx [(f, y)])) a (exo a C (some dx)))) ∨
    ∃ (dx : Addr) (fs : List (Str × V)), H2 a = some (exo a C (some dx)) ∧ H2 dx = some (exd dx fs) ∧ fs.length ≤ 900 ∧ Dn.nx σ (upd H2 dx (exd dx ((f, y) :: fs))))
theorem ps_fst {X : Cx} {o e : Expr} {to te : TE} {f : Str} {p' pos : Pos} (ho : PE X o to) (he : PE X e te) (hs : swapsWith e (some (.Attribute o f p')) pos.line X.env = pure false := by rfl) : PS X (.Assign [.Attribute o f p'] e pos) (tFst X.K f to te) := by
  refine ⟨fun pins s σ H Dn I h => plainObj_wpAny_Assign_Attribute (thn (he.run pins s σ H _ I h) fun v s1 ⟨y, H1, I1, r1, q1⟩ => thn (ho.run pins s1 σ H1 _ I1 q1) fun u s2 ⟨x, H2, I2, r2, a, C, B, ni, ii, bm, ex, T, hno, q⟩ => ?_) hs⟩
  subst ex
  obtain rfl : u = Value.ref a := r2
  rcases q with ⟨ea, q⟩ | ⟨dx, fs, ea, ed, hl, q⟩
  · exact ost_first T I2 ea hno r1 fun dx s' n ne J => ⟨σ, _, J, q dx n ne⟩
  · exact ost_next T I2 ea ed hl hno r1 fun s' J => ⟨σ, _, J, q⟩
/-- what one error's class brings -/
structure ErrF (c : RC) (k : Nat) : Prop where
  ex : ∃ B newId initId bmB, ExF c.K (c.cl k) B newId initId bmB
  no : ∀ f ∈ c.fl k, NoAttr c.K (c.cl k) f
  nd : (c.fl k).Nodup
theorem upd_comm {H : Hp} {a b : Addr} {o u : HO} (h : a ≠ b) : upd (upd H a o) b u = upd (upd H b u) a o := by
  funext x
  unfold upd
  by_cases h1 : x = a
  · have : ¬ x = b := fun z => h (h1.symm.trans z)
    simp [h1, h]
  · by_cases h2 : x = b
    · simp [h2, Ne.symm h]
    · simp [h1, h2]
theorem lkc {f g : Str} {v : V} {fs : List (Str × V)} : ((f, v) :: fs).lookup g = if g = f then some v else fs.lookup g := by
  by_cases h : g = f
  · subst h
    simp [List.lookup]
  · have : (g == f) = false := by simpa using h
    simp [List.lookup, this, h]
theorem att1 {f : Str} {v : V} : Att [f] [v] [(f, v)] := ⟨fun i u e => by
  match i, e with
  | 0, e => cases e; exact ⟨f, rfl, by rw [lkc, if_pos rfl]⟩, fun g h => by
  have : g ≠ f := by simpa using h
  rw [lkc, if_neg this]; rfl, Nat.le_refl _⟩
theorem att2 {f1 f2 : Str} {v1 v2 : V} (h : f1 ≠ f2) : Att [f1, f2] [v1, v2] [(f2, v2), (f1, v1)] := ⟨fun i u e => by
  match i, e with
  | 0, e => cases e; exact ⟨f1, rfl, by rw [lkc, if_neg h, lkc, if_pos rfl]⟩
  | 1, e => cases e; exact ⟨f2, rfl, by rw [lkc, if_pos rfl]⟩, fun g h => by
  have : g ≠ f1 ∧ g ≠ f2 := by simpa using h
  rw [lkc, if_neg this.2, lkc, if_neg this.1]; rfl, Nat.le_refl _⟩
theorem att3 {f1 f2 f3 : Str} {v1 v2 v3 : V} (h : f1 ≠ f2) (h' : f1 ≠ f3) (h'' : f2 ≠ f3) : Att [f1, f2, f3] [v1, v2, v3] [(f3, v3), (f2, v2), (f1, v1)] := ⟨fun i u e => by
  match i, e with
  | 0, e => cases e; exact ⟨f1, rfl, by rw [lkc, if_neg h', lkc, if_neg h, lkc, if_pos rfl]⟩
  | 1, e => cases e; exact ⟨f2, rfl, by rw [lkc, if_neg h'', lkc, if_pos rfl]⟩
  | 2, e => cases e; exact ⟨f3, rfl, by rw [lkc, if_pos rfl]⟩, fun g h => by
  have : g ≠ f1 ∧ g ≠ f2 ∧ g ≠ f3 := by simpa using h
  rw [lkc, if_neg this.2.2, lkc, if_neg this.2.1, lkc, if_neg this.1]; rfl, Nat.le_refl _⟩
section
variable {P : Program} {w : World} {K : PySem.W.Frag} {mg : Str → Option Value} {base : Heap} {c : RC} {k : Nat} {f : Addr} {fd : FuncData} {x qual : Str} {params : Arguments} {scope : Scope} {dvs : List V} {kws : List (Str × V)}
theorem init1 {body : List Stmt} {p1 : Str} (hK : c.K = K) (F : FunD K x qual params body scope dvs kws f fd) (S : FnScope ["self", p1] ["self", p1] scope) (T : ErrF c k) (hf : c.fl k = [p1])
    (hb : ∀ X : Cx, X.N = (["self", p1] : List Str) → X.env.scope = scope → PSs X body (tFst X.K p1 (tVar 0) (tVar 1))) : FnG P w K mg base 1 f fd ["self", p1] (spX c k 1) := by
  refine fnG_body F S (fun vs H Q E h => ?_) fun cdv A outer s H vs Q E hg hr h => ⟨_, hb _ rfl rfl, ?_⟩
  · obtain ⟨a, ws, rfl, hl, _⟩ := h
    simp [hl]
  · obtain ⟨a, ws, rfl, hl, ha, q⟩ := h
    match ws, hl with
    | [v], _ =>
      obtain ⟨B, ni, ii, bm, ex⟩ := T.ex
      subst hK
      refine ⟨v, rfl, _, rfl, a, _, B, ni, ii, bm, rfl, ex, T.no p1 (by rw [hf]; exact List.mem_cons_self), .inl ⟨ha, fun dx hn hne => q dx _ hn hne (by rw [hf]; exact att1)⟩⟩
theorem init2 {body : List Stmt} {p1 p2 : Str} (hK : c.K = K) (F : FunD K x qual params body scope dvs kws f fd) (S : FnScope ["self", p1, p2] ["self", p1, p2] scope) (T : ErrF c k) (hf : c.fl k = [p1, p2])
    (hb : ∀ X : Cx, X.N = (["self", p1, p2] : List Str) → X.env.scope = scope → PSs X body (tSeq (tFst X.K p1 (tVar 0) (tVar 1)) (tFst X.K p2 (tVar 0) (tVar 2)))) : FnG P w K mg base 1 f fd ["self", p1, p2] (spX c k 2) := by
  refine fnG_body F S (fun vs H Q E h => ?_) fun cdv A outer s H vs Q E hg hr h => ⟨_, hb _ rfl rfl, ?_⟩
  · obtain ⟨a, ws, rfl, hl, _⟩ := h
    simp [hl]
  · obtain ⟨a, ws, rfl, hl, ha, q⟩ := h
    match ws, hl with
    | [v, v2], _ =>
      obtain ⟨B, ni, ii, bm, ex⟩ := T.ex
      subst hK
      have nd := T.nd
      rw [hf] at nd
      have hne12 : p1 ≠ p2 := by
        intro z
        rw [z] at nd
        simp at nd
      refine ⟨v, rfl, _, rfl, a, _, B, ni, ii, bm, rfl, ex, T.no p1 (by rw [hf]; exact List.mem_cons_self), .inl ⟨ha, fun dx hn hne => ?_⟩⟩
      refine ⟨v2, rfl, _, rfl, a, _, B, ni, ii, bm, rfl, ex, T.no p2 (by rw [hf]; simp), .inr ⟨dx, _, upd_same, (by rw [upd_ne hne, upd_same]), by simp, ?_⟩⟩
      have q2 := q dx [(p2, v2), (p1, v)] hn hne (by rw [hf]; exact att2 hne12)
      rw [upd_comm (Ne.symm hne), upd_upd]
      exact q2
theorem init3 {body : List Stmt} {p1 p2 p3 : Str} (hK : c.K = K) (F : FunD K x qual params body scope dvs kws f fd) (S : FnScope ["self", p1, p2, p3] ["self", p1, p2, p3] scope) (T : ErrF c k) (hf : c.fl k = [p1, p2, p3])
    (hb : ∀ X : Cx, X.N = (["self", p1, p2, p3] : List Str) → X.env.scope = scope → PSs X body (tSeq (tFst X.K p1 (tVar 0) (tVar 1)) (tSeq (tFst X.K p2 (tVar 0) (tVar 2)) (tFst X.K p3 (tVar 0) (tVar 3))))) : FnG P w K mg base 1 f fd ["self", p1, p2, p3] (spX c k 3) := by
  refine fnG_body F S (fun vs H Q E h => ?_) fun cdv A outer s H vs Q E hg hr h => ⟨_, hb _ rfl rfl, ?_⟩
  · obtain ⟨a, ws, rfl, hl, _⟩ := h
    simp [hl]
  · obtain ⟨a, ws, rfl, hl, ha, q⟩ := h
    match ws, hl with
    | [v, v2, v3], _ =>
      obtain ⟨B, ni, ii, bm, ex⟩ := T.ex
      subst hK
      have nd := T.nd
      rw [hf] at nd
      have hne : p1 ≠ p2 ∧ p1 ≠ p3 ∧ p2 ≠ p3 := by
        simp only [List.nodup_cons, List.mem_cons, List.not_mem_nil, or_false, not_or] at nd
        exact ⟨nd.1.1, nd.1.2, nd.2.1⟩
      refine ⟨v, rfl, _, rfl, a, _, B, ni, ii, bm, rfl, ex, T.no p1 (by rw [hf]; exact List.mem_cons_self), .inl ⟨ha, fun dx hn hda => ?_⟩⟩
      refine ⟨v2, rfl, _, rfl, a, _, B, ni, ii, bm, rfl, ex, T.no p2 (by rw [hf]; simp), .inr ⟨dx, _, upd_same, (by rw [upd_ne hda, upd_same]), by simp, ?_⟩⟩
      refine ⟨v3, rfl, _, rfl, a, _, B, ni, ii, bm, rfl, ex, T.no p3 (by rw [hf]; simp), .inr ⟨dx, _, (by rw [upd_ne (Ne.symm hda), upd_same]), upd_same, by simp, ?_⟩⟩
      have q2 := q dx [(p3, v3), (p2, v2), (p1, v)] hn hda (by rw [hf]; exact att3 hne.1 hne.2.1 hne.2.2)
      rw [upd_upd, upd_comm (Ne.symm hda), upd_upd]
      exact q2
end
end DL

end
section
/-! DL, part g: own errors as values, their attributes, isinstance; repr; displays of dicts. -/
namespace DL
open PySem PySem.Spec PyProof.Rows L2

section
variable {X : Cx} {pins : List (Addr × Obj)} {σ : L2.St} {H : Hp} {s : Shared} {h' : Heap}
/-- a new thing at a place that was empty -/
theorem laid_at {a : Addr} {o : HO} {t' : Nat} (I : Inv X pins σ H s) (k : ∀ b u, s.heap.get? b = some u → h'.get? b = some u) (hn : s.heap.get? a = none) (new : ObjOk X.prog X.w (upd H a o) h' a o) : Inv X pins σ (upd H a o) { s with heap := h', toks := t' } := by
  have hna : H a = none := I.hok.gone hn
  have off : ∀ {b : Addr} {u : Obj}, s.heap.get? b = some u → b ≠ a := fun q z => by
    rw [z, hn] at q
    cases q
  refine I.un ⟨fun b u q _ _ _ => k b u q, fun b u q _ _ _ => ⟨u.slots, k b u q⟩, fun b u q n _ => ?_, fun b u q _ => ⟨u, k b u q⟩, fun b xs q => ?_, fun b u v q => ?_, fun b ps q => ⟨#[], ?_⟩⟩ fun b u q => ?_
  · rw [upd_ne (off q)]
    exact n
  · rw [upd_ne (ne_of_none q hna)]
    exact q
  · rw [upd_ne (ne_of_none q hna)]
    exact q
  · rw [upd_ne (ne_of_none q hna), q]
    simp
  · by_cases hb : b = a
    · subst hb
      rw [upd_same] at q
      cases q
      exact new
    · rw [upd_ne hb] at q
      refine (I.hok b u q).stay (fun c v hc z => k c v z) (fun c hc => ?_) fun c xs hc => ?_
      · rw [upd_ne (ne_of_none hc hna)]
        exact hc
      · rw [upd_ne (ne_of_none hc hna)]
        exact hc
end

/-! ### making an error -/
def fExc (k n : Nat) (xs : List D) (S : Sto) : R D := if xs.length = n ∧ n ≤ 1000 then .ok (.exv k xs) S else .bad
section
variable {X : Cx} {c : RC} {W : WX} {k n j : Nat} {x : Str} {p pos : Pos} {e : Expr} {es : List Expr} {m : MA}
/-- what stands for making an error of class k from n things -/
structure ErrM (P : Program) (w : World) (K : PySem.W.Frag) (mg : Str → Option Value) (base : Heap) (c : RC) (j k n : Nat) : Prop where
  T : ErrF c k
  kC : PySem.W.keepIn K (.ref (c.cl k)) = true
  mi : ∃ fI fd ps, PySem.W.findIn K (.ref (c.cl k)) "__init__" = some (some (.ref fI)) ∧ PySem.W.typeIn K (.ref fI) = some (.type "function") ∧ FnG P w K mg base j fI fd ps (spX c k n) ∧ Binds K fd ps []
theorem guards_make {A : Around} {C : Addr} {us : List Value} {kw : List (Str × Value)} (h : A.guards = some []) : (A.under (.builtin "type.__call__" ⟨.ref C :: us, kw⟩)).guards = some [] := by
  have hg : (Code.builtin "type.__call__" ⟨.ref C :: us, kw⟩).isGuard = false := by
    show guardIds.contains "type.__call__" = false
    decide +kernel
  simp [Around.under, Code.guards, hg, pushGuards, h]
theorem exv_rep {g : Wd} {S : Sto} {Z H1 : Hp} {ds : List D} {vs : List V} {a d : Addr} {fs : List (Str × V)} {Q : VK} {E : XK} (s1 : SimH c g S Z H1) (r1 : RepL c g ds vs) (ha : H1 a = none) (hd : H1 d = none) (hda : d ≠ a) (at_ : Att (c.fl k) vs fs)
    (q : Post c (Rep c) g Z (.ok (.exv k ds) S) Q E) : Q (.ref a) (upd (upd H1 d (exd d fs)) a (exo a (c.cl k) (some d))) := by
  obtain ⟨le2, s2⟩ := s1.new hd (exd d fs)
  have ha2 : upd H1 d (exd d fs) a = none := by
    rw [upd_ne (Ne.symm hda)]
    exact ha
  obtain ⟨le3, s3⟩ := s2.new ha2 (exo a (c.cl k) (some d))
  refine q _ _ _ (le2.trans le3) s3 ?_
  rw [Rep]
  refine ⟨a, some d, rfl, .inl upd_same, .inr ⟨d, fs, vs, rfl, .inl ?_, at_, RepL.up (le2.trans le3) r1⟩⟩
  show upd (upd g.G d (exd d fs)) a _ d = _
  rw [upd_ne hda, upd_same]
theorem ce_exc (cf : Cf (j + 1) X c) (tk : Takes X W) (M : ErrM X.prog X.w X.K X.mg X.base c j k n) (hm : X.mg x = some (.ref (c.cl k))) (ha : CA X c W (e :: es) m)
    (hg : Gl X x := by rfl) (hdb : (x == ("__debug__" : Str)) = false := by decide) (he : starEach (e :: es) X.env = (false, eval e X.env) :: starEach es X.env := by rfl) (hpl : (backTo pos (starEach es X.env)).any (·.1) = false := by rfl) :
    CE X c W (.Call (.Name x p) (e :: es) [] pos) (mCall (fExc k n) m) := by
  obtain ⟨fI, fd, ps, iC, tI, F1, hb⟩ := M.mi
  obtain ⟨B, newId, initId, bmB, T⟩ := M.T.ex
  refine ⟨fun pins s σ H Q I ⟨g, Z, δ, S, sm, sl, q⟩ => ?_⟩
  refine wpAny_Call_Name_kw (ld_glob I hg hm ?_ hdb)
  refine PySem.W.callWith_K (h₀ := X.base) I.ok.mod.kin M.kC (thn (ha.run pos pins s σ H _ I ⟨g, Z, δ, S, sm, sl, Post.bind (Q := fun vs H1 => ∃ g1 S1 ds, SimH c g1 S1 Z H1 ∧ RepL c g1 ds vs ∧ ds.length = n ∧ n ≤ 1000 ∧ Post c (Rep c) g1 Z (.ok (.exv k ds) S1) Q fun cls d H' => W cls d σ H') q fun ds S1 g1 vs H1 eS le1 s1 r1 q1 => ?_⟩) fun us s1 hx => ?_) he hpl
  · unfold fExc at q1
    split at q1
    · rename_i hz
      exact ⟨g1, S1, ds, s1, r1, hz.1, hz.2, q1⟩
    · exact q1.elim
  obtain ⟨vs, H1, I1, r1, g1, S1, ds, s1', rp, hn, hz, q1⟩ := hx
  refine ⟨I1.kIn, ?_⟩
  show wpAny _ _ (call (.ref (c.cl k)) us) _ _ _
  have kk0 : c.K = X.K := cf.kk
  obtain ⟨nm, N', qn, bs, bm, hdct, sn, sub, ab, col, dd, k0, k1, k2, k3, k5, hC, hT⟩ := PySem.W.excInit_of I1.kIn (by rw [← kk0]; exact T.ini)
  obtain ⟨hp, gs, dr, tok, os⟩ := s1
  have hsz : hp.objs.size ≤ hp.objs.size + 1 := Nat.le_succ _
  have hna : H1 (hp.objs.size + 1) = none := I1.hok.fresh hsz
  have lvs : vs.length = n := by rw [rp.length, hn]
  have lus : us.length = n := by rw [← Paired.length r1, lvs]
  have I2 : Inv X pins σ (upd H1 (hp.objs.size + 1) (exo (hp.objs.size + 1) (c.cl k) none)) ⟨(hp.push (PySem.W.kdv_tup us)).push (PySem.HandSPX.excO (c.cl k) hp.objs.size), gs, dr, tok, os⟩ :=
    I1.laid (t' := tok) (a := hp.objs.size + 1) (o := exo (hp.objs.size + 1) (c.cl k) none) (h' := (hp.push (PySem.W.kdv_tup us)).push (PySem.HandSPX.excO (c.cl k) hp.objs.size)) (fun b o e => Heap.get?_push_of_some _ (Heap.get?_push_of_some _ e)) hsz (exo_ok (t1 := hp.objs.size) (by heap_get))
  have sp1 : spX c k n (V.ref (hp.objs.size + 1) :: vs) (upd H1 (hp.objs.size + 1) (exo (hp.objs.size + 1) (c.cl k) none)) (fun v H2 => v = .non ∧ Q (.ref (hp.objs.size + 1)) H2) (fun cls d H' => W cls d σ H') := by
    refine ⟨_, vs, rfl, lvs, upd_same, fun d fs hd hda at_ => ⟨rfl, ?_⟩⟩
    rw [upd_ne hda] at hd
    rw [upd_comm (Ne.symm hda), upd_upd]
    exact exv_rep s1' rp hna hd hda at_ q1
  have lps : (Value.ref (hp.objs.size + 1) :: us).length = ps.length := by
    have e1 := F1.len _ _ _ _ sp1
    rw [List.length_cons, lvs] at e1
    rw [List.length_cons, lus, e1]
  have hus : us.length ≤ sizeLine := by
    rw [lus, sizeLine_eq]
    omega
  refine wpAny_call (PySem.HandSPX.call_own T.FB hT hC (PySem.W.looks_findIn I1.kIn iC) (fun self => PySem.W.bind_fn I1.kIn self tI) hus
    (codeAny_mono (F1.run _ X.stack _ _ ⟨Value.ref (hp.objs.size + 1) :: us, []⟩ (Value.ref (hp.objs.size + 1) :: us) (V.ref (hp.objs.size + 1) :: vs) _ _ (guards_make cf.gd) (cf.hr.make (c.cl k) us []) (I2.env0.make (c.cl k) us []) ?_ (Paired.cons (show RelV (V.ref (hp.objs.size + 1)) (Value.ref (hp.objs.size + 1)) from rfl) r1) sp1) fun r s' hq => ?_))
  · have := hb ⟨(hp.push (PySem.W.kdv_tup us)).push (PySem.HandSPX.excO (c.cl k) hp.objs.size), gs, dr, tok, os⟩ (Value.ref (hp.objs.size + 1) :: us) I2.kIn (by simpa using lps)
    simpa using this
  · rcases r with err | (_ | _ | _ | u)
    · exact passAt tk σ pins _ _ err s' I2 hq
    · exact hq.elim
    · exact hq.elim
    · exact hq.elim
    · obtain ⟨v, H', J, rv, ev, q2⟩ := I2.after hq
      subst ev
      exact ⟨rv, .ref (hp.objs.size + 1), H', J, rfl, q2⟩
/-- an error of a class without an __init__, made of nothing -/
theorem ce_exc0 {B newId initId : String} {bmB : List Value} (cf : Cf j X c) (F : ExcBaseFacts B newId initId bmB) (ei : PySem.W.excIn X.K (c.cl k) bmB newId = true) (kC : PySem.W.keepIn X.K (.ref (c.cl k)) = true) (hm : X.mg x = some (.ref (c.cl k)))
    (hg : Gl X x := by rfl) (hdb : (x == ("__debug__" : Str)) = false := by decide) : CE X c W (.Call (.Name x p) [] [] pos) (mC (.exv k [])) := by
  refine ⟨fun pins s σ H Q I ⟨g, Z, δ, S, sm, sl, q⟩ => ?_⟩
  refine wpAny_Call_Name_kw (ld_glob I hg hm ?_ hdb)
  refine PySem.W.callWith_K0 I.kIn kC ?_
  obtain ⟨bm, N', nm, qn, bs, hdct, sn, sub, ab, col, dd, k0, k1, k2, k3, k5, mN, hC, hN, hni, T⟩ := exc_obj I.kIn ei
  obtain ⟨hp, gs, dr, tok, os⟩ := s
  refine wpAny_call_exc_subT F T hC hN hni (fun h' a hx => ?_) (by show 0 ≤ sizeLine; omega)
  obtain ⟨t1, ho, _, _⟩ := hx.there
  have hna : H a = none := I.hok.gone hx.new
  obtain ⟨le, s2⟩ := sm.new hna (exo a (c.cl k) none)
  refine ⟨.ref a, _, laid_at (t' := tok) I hx.keeps hx.new (exo_ok ho), rfl, q _ _ _ le s2 ?_⟩
  rw [Rep]
  exact ⟨a, none, rfl, .inl upd_same, .inl ⟨rfl, rfl⟩⟩
end

/-! ### reading an attribute; isinstance -/
def atIx (fl : Nat → List Str) (f : Str) (k : Nat) (ds : List D) : Option D := match (fl k).idxOf? f with
  | some i => ds[i]?
  | none => none
def insOf (S : Sto) : D → Option (Nat × List D)
  | .ins k ds => some (k, ds)
  | .loc n => match S[n]? with
    | some (.ins k ds) => some (k, ds)
    | _ => none
  | _ => none
def attOf (fl : Nat → List Str) (f : Str) : D → Sto → Option D
  | .exv k ds, _ => if k < 100 then atIx fl f k ds else none
  | d, S => match insOf S d with
    | some (k, ds) => if 100 ≤ k then atIx fl f k ds else none
    | none => none
def fAtt (fl : Nat → List Str) (f : Str) (x : D) (S : Sto) : R D := match attOf fl f x S with
  | some d => .ok d S
  | none => .bad
/-- what stands for an error held as a value -/
structure ErrA (K : PySem.W.Frag) (C : Addr) : Prop where
  hd : PySem.W.hasDictIn K C = true
  ga : PySem.W.findIn K (.ref C) "__getattribute__" = some (some (.builtin "BaseException.__getattribute__"))
  gg : PySem.W.findIn K (.ref C) "__getattr__" = some none
  ex : PySem.W.subIn K (.ref C) (.type "BaseException") = some true
  cl : (PySem.W.clsIn K C).isSome = true
  ic : PySem.W.findIn K (.ref C) "__class__" = some (some (.builtin "object.__class__"))
  hn : PySem.W.specialIn K (.builtin "object.__class__") "__get__" = some (some (.builtin "getset_descriptor.__get__"))
  ht : PySem.W.takesIn K (.builtin "object.__class__") = some true
  hm : PySem.W.mroIn K C (.type "object") = some true
/-- what stands for an instance -/
structure InsA (K : PySem.W.Frag) (C : Addr) : Prop where
  cl : Cls K C
  ic : PySem.W.findIn K (.ref C) "__class__" = some (some (.builtin "object.__class__"))
  hn : PySem.W.specialIn K (.builtin "object.__class__") "__get__" = some (some (.builtin "getset_descriptor.__get__"))
  ht : PySem.W.takesIn K (.builtin "object.__class__") = some true
  hm : PySem.W.mroIn K C (.type "object") = some true
/-- .. of all classes -/
structure RcOk (c : RC) : Prop where
  ia : ∀ k f, 100 ≤ k → f ∈ c.fl k → InsA c.K (c.cl k) ∧ NoAttr c.K (c.cl k) f
  ea : ∀ k f, k < 100 → f ∈ c.fl k → ErrA c.K (c.cl k)
  no : ∀ k f, k < 100 → f ∈ c.fl k → NoAttr c.K (c.cl k) f
theorem Kp.exo {G H : Hp} {a C : Addr} {dd : Option Addr} (k : Kp G H) (h : G a = some (exo a C dd)) : H a = some (exo a C dd) := by
  rcases k a _ h with q | ⟨_, _, e, _⟩
  · exact q
  · have e' : HO.ext _ = HO.dK _ := e
    cases e'
theorem Kp.exd {G H : Hp} {d : Addr} {fs : List (Str × V)} (k : Kp G H) (h : G d = some (L2.exd d fs)) : H d = some (L2.exd d fs) := by
  rcases k d _ h with q | ⟨_, _, e, _⟩
  · exact q
  · have e' : HO.ext _ = HO.dK _ := e
    cases e'
theorem idx_at {l : List Str} {f : Str} {i : Nat} (h : l.idxOf? f = some i) : l[i]? = some f := by
  unfold List.idxOf? at h
  have h2 := List.findIdx?_eq_some_iff_getElem.mp h
  obtain ⟨hi, e, _⟩ := h2
  rw [List.getElem?_eq_getElem hi]
  have : l[i] = f := by simpa using e
  rw [this]
section
variable {X : Cx} {c : RC} {W : WX} {k n j : Nat} {f : Str} {p pos : Pos} {e : Expr} {m : ME}
/-- an error at a, as the heap has it -/
theorem exv_inst {pins : List (Addr × Obj)} {σ : L2.St} {H : Hp} {s : Shared} {g : Wd} {S : Sto} {Z : Hp} {ds : List D} {v : V} (I : Inv X pins σ H s) (px : PxOk X c) (sm : SimH c g S Z H) (r : Rep c g (.exv k ds) v) :
    ∃ (a : Addr) (dd : Option Addr) (ox : Obj) (od : Option Obj), v = .ref a ∧ PySem.W.InstAt s.heap a ox (c.cl k) od ∧ ((ds = [] ∧ dd = none) ∨ ∃ (vs : List V) (fs : List (Str × V)) (mA : Str → Option Value) (o : Obj), Att (c.fl k) vs fs ∧ RepL c g ds vs ∧ od = some o ∧ (∀ name, PySem.W.lookIn name o = some (mA name)) ∧ ∀ y, RelO (fs.lookup y) (mA y)) := by
  rw [Rep] at r
  obtain ⟨a, dd, rfl, ea, q⟩ := r
  have here : ∃ ox : Obj, s.heap.get? a = some ox ∧ ox.cls = .ref (c.cl k) ∧ ox.dict = dd ∧ ∃ vs, ox.data = .fields vs := by
    rcases ea with ea | ea
    · obtain ⟨t1, ho⟩ := exo_at I.hok (sm.gk.exo ea)
      exact ⟨_, ho, rfl, rfl, _, rfl⟩
    · obtain ⟨oe, vs, h1, h2, h3, h4⟩ := px a k dd ea
      exact ⟨oe, (I.pin _ (List.mem_append_left _ h1)).1, h2, h3, vs, h4⟩
  obtain ⟨ox, ho, hc, hdd, fv, hfv⟩ := here
  have nc : PySem.W.notCls ox := by
    unfold PySem.W.notCls
    rw [hfv] <;> rfl
  rcases q with ⟨rfl, rfl⟩ | ⟨d, fs, vs, rfl, ed, at_, rs⟩
  · exact ⟨a, none, ox, none, rfl, ⟨ho, hc, nc, by rw [hdd] <;> trivial⟩, .inl ⟨rfl, rfl⟩⟩
  · have ns : ∃ mA, s.heap.Ns1 d mA ∧ ∀ y, RelO (fs.lookup y) (mA y) := by
      rcases ed with ed | ed
      · exact exd_at I.hok (sm.gk.exd ed)
      · have hx : H d = some (.xd fs) := by
          rcases sm.gk d _ ed with q | ⟨_, _, e, _⟩
          · exact q
          · cases e
        have hx2 : ObjOk X.prog X.w H s.heap d (.xd fs) := I.hok d _ hx
        exact hx2
    obtain ⟨mA, hns, rel⟩ := ns
    obtain ⟨od, e1, e2⟩ := lookIn_ns hns
    exact ⟨a, some d, ox, some od, rfl, ⟨ho, hc, nc, by rw [hdd]; exact e1⟩, .inr ⟨vs, fs, mA, od, at_, rs, rfl, e2, rel⟩⟩
theorem ins_at {H : Hp} {g : Wd} {S : Sto} {Z : Hp} {d : D} {v : V} {ds : List D} (sm : SimH c g S Z H) (r : Rep c g d v) (e : insOf S d = some (k, ds)) : ∃ (a dx : Addr) (fs : List (Str × V)) (vs : List V), v = .ref a ∧ H a = some (.ins (c.cl k) dx fs) ∧ Att (c.fl k) vs fs ∧ RepL c g ds vs := by
  cases d with
  | ins k' ds' =>
    cases e
    rw [Rep] at r
    obtain ⟨a, dx, fs, vs, rfl, q, at_, rs⟩ := r
    exact ⟨a, dx, fs, vs, rfl, sm.gk.ins q, at_, rs⟩
  | loc n =>
    simp only [insOf] at e
    split at e
    · rename_i k' ds' hn
      cases e
      rw [Rep] at r
      obtain ⟨a, rfl, ha⟩ := r
      obtain ⟨_, _, _, dx, fs, vs, q, at_, rs⟩ := sm.cell n a _ ha hn
      exact ⟨a, dx, fs, vs, rfl, q, at_, rs⟩
    · cases e
  | _ => cases e
theorem at_ix {g : Wd} {ds : List D} {vs : List V} {fs : List (Str × V)} {y : D} (at_ : Att (c.fl k) vs fs) (rs : RepL c g ds vs) (e : atIx c.fl f k ds = some y) : f ∈ c.fl k ∧ ∃ w, fs.lookup f = some w ∧ Rep c g y w := by
  unfold atIx at e
  cases e1 : (c.fl k).idxOf? f with
  | none => rw [e1] at e; cases e
  | some i =>
    rw [e1] at e
    have e' : ds[i]? = some y := e
    have hi := idx_at e1
    obtain ⟨w, hw, rw'⟩ := rs.get e'
    obtain ⟨f', h1, h2⟩ := at_.at_ i w hw
    rw [hi] at h1
    cases h1
    exact ⟨List.mem_of_getElem? hi, w, h2, rw'⟩
theorem ce_att {fl : Nat → List Str} (cf : Cq X c) (ok : RcOk c) (hfl : fl = c.fl) (he : CE X c W e m) (hb : attributeBase e f X.env (eval e X.env) = eval e X.env := by rfl) : CE X c W (.Attribute e f pos) (mUn (fAtt fl f) m) := by
  subst hfl
  refine ⟨fun pins s σ H Q I ⟨g, Z, δ, S, sm, sl, q⟩ => ?_⟩
  refine attr_of hb (thn (he.run pins s σ H _ I ⟨g, Z, δ, S, sm, sl, Post.bind (Q := fun v H1 => ∃ g1 S1 d, SimH c g1 S1 Z H1 ∧ Rep c g1 d v ∧ Post c (Rep c) g1 Z (fAtt c.fl f d S1) Q fun cls d H' => W cls d σ H') q fun d S1 g1 v H1 _ le1 s1 r1 q1 => ⟨g1, S1, d, s1, r1, q1⟩⟩) fun u s1 hx => ?_)
  obtain ⟨x, H1, I1, rx, g1, S1, d, sm1, r1, q1⟩ := hx
  unfold fAtt at q1
  cases ea : attOf c.fl f d S1 with
  | none => rw [ea] at q1; exact q1.elim
  | some y =>
    rw [ea] at q1
    have viaIns : ∀ {k ds}, insOf S1 d = some (k, ds) → 100 ≤ k → atIx c.fl f k ds = some y → wpAny (model X.prog X.w) X.A (getAttr u f true) (EP X pins σ Q) X.xe s1 := fun {k ds} e1 hk e2 => by
      obtain ⟨a, dx, fs, vs, rfl, eH, at_, rs⟩ := ins_at sm1 r1 e1
      obtain rfl : u = Value.ref a := rx
      obtain ⟨hmem, w, hl, rw'⟩ := at_ix at_ rs e2
      obtain ⟨ia, no⟩ := ok.ia k f hk hmem
      rw [cf.kk] at ia no
      exact getattr_ok I1 eH ia.cl no hl fun u' s2 I2 ru => ⟨w, H1, I2, ru, q1 g1 w H1 (.refl g1) sm1 rw'⟩
    cases d with
    | exv k ds =>
      simp only [attOf] at ea
      by_cases hk : k < 100
      · rw [if_pos hk] at ea
        obtain ⟨a, dd, ox, od, rfl, inst, z⟩ := exv_inst I1 cf.px sm1 r1
        obtain rfl : u = Value.ref a := rx
        rcases z with ⟨rfl, _⟩ | ⟨vs, fs, mA, o, at_, rs, rfl, lk, rel⟩
        · unfold atIx at ea
          split at ea <;> simp at ea
        · obtain ⟨hmem, w, hl, rw'⟩ := at_ix at_ rs ea
          have ex := ok.ea k f hk hmem
          have no := ok.no k f hk hmem
          rw [cf.kk] at ex no
          have rr := rel f
          rw [hl] at rr
          cases hmf : mA f with
          | none => rw [hmf] at rr; exact rr.elim
          | some uu =>
            rw [hmf] at rr
            have rr' : RelV w uu := rr
            refine PySem.HandSPX.exc_get I1.kIn inst ex.ga ex.gg ex.ex (PySem.W.findObj_own ex.hd no rfl (by rw [lk, hmf])) (handed_of rr') ?_
            exact ⟨w, H1, I1.tok _, rr', q1 g1 w H1 (.refl g1) sm1 rw'⟩
      · rw [if_neg hk] at ea
        cases ea
    | ins k ds =>
      simp only [attOf, insOf] at ea
      by_cases hk : 100 ≤ k
      · rw [if_pos hk] at ea
        exact viaIns rfl hk ea
      · rw [if_neg hk] at ea
        cases ea
    | loc n =>
      simp only [attOf] at ea
      cases e1 : insOf S1 (.loc n) with
      | none => rw [e1] at ea; cases ea
      | some p =>
        obtain ⟨k, ds⟩ := p
        rw [e1] at ea
        by_cases hk : 100 ≤ k
        · simp only [if_pos hk] at ea
          exact viaIns e1 hk ea
        · simp only [if_neg hk] at ea
          cases ea
    | _ => cases ea

/-! isinstance -/
inductive TD where
  | b (n : String)
  | c (k : Nat)
  deriving DecidableEq
def tyD : D → Sto → Option TD
  | .non, _ => some (.b "NoneType")
  | .bl _, _ => some (.b "bool")
  | .int _, _ => some (.b "int")
  | .str _, _ => some (.b "str")
  | .lst _, _ => some (.b "list")
  | .tup _, _ => some (.b "tuple")
  | .dic _ _, _ => some (.b "dict")
  | .exv k _, _ => if k < 100 then some (.c k) else none
  | .ins k _, _ => if 100 ≤ k then some (.c k) else none
  | .loc n, S => match S[n]? with
    | some (.lst _) => some (.b "list")
    | some (.dic _ _) => some (.b "dict")
    | some (.dct _ _) => some (.b "dict")
    | some (.ins k _) => if 100 ≤ k then some (.c k) else none
    | _ => none
  | .glb _, _ => none
  | .cls _, _ => none
def fIsi (sub : TD → Option Bool) (x : D) (S : Sto) : R D := match tyD x S with
  | some t => (match sub t with
    | some b => .ok (.bl b) S
    | none => .bad)
  | none => .bad
def TD.v (c : RC) : TD → Value
  | .b n => .type n
  | .c k => .ref (c.cl k)
def TD.ok (c : RC) : TD → Prop
  | .b _ => True
  | .c k => if k < 100 then ErrA c.K (c.cl k) else InsA c.K (c.cl k)
def KitD (c : RC) (H : Hp) (x : V) (t : Value) : Prop := ∀ {X : Cx} {pins : List (Addr × Obj)} {σ : L2.St} {s : Shared} {u : Value}, X.K = c.K → PxOk X c → Inv X pins σ H s → RelV x u → ∃ P : Heap → Prop, PySem.W.KitX X.K u t P ∧ P s.heap ∧ u ≠ .builtin "__main__.__loader__#opaque"
theorem kit_D {g : Wd} {S : Sto} {Z H : Hp} {d : D} {v : V} {t : TD} (sm : SimH c g S Z H) (r : Rep c g d v) (e : tyD d S = some t) (ok : t.ok c) : KitD c H v (t.v c) := by
  intro X pins σ s u hK px I rv
  have base : ∀ {t' : Value}, TyX c.K H v t' → ∃ P : Heap → Prop, PySem.W.KitX X.K u t' P ∧ P s.heap ∧ u ≠ .builtin "__main__.__loader__#opaque" := fun ty => by
    rw [← hK] at ty
    exact kit_of I rv ty
  cases d with
  | non => cases e; rw [Rep] at r; subst r; exact base (.base .non)
  | bl b => cases e; rw [Rep] at r; subst r; exact base (.base (.bl b))
  | int b => cases e; rw [Rep] at r; subst r; exact base (.base (.int b))
  | str b => cases e; rw [Rep] at r; subst r; exact base (.base (.str b))
  | lst xs =>
    cases e
    rw [Rep] at r
    obtain ⟨a, vs, rfl, q, _⟩ := r
    rcases sm.gk.lst q with (q | ⟨ob, q⟩) | q
    · exact base (.base (.lst q))
    · exact base (.base (.frz q))
    · obtain ⟨o, _, _, q1, q2, _⟩ := q
      exact base (.kList q1 q2)
  | tup xs =>
    cases e
    rw [Rep] at r
    obtain ⟨a, vs, rfl, q, _⟩ := r
    rcases sm.gk.tup q with (q | ⟨ob, q⟩) | q
    · exact base (.base (.tup q))
    · exact base (.fTuple q)
    · obtain ⟨o, _, _, q1, q2, _⟩ := q
      exact base (.kTuple q1 q2)
  | dic ks ds =>
    cases e
    rw [Rep] at r
    obtain ⟨a, kvs, rfl, q, _⟩ := r
    rcases sm.gk.rd q with q | ⟨ob, q⟩
    · exact base (.base (.dK q))
    · exact base (.fDict q)
  | exv k ds =>
    simp only [tyD] at e
    by_cases hk : k < 100
    · rw [if_pos hk] at e
      cases e
      have ok' : ErrA c.K (c.cl k) := by
        have ok2 : (if k < 100 then ErrA c.K (c.cl k) else InsA c.K (c.cl k)) := ok
        rwa [if_pos hk] at ok2
      rw [← hK] at ok'
      obtain ⟨a, dd, ox, od, rfl, inst, _⟩ := exv_inst I px sm r
      obtain rfl : u = Value.ref a := rv
      exact ⟨_, PySem.W.kitx_exc ok'.cl ok'.ga ok'.gg ok'.ex ok'.ic ok'.hn ok'.ht ok'.hm, inst, fun z => nomatch z⟩
    · rw [if_neg hk] at e
      cases e
  | ins k ds =>
    simp only [tyD] at e
    by_cases hk : 100 ≤ k
    · rw [if_pos hk] at e
      cases e
      have ia : InsA c.K (c.cl k) := by
        have ok2 : (if k < 100 then ErrA c.K (c.cl k) else InsA c.K (c.cl k)) := ok
        rwa [if_neg (by omega)] at ok2
      obtain ⟨a, dx, fs, vs, rfl, q, _, _⟩ := ins_at sm r (k := k) (ds := ds) rfl
      exact base (.base (.ins q ia.cl ia.ic ia.hn ia.ht ia.hm))
    · rw [if_neg hk] at e
      cases e
  | loc n =>
    simp only [tyD] at e
    rw [Rep] at r
    obtain ⟨a, rfl, ha⟩ := r
    split at e
    · rename_i hn
      cases e
      obtain ⟨_, _, _, vs, q, _⟩ := sm.cell n a _ ha hn
      exact base (.base (.lst q))
    · rename_i hn
      cases e
      obtain ⟨_, _, _, kvs, q, _⟩ := sm.cell n a _ ha hn
      exact base (.base (.dK q))
    · rename_i hn
      cases e
      obtain ⟨_, _, _, kvs, q, _⟩ := sm.cell n a _ ha hn
      exact base (.base (.dT q))
    · rename_i k ds hn
      by_cases hk : 100 ≤ k
      · rw [if_pos hk] at e
        cases e
        have ia : InsA c.K (c.cl k) := by
          have ok2 : (if k < 100 then ErrA c.K (c.cl k) else InsA c.K (c.cl k)) := ok
          rwa [if_neg (by omega)] at ok2
        obtain ⟨_, _, _, dx, fs, vs, q, _⟩ := sm.cell n a _ ha hn
        exact base (.base (.ins q ia.cl ia.ic ia.hn ia.ht ia.hm))
      · rw [if_neg hk] at e
        cases e
    · cases e
  | glb v => cases e
  | cls v => cases e
def rIsD (c : RC) : List V → Hp → VK → Prop := fun xs H Q => ∃ (x cv : V) (t u : Value) (b : Bool), xs = [x, cv] ∧ ClsV cv u ∧ KitD c H x t ∧ PySem.W.kitOne c.K t u = some b ∧ Q (.bl b) H
theorem call_isD (cf : Cq X c) : CallR X (.builtin "isinstance") (rIsD c) := by
  intro pins s σ H xs us Q I r h
  obtain ⟨x, cv, t, u, b, rfl, k, kit, e, q⟩ := h
  obtain ⟨u1, u2, rfl, r1, r2⟩ := vals2 r
  have e2 := k.eq r2
  subst e2
  obtain ⟨P, Z, p, hx⟩ := kit cf.kk.symm cf.px I r1
  rw [cf.kk] at e
  exact PySem.W.kia_one Z I.kIn p e hx fun tk => ⟨.bl b, H, I.tok tk, rfl, q⟩
theorem ce_isi {x : Str} {p2 : Pos} {cv : V} {u : Value} {sub : TD → Option Bool} (cf : Cq X c) (kv : ClsV cv u) (hs : ∀ t b, sub t = some b → t.ok c ∧ PySem.W.kitOne c.K (t.v c) u = some b) (he : CE X c W e m) (hx : PE X (.Name x p2) (tC cv))
    (hm : X.mg "isinstance" = none) (hg : Gl X "isinstance" := by rfl) (hn : starEach (e :: [.Name x p2]) X.env = (false, eval e X.env) :: starEach [.Name x p2] X.env := by rfl) (hn2 : starEach [.Name x p2] X.env = (false, eval (.Name x p2) X.env) :: starEach [] X.env := by rfl)
    (hpl : (backTo pos (starEach [.Name x p2] X.env)).any (·.1) = false := by rfl) :
    CE X c W (.Call (.Name "isinstance" p) [e, .Name x p2] [] pos) (mUn (fIsi sub) m) := by
  refine weakE (pe_callB (call_isD cf) hg hm PyProof.Rows.boot_isinstance (pa_cons he (pa_cons hx pa_nil hn2) hn) (he := hn) (hpl := hpl)) fun σ H Q ⟨g, Z, δ, S, sm, sl, q⟩ => ⟨g, Z, δ, S, sm, sl, Post.bind q fun d S1 g1 v H1 _ le1 s1 r1 q1 => ?_⟩
  unfold fIsi at q1
  cases e1 : tyD d S1 with
  | none => rw [e1] at q1; exact q1.elim
  | some t =>
    rw [e1] at q1
    simp only at q1
    cases e2 : sub t with
    | none => rw [e2] at q1; exact q1.elim
    | some b =>
      rw [e2] at q1
      obtain ⟨h1, h2⟩ := hs t b e2
      exact ⟨v, cv, t.v c, u, b, rfl, kv, kit_D s1 r1 e1 h1, h2, q1 g1 (.bl b) H1 (.refl g1) s1 Rep.bl⟩
end
end DL

end
section
/-! DL, part h: repr; displays of dicts. -/
namespace DL
open PySem PySem.Spec PyProof.Rows L2

def keyPy : Key → PyData
  | .inl i => .int i
  | .inr x => .str x
mutual
def D.pyr : D → Option PyData
  | .non => some .none
  | .bl b => some (.bool b)
  | .int i => some (.int i)
  | .str s => some (.str s)
  | .lst xs => (D.pyrL xs).map .list
  | .tup xs => (D.pyrL xs).map .tuple
  | .dic ks ds => (D.pyrL ds).bind fun ps => if ks.length = ps.length then some (.dict ((ks.map keyPy).zip ps)) else none
  | _ => none
def D.pyrL : List D → Option (List PyData)
  | [] => some []
  | d :: r => match D.pyr d, D.pyrL r with
    | some p, some ps => some (p :: ps)
    | _, _ => none
end
def D.pyrS (S : Sto) : D → Option PyData
  | .loc n => match S[n]? with
    | some (.lst xs) => (D.pyrL xs).map .list
    | _ => none
  | d => d.pyr
/-- the written part knows the table of modules -/
def SysIn (K : PySem.W.Frag) : Prop := ∃ o, K.lookup sysModules = some o ∧ o.cls = .type "dict"
section
variable {X : Cx} {pins : List (Addr × Obj)} {σ : L2.St} {H : Hp} {s : Shared} {c : RC} {g : Wd} {S : Sto} {Z : Hp}
theorem list_rd (I : Inv X pins σ H s) (sy : SysIn X.K) {a : Addr} {vs : List V} {ps : List PyData} (q : SqL X.K H a vs) (hr : ∀ us, Vals vs us → ∃ as, ReadsAll s.heap us ps as ∧ sysModules ∉ as) : ∃ as, Reads s.heap (.ref a) (.list ps) as ∧ sysModules ∉ as := by
  obtain ⟨its, rv, ⟨o, n, ho, hc, _, hd⟩, _⟩ := I.list q
  obtain ⟨as, h1, h2⟩ := hr its rv
  refine ⟨_, Reads.list ho hc hd h1, fun h => ?_⟩
  rcases List.mem_cons.mp h with h | h
  · obtain ⟨o2, k1, k2⟩ := sy
    have k3 := I.kIn _ _ k1
    rw [h, ho] at k3
    have k4 := Option.some.inj k3
    rw [← k4, hc] at k2
    exact absurd k2 (by decide)
  · exact h2 h
theorem pairs_vals {kvs : List (Key × V)} {vs : List (Key × Value)} (h : KV kvs vs) : Vals (kvs.map (·.2)) (vs.map (·.2)) ∧ kvs.map (·.1) = vs.map (·.1) := by
  induction h with
  | nil => exact ⟨.nil, rfl⟩
  | cons a b ih => exact ⟨.cons a.2 ih.1, by rw [List.map_cons, List.map_cons, a.1, ih.2]⟩
theorem pairs_keys {P : Program} {w : World} {hp : Heap} {es : List DictEntry} {vs : List (Key × Value)} (h : Pairs (mixKind P w) es vs) : ReadsAll hp (es.map (·.key)) ((vs.map (·.1)).map keyPy) [] ∧ es.map (·.val) = vs.map (·.2) := by
  induction h with
  | nil => exact ⟨.nil, rfl⟩
  | @cons e kv es kvs k1 k2 _ ih =>
    refine ⟨?_, by rw [List.map_cons, List.map_cons, k2, ih.2]⟩
    have hk : Reads hp e.key (keyPy kv.1) [] := by
      rcases keyIs_shape (show keyIs kv.1 e.key = true from k1) with ⟨i, t, h1, h2⟩ | ⟨x, t, h1, h2⟩
      · rw [h2, h1]; exact Reads.int i t
      · rw [h2, h1]; exact Reads.str x t
    exact ReadsAll.cons (as := []) (bs := []) hk ih.1
theorem zip_map {α β : Type} : ∀ {xs : List α} {ys : List β}, xs.length = ys.length → (xs.zip ys).map (·.1) = xs ∧ (xs.zip ys).map (·.2) = ys
  | [], [], _ => ⟨rfl, rfl⟩
  | x :: xs, y :: ys, h => by
    have := zip_map (xs := xs) (ys := ys) (by simpa using h)
    simp [this.1, this.2]
  | [], _ :: _, h => by simp at h
  | _ :: _, [], h => by simp at h
mutual
theorem rd_ok (I : Inv X pins σ H s) (sm : SimH c g S Z H) (hK : c.K = X.K) (sy : SysIn X.K) : ∀ {d : D} {v : V} {u : Value} {p : PyData}, Rep c g d v → RelV v u → d.pyr = some p → ∃ as, Reads s.heap u p as ∧ sysModules ∉ as
  | .non, v, u, p, r, rv, e => by
    cases e
    rw [Rep] at r; subst r
    obtain rfl : u = Value.none := rv
    exact ⟨[], .none, by simp⟩
  | .bl b, v, u, p, r, rv, e => by
    cases e
    rw [Rep] at r; subst r
    obtain rfl : u = Value.bool b := rv
    exact ⟨[], .bool b, by simp⟩
  | .int b, v, u, p, r, rv, e => by
    cases e
    rw [Rep] at r; subst r
    obtain ⟨t, rfl⟩ : ∃ t, u = Value.int b t := rv
    exact ⟨[], .int b t, by simp⟩
  | .str b, v, u, p, r, rv, e => by
    cases e
    rw [Rep] at r; subst r
    obtain ⟨t, rfl⟩ : ∃ t, u = Value.str b t := rv
    exact ⟨[], .str b t, by simp⟩
  | .lst xs, v, u, p, r, rv, e => by
    rw [D.pyr] at e
    obtain ⟨ps, e1, rfl⟩ := Option.map_eq_some_iff.mp e
    rw [Rep] at r
    obtain ⟨a, vs, rfl, q, rs⟩ := r
    obtain rfl : u = Value.ref a := rv
    have q2 := sm.gk.lst q
    rw [hK] at q2
    exact list_rd I sy q2 fun us rus => rdL_ok I sm hK sy rs rus e1
  | .tup xs, v, u, p, r, rv, e => by
    rw [D.pyr] at e
    obtain ⟨ps, e1, rfl⟩ := Option.map_eq_some_iff.mp e
    rw [Rep] at r
    obtain ⟨a, vs, rfl, q, rs⟩ := r
    obtain rfl : u = Value.ref a := rv
    have q2 := sm.gk.tup q
    rw [hK] at q2
    obtain ⟨its, rus, ⟨o, ho, hc, n, hd⟩, _⟩ := I.tuple q2
    obtain ⟨as, h1, h2⟩ := rdL_ok I sm hK sy rs rus e1
    exact ⟨as, Reads.tuple ho hc hd h1, h2⟩
  | .dic ks ds, v, u, p, r, rv, e => by
    rw [D.pyr] at e
    obtain ⟨ps, e1, e2⟩ := Option.bind_eq_some_iff.mp e
    by_cases hl : ks.length = ps.length
    · rw [if_pos hl] at e2
      cases e2
      rw [Rep] at r
      obtain ⟨a, kvs, rfl, q, hks, rs⟩ := r
      obtain rfl : u = Value.ref a := rv
      obtain ⟨_, hsy, vs, rel, o, es, ep, ho, hc, hd, _, hp, _⟩ := dk_rd I.hok (sm.gk.rd q)
      obtain ⟨rvs, kk⟩ := pairs_vals rel
      obtain ⟨as, h1, h2⟩ := rdL_ok I sm hK sy rs rvs e1
      obtain ⟨k1, k2⟩ := pairs_keys (hp := s.heap) hp
      have hz := zip_map (xs := ks.map keyPy) (ys := ps) (by simpa using hl)
      rw [← kk, hks] at k1
      rw [← k2] at h1
      refine ⟨_, Reads.dict (kvs := (ks.map keyPy).zip ps) (as := []) (bs := as) ho hc.1 hd (by rw [hz.1]; exact k1) (by rw [hz.2]; exact h1), fun h => ?_⟩
      rcases List.mem_append.mp h with h | h
      · have h' : sysModules = a := by simpa using h
        rw [h'] at hsy
        simp at hsy
      · exact h2 h
    · rw [if_neg hl] at e2
      cases e2
  | .ins _ _, _, _, _, _, _, e => by cases e
  | .exv _ _, _, _, _, _, _, e => by cases e
  | .loc _, _, _, _, _, _, e => by cases e
  | .glb _, _, _, _, _, _, e => by cases e
  | .cls _, _, _, _, _, _, e => by cases e
theorem rdL_ok (I : Inv X pins σ H s) (sm : SimH c g S Z H) (hK : c.K = X.K) (sy : SysIn X.K) : ∀ {ds : List D} {vs : List V} {us : List Value} {ps : List PyData}, RepL c g ds vs → Vals vs us → D.pyrL ds = some ps → ∃ as, ReadsAll s.heap us ps as ∧ sysModules ∉ as
  | [], vs, us, ps, r, rv, e => by
    rw [D.pyrL] at e
    cases e
    rw [RepL] at r
    subst r
    cases rv
    exact ⟨[], .nil, by simp⟩
  | d :: ds, vs, us, ps, r, rv, e => by
    rw [D.pyrL] at e
    rw [RepL] at r
    obtain ⟨v, r', rfl, r1, r2⟩ := r
    cases rv with
    | cons rv1 rv2 =>
      cases h1 : D.pyr d with
      | none => rw [h1] at e; cases e
      | some p =>
        cases h2 : D.pyrL ds with
        | none => rw [h1, h2] at e; cases e
        | some qs =>
          rw [h1, h2] at e
          cases e
          obtain ⟨as, a1, a2⟩ := rd_ok I sm hK sy r1 rv1 h1
          obtain ⟨bs, b1, b2⟩ := rdL_ok I sm hK sy r2 rv2 h2
          refine ⟨_, .cons a1 b1, fun h => ?_⟩
          rcases List.mem_append.mp h with h | h
          · exact a2 h
          · exact b2 h
end
theorem rdS_ok (I : Inv X pins σ H s) (sm : SimH c g S Z H) (hK : c.K = X.K) (sy : SysIn X.K) {d : D} {v : V} {u : Value} {p : PyData} (r : Rep c g d v) (rv : RelV v u) (e : d.pyrS S = some p) : ∃ as, Reads s.heap u p as ∧ sysModules ∉ as := by
  cases d with
  | loc n =>
    simp only [D.pyrS] at e
    split at e
    · rename_i xs hn
      obtain ⟨ps, e1, rfl⟩ := Option.map_eq_some_iff.mp e
      rw [Rep] at r
      obtain ⟨a, rfl, ha⟩ := r
      obtain rfl : u = Value.ref a := rv
      obtain ⟨_, _, _, vs, q, rs⟩ := sm.cell n a _ ha hn
      exact list_rd I sy (SqL.of q) fun us rus => rdL_ok I sm hK sy rs rus e1
    · cases e
  | _ => exact rd_ok I sm hK sy r rv e
end
def fRepr (xs : List D) (S : Sto) : R D := match xs with
  | [x] => (match x.pyrS S with
    | some p => if p.showable = true ∧ p.depth ≤ 60 ∧ p.shown.length ≤ 16777216 then .ok (.str p.shown) S else .bad
    | none => .bad)
  | _ => .bad
def rRpr (c : RC) : List V → Hp → VK → Prop := fun xs H Q => ∃ (g : Wd) (S : Sto) (Z : Hp) (d : D) (v : V) (p : PyData), xs = [v] ∧ SimH c g S Z H ∧ Rep c g d v ∧ d.pyrS S = some p ∧ p.showable = true ∧ p.depth ≤ 60 ∧ p.shown.length ≤ sizeLine ∧ Q (.str p.shown) H
theorem call_rpr {X : Cx} {c : RC} {k : Nat} (cf : Cf k X c) (sy : SysIn X.K) : CallR X (.builtin "repr") (rRpr c) := by
  intro pins s σ H xs us Q I r h
  obtain ⟨g, S, Z, d, v, p, rfl, sm, rp, e, h1, h2, h3, q⟩ := h
  cases r with
  | @cons _ u _ _ rv t =>
    cases t
    obtain ⟨as, hr, hn⟩ := rdS_ok I sm cf.kk sy rp rv e
    have un : X.A.units + (p.depth + 1) < cLine := by have := cf.hr.units; omega
    have fin : ∀ (h' : Heap) (t tk : Tok), (∀ b o, s.heap.get? b = some o → h'.get? b = some o) → EP X pins σ Q (.str p.shown t) { s with heap := h', toks := tk } := fun h' t tk hk => ⟨.str p.shown, H, I.kept hk, ⟨t, rfl⟩, q⟩
    have fin0 : ∀ (t tk : Tok), EP X pins σ Q (.str p.shown t) { s with toks := tk } := fun t tk => ⟨.str p.shown, H, I.tok tk, ⟨t, rfl⟩, q⟩
    cases hr with
    | none => exact PySem.P.repr_of_none (fin0 _ _)
    | bool b => exact PySem.P.repr_of_bool (fin0 _ _)
    | int i t => exact PySem.P.repr_of_int (by simpa [PyData.showable] using h1) (fin0 _ _)
    | str x t => exact PySem.P.repr_of_str (fin0 _ _) h3
    | list a1 a2 a3 a4 => exact repr_of_reads' (.list a1 a2 a3 a4) h1 (fun _ => hn) cf.gd un (fun _ _ e => e) fin h3
    | tuple a1 a2 a3 a4 => exact repr_of_reads' (.tuple a1 a2 a3 a4) h1 (fun _ => hn) cf.gd un (fun _ _ e => e) fin h3
    | dict a1 a2 a3 a4 a5 => exact repr_of_reads' (.dict a1 a2 a3 a4 a5) h1 (fun _ => hn) cf.gd un (fun _ _ e => e) fin h3
theorem cl_repr {c : RC} : ClD c (rRpr c) fRepr := fun g Z S H x v Q E sm rp q => by
  unfold fRepr at q
  match x, rp, q with
  | [d], rp, q =>
    obtain ⟨v1, r, rfl, r1, r2⟩ := rp.cons_inv
    cases r2.nil_inv
    cases e : d.pyrS S with
    | none => simp only [e] at q; exact q.elim
    | some p =>
      simp only [e] at q
      by_cases hc : p.showable = true ∧ p.depth ≤ 60 ∧ p.shown.length ≤ 16777216
      · rw [if_pos hc] at q
        exact ⟨g, S, Z, d, v1, p, rfl, sm, r1, e, hc.1, hc.2.1, sz hc.2.2, q g _ H (.refl g) sm Rep.str⟩
      · rw [if_neg hc] at q
        exact q.elim
  | [], _, q => exact q.elim
  | _ :: _ :: _, _, q => exact q.elim

/-! ### displays of dicts -/
theorem SimH.settleO {c : RC} {g : Wd} {S : Sto} {Z H : Hp} {p : Addr} {o : HO} (s : SimH c g S (upd Z p o) H) (hz : Z p = none) (hH : H p = some o) : g.le ⟨upd g.G p o, g.ι⟩ ∧ SimH c ⟨upd g.G p o, g.ι⟩ S Z H := by
  have hg : g.G p = none := s.zg p _ upd_same
  have u := s.unframe hz
  have le : g.le ⟨upd g.G p o, g.ι⟩ := ⟨fun x u e => (upd_ne (ne_of_none e hg)).trans e, List.prefix_rfl⟩
  refine ⟨le, fun a v e => ?_, u.zk, fun a v e => (upd_ne (ne_of_none e hz)).trans (u.zg a v e), u.len, u.nd, fun n a v e1 e2 => ?_⟩
  · by_cases ha : a = p
    · subst ha
      have e' : some o = some v := upd_same.symm.trans e
      cases e'
      exact .inl hH
    · exact u.gk a v (by rw [← e]; exact (upd_ne ha).symm)
  · obtain ⟨h1, h2, h3⟩ := s.cell n a v e1 e2
    have hne : a ≠ p := fun z => by
      rw [z, upd_same] at h2
      cases h2
    rw [upd_ne hne] at h2
    exact ⟨fun hd => (upd_ne hne).trans (h1 hd), h2, h3.up le⟩
theorem XRep.unframe {c : RC} {g : Wd} {Z H : Hp} {p : Addr} {o : HO} {k : Nat} {vs : List D} {dd : Option Addr} (x : XRep c g (upd Z p o) H k vs dd) (hz : Z p = none) : XRep c g Z H k vs dd := by
  rcases x with x | ⟨d, fs, ws, e1, e2, ⟨e3, e4⟩, r⟩
  · exact .inl x
  · refine .inr ⟨d, fs, ws, e1, e2, ⟨?_, e4⟩, r⟩
    by_cases hd : d = p
    · rw [hd]
      exact hz
    · rw [upd_ne hd] at e3
      exact e3
section
variable {X : Cx} {c : RC} {W : WX} {pos p1 : Pos} {e : Expr} {m : ME}
/-- {} that will not change -/
theorem ce_dic0 : CE X c W (.Dict [] [] pos) (mC (.dic [] [])) := weakE pe_dnewK fun σ H Q ⟨g, Z, δ, S, s, sl, q⟩ p hp => by
  obtain ⟨le, s'⟩ := s.new hp (.dK [])
  refine q _ _ _ le s' ?_
  rw [Rep]
  exact ⟨p, [], rfl, .inl upd_same, rfl, RepL.nil⟩
/-- {'k': e} -/
def fDic1 (k : Str) (x : D) (S : Sto) : R D := .ok (.dic [.inr k] [x]) S
theorem ce_dic1 {k : Str} {j} (he : CE X c W e m) : CE X c W (.Dict [some (.Constant (.str k) j p1)] [e] pos) (mUn (fDic1 k) m) := by
  refine weakE (pe_disp (pps_cons (pe_str (x := k)) he pps_nil) rfl rfl (by simp) (by simp)) fun σ H Q ⟨g, Z, δ, S, s, sl, q⟩ p hp => ?_
  have hz := s.zk.gone hp
  have s1 := s.frame hp (.dK [])
  show eM c W m σ (upd H p (.dK [])) _
  refine ⟨g, upd Z p (.dK []), δ, S, s1, sl, ?_⟩
  have q' : Post c (Rep c) g Z ((m δ S).bind fun x S1 => fDic1 k x S1) Q (fun cls d H' => W cls d σ H') := q
  cases em : m δ S with
  | ok x S1 =>
    rw [em] at q'
    intro g' v H2 le s2 r2
    have hH2 : H2 p = some (.dK []) := s2.zk p _ upd_same
    refine ⟨hH2, [(.inr k, v)], rfl, by simp, ?_⟩
    obtain ⟨le3, s3⟩ := (s2.reframe (o' := .dK [(.inr k, v)])).settleO hz upd_same
    refine q' _ _ _ (le.trans le3) s3 ?_
    rw [Rep]
    exact ⟨p, [(.inr k, v)], rfl, .inl upd_same, rfl, RepL.cons (Rep.up le3 r2) RepL.nil⟩
  | exc k' vs S1 =>
    rw [em] at q'
    exact fun g' dd H2 le s2 x => q' g' dd H2 le (s2.unframe hz) (x.unframe hz)
  | bad =>
    rw [em] at q'
    exact q'.elim
end
end DL

end
section
/-! DL, part i: what the head tells; the law's end. -/
namespace DL
open PySem PySem.Spec PyProof.Rows L2

/-! ### the hook: defs, facts, one Bool, the table of modules too -/
abbrev ZK (n : Nat) (g : Addr → Option Obj) : PySem.W.Frag := He.frG g (sysModules :: He.asD g n)
def zObs (n : Nat) (fa : List He.Fa) (fn : List He.DefD) (ex : PySem.W.Frag → Bool) (g : Addr → Option Obj) : He.AlD × Bool := (He.obsD fa fn (ZK n g), ex (ZK n g))
def zHook (n : Nat) (fa : List He.Fa) (fn : List He.DefD) (ex : PySem.W.Frag → Bool) : PySem.W.Hook where
  α := He.AlD × Bool
  obs := fun s => zObs n fa fn ex s.heap.get?
  val := fun _ => (He.valD fn, true)
  says := fun _ h => ∃ K : PySem.W.Frag, K.In h ∧ He.SaysD fa fn K ∧ ex K = true
  of := fun _ s e => ⟨ZK n s.heap.get?, He.frG_in, congrArg Prod.fst e, congrArg Prod.snd e⟩
  keeps := fun _ _ _ ⟨K, h1, h2⟩ k => ⟨K, PySem.W.Frag.In.keeps h1 k, h2⟩
theorem zObs_eq {n : Nat} {fa : List He.Fa} {fn : List He.DefD} {ex : PySem.W.Frag → Bool} {g : Addr → Option Obj} {s : Shared} (h : ∀ a, g a = s.heap.get? a) : zObs n fa fn ex g = (zHook n fa fn ex).obs s := by
  have e : g = s.heap.get? := funext h
  rw [e] <;> rfl
def sysB (K : PySem.W.Frag) : Bool := match K.lookup sysModules with
  | some ⟨.type c, _, _, _⟩ => decide (c = "dict")
  | _ => false
theorem sysB_ok {K : PySem.W.Frag} (h : sysB K = true) : SysIn K := by
  unfold sysB at h
  cases q : K.lookup sysModules with
  | none => rw [q] at h; cases h
  | some o =>
    rw [q] at h
    obtain ⟨oc, od, dt, sl⟩ := o
    cases oc with
    | type c =>
      have e : c = "dict" := of_decide_eq_true h
      exact ⟨_, q, by rw [e]⟩
    | _ => cases h

/-! ### errors, by one Bool a class -/
def eqT (a b : Option Value) : Bool := decide (a = b)
/-- held, read, asked for its class -/
def errAB (K : PySem.W.Frag) (C : Addr) : Bool :=
  PySem.W.hasDictIn K C && (decide (PySem.W.findIn K (.ref C) "__getattribute__" = some (some (.builtin "BaseException.__getattribute__"))) && (decide (PySem.W.findIn K (.ref C) "__getattr__" = some none) && (decide (PySem.W.subIn K (.ref C) (.type "BaseException") = some true)
    && ((PySem.W.clsIn K C).isSome && (decide (PySem.W.findIn K (.ref C) "__class__" = some (some (.builtin "object.__class__"))) && (decide (PySem.W.specialIn K (.builtin "object.__class__") "__get__" = some (some (.builtin "getset_descriptor.__get__")))
    && (decide (PySem.W.takesIn K (.builtin "object.__class__") = some true) && decide (PySem.W.mroIn K C (.type "object") = some true))))))))
theorem band {a b : Bool} (h : (a && b) = true) : a = true ∧ b = true := Bool.and_eq_true_iff.mp h
theorem errAB_ok {K : PySem.W.Frag} {C : Addr} (h : errAB K C = true) : ErrA K C := by
  unfold errAB at h
  obtain ⟨h1, h⟩ := band h
  obtain ⟨h2, h⟩ := band h
  obtain ⟨h3, h⟩ := band h
  obtain ⟨h4, h⟩ := band h
  obtain ⟨h5, h⟩ := band h
  obtain ⟨h6, h⟩ := band h
  obtain ⟨h7, h⟩ := band h
  obtain ⟨h8, h9⟩ := band h
  exact ⟨h1, of_decide_eq_true h2, of_decide_eq_true h3, of_decide_eq_true h4, h5, of_decide_eq_true h6, of_decide_eq_true h7, of_decide_eq_true h8, of_decide_eq_true h9⟩
/-- made by an __init__ that stores -/
def errMB (K : PySem.W.Frag) (C : Addr) (bm : List Value) (nid : String) (fs : List Str) : Bool :=
  PySem.W.excInitIn K C bm nid && (PySem.W.excOver K C bm && (decide (PySem.W.findIn K (.ref C) "__setattr__" = some (some (.builtin "object.__setattr__"))) && (decide (PySem.W.typeIn K (.ref C) = some (.type "type")) && (PySem.W.keepIn K (.ref C)
    && (decide (PySem.W.findIn K (.ref C) "__init__" = some (some (.ref (He.ma K C "__init__")))) && (decide (PySem.W.typeIn K (.ref (He.ma K C "__init__")) = some (.type "function")) && fs.all fun f => decide (PySem.W.findIn K (.ref C) f = some none)))))))
structure ErrK (K : PySem.W.Frag) (C : Addr) (fs : List Str) : Prop where
  ex : ∃ B newId initId bmB, ExF K C B newId initId bmB
  kC : PySem.W.keepIn K (.ref C) = true
  ini : PySem.W.findIn K (.ref C) "__init__" = some (some (.ref (He.ma K C "__init__")))
  ty : PySem.W.typeIn K (.ref (He.ma K C "__init__")) = some (.type "function")
  no : ∀ f ∈ fs, NoAttr K C f
theorem errMB_ok {K : PySem.W.Frag} {C : Addr} {bm : List Value} {B nid iid : String} {fs : List Str} (FB : ExcBaseFacts B nid iid bm) (SF : StoreFacts B bm "object.__setattr__" "object") (a : ErrA K C) (h : errMB K C bm nid fs = true) : ErrK K C fs := by
  unfold errMB at h
  obtain ⟨h1, h⟩ := band h
  obtain ⟨h2, h⟩ := band h
  obtain ⟨h3, h⟩ := band h
  obtain ⟨h4, h⟩ := band h
  obtain ⟨h5, h⟩ := band h
  obtain ⟨h6, h⟩ := band h
  obtain ⟨h7, h8⟩ := band h
  exact ⟨⟨B, nid, iid, bm, ⟨FB, SF, h1, h2, a.hd, of_decide_eq_true h3, a.ga, a.gg, a.ex, of_decide_eq_true h4, h5⟩⟩, h5, of_decide_eq_true h6, of_decide_eq_true h7, fun f hf => show PySem.W.findIn K (.ref C) f = some none from of_decide_eq_true (List.all_eq_true.mp h8 f hf)⟩
theorem ErrK.f {c : RC} {k : Nat} (e : ErrK c.K (c.cl k) (c.fl k)) (nd : (c.fl k).Nodup) : ErrF c k := ⟨e.ex, e.no, nd⟩

section
variable {P : Program} {w : World} {K : PySem.W.Frag} {mg : Str → Option Value} {base : Heap} {c : RC} {k : Nat} {f : Addr} {fd : FuncData} {x qual : Str} {params : Arguments} {scope : Scope} {dvs : List V} {kws : List (Str × V)}
abbrev asg (p : Str) (p1 p2 p3 p4 : Pos) : Stmt := .Assign [.Attribute (.Name "self" p1) p p2] (.Name p p3) p4
theorem fst_of {X : Cx} {N : List Str} {p : Str} {i : Nat} {p1 p2 p3 p4 : Pos} (hX : X.N = N) (hs : X.env.scope = scope) (h0 : N[0]? = some ("self" : Str)) (hi : N[i]? = some p) (l0 : scope.names.lookup ("self" : Str) = some NameKind.local) (l1 : scope.names.lookup p = some NameKind.local) (hd : (p == ("__debug__" : Str)) = false)
    (hcd : (p == ("__classdict__" : Str)) = false) : PS X (asg p p1 p2 p3 p4) (tFst X.K p (tVar 0) (tVar i)) :=
  ps_fst (pe_var (i := 0) (by rw [hX]; exact h0) (by rw [hs]; exact .inl l0)) (pe_var (i := i) (by rw [hX]; exact hi) (by rw [hs]; exact .inl l1) hd hcd)
def lok (scope : Scope) (p : Str) : Bool := decide (scope.names.lookup p = some NameKind.local) && (!(p == ("__debug__" : Str)) && !(p == ("__classdict__" : Str)))
theorem lok_ok {p : Str} (h : lok scope p = true) : scope.names.lookup p = some NameKind.local ∧ (p == ("__debug__" : Str)) = false ∧ (p == ("__classdict__" : Str)) = false := by
  unfold lok at h
  obtain ⟨h1, h⟩ := band h
  obtain ⟨h2, h3⟩ := band h
  exact ⟨of_decide_eq_true h1, by simpa using h2, by simpa using h3⟩
theorem ini1 {p : Str} {p1 p2 p3 p4 : Pos} (hK : c.K = K) (F : FunD K x qual params [asg p p1 p2 p3 p4] scope dvs kws f fd) (hS : C8.scC ["self", p] ["self", p] scope = true) (T : ErrF c k) (hf : c.fl k = [p]) (hl : (lok scope "self" && lok scope p) = true) :
    FnG P w K mg base 1 f fd ["self", p] (spX c k 1) := by
  obtain ⟨l0, l1⟩ := band hl
  have k0 := lok_ok l0
  have k1 := lok_ok l1
  exact init1 hK F (C8.fnScope_by hS) T hf fun X hN hs => pss_one (fst_of hN hs rfl rfl k0.1 k1.1 k1.2.1 k1.2.2)
theorem ini2 {p q : Str} {p1 p2 p3 p4 q1 q2 q3 q4 : Pos} (hK : c.K = K) (F : FunD K x qual params [asg p p1 p2 p3 p4, asg q q1 q2 q3 q4] scope dvs kws f fd) (hS : C8.scC ["self", p, q] ["self", p, q] scope = true) (T : ErrF c k) (hf : c.fl k = [p, q])
    (hl : (lok scope "self" && (lok scope p && lok scope q)) = true) : FnG P w K mg base 1 f fd ["self", p, q] (spX c k 2) := by
  obtain ⟨l0, l1⟩ := band hl
  obtain ⟨l1, l2⟩ := band l1
  have k0 := lok_ok l0
  have k1 := lok_ok l1
  have k2 := lok_ok l2
  exact init2 hK F (C8.fnScope_by hS) T hf fun X hN hs => pss_cons (fst_of hN hs rfl rfl k0.1 k1.1 k1.2.1 k1.2.2) (pss_one (fst_of hN hs rfl rfl k0.1 k2.1 k2.2.1 k2.2.2))
theorem ini3 {p q r : Str} {p1 p2 p3 p4 q1 q2 q3 q4 r1 r2 r3 r4 : Pos} (hK : c.K = K) (F : FunD K x qual params [asg p p1 p2 p3 p4, asg q q1 q2 q3 q4, asg r r1 r2 r3 r4] scope dvs kws f fd) (hS : C8.scC ["self", p, q, r] ["self", p, q, r] scope = true) (T : ErrF c k)
    (hf : c.fl k = [p, q, r]) (hl : (lok scope "self" && (lok scope p && (lok scope q && lok scope r))) = true) : FnG P w K mg base 1 f fd ["self", p, q, r] (spX c k 3) := by
  obtain ⟨l0, l1⟩ := band hl
  obtain ⟨l1, l2⟩ := band l1
  obtain ⟨l2, l3⟩ := band l2
  have k0 := lok_ok l0
  have k1 := lok_ok l1
  have k2 := lok_ok l2
  have k3 := lok_ok l3
  exact init3 hK F (C8.fnScope_by hS) T hf fun X hN hs => pss_cons (fst_of hN hs rfl rfl k0.1 k1.1 k1.2.1 k1.2.2) (pss_cons (fst_of hN hs rfl rfl k0.1 k2.1 k2.2.1 k2.2.2) (pss_one (fst_of hN hs rfl rfl k0.1 k3.1 k3.2.1 k3.2.2)))
end

/-! ### the end -/
/-- a base under what is tracked: at most the script -/
theorem base_G {P : Program} {w : World} {K : PySem.W.Frag} {mg mb : Str → Option Value} {H : Hp} {a : Addr} {vs : List Value} {s : Shared} (KX : K.In s.heap) (hns : s.heap.Ns mainGlobals mg) (hb : s.heap.Ns builtinsNs mb) (hbb : ∀ x : Str, x ≠ "__name__" → mb x = bootBuiltins x)
    (hlim : s.heap.NoLimit) (hg : s.gens = #[]) (ha : s.heap.get? a = some { cls := .type "list", data := .seq vs.toArray }) (only : ∀ b, H b ≠ none → b = a ∧ K.lookup a = none) (hok : HOk P w H s.heap) :
    K.In (hidT s.heap H) ∧ (hidT s.heap H).Ns mainGlobals mg ∧ Env0 P w K mg (hidT s.heap H) callerA [] s H := by
  have none_of : ∀ {b : Addr}, b ≠ a → H b = none := fun {b} h => by
    cases q : H b with
    | none => rfl
    | some u => exact absurd (only b (by rw [q]; simp)).1 h
  have dict_of : ∀ {b : Addr} {m : Str → Option Value}, s.heap.Ns b m → (hidT s.heap H).Ns b m := fun {b m} ⟨o, es, ep, e, d, r⟩ => by
    refine ⟨o, es, ep, hidT_get e (none_of fun z => ?_), d, r⟩
    rw [z, ha] at e
    rw [← Option.some.inj e] at d
    have d' : Data.seq vs.toArray _ = Data.dict es ep := d
    cases d'
  have inK : K.In (hidT s.heap H) := fun b o e => by
    refine hidT_get (KX b o e) ?_
    cases q : H b with
    | none => rfl
    | some u =>
      obtain ⟨z1, z2⟩ := only b (by rw [q]; simp)
      rw [z1, z2] at e
      cases e
  obtain ⟨mc, c1, c2⟩ := hlim
  have md : Mod K mg (hidT s.heap H) := ⟨inK, dict_of hns, ⟨mb, dict_of hb, hbb⟩, ⟨mc, dict_of c1, c2⟩⟩
  exact ⟨inK, dict_of hns, ⟨rfl, md, fun b o e => of_hidT e, Nat.le_of_eq (hidT_size _ _), trivial, fun b hb' => absurd (show b ∈ ([] : List Addr) from hb') (by simp), hok, .of_eq hg⟩⟩
theorem law_G {P : Program} {w : World} {K : PySem.W.Frag} {mg mb : Str → Option Value} {k : Nat} {fa a : Addr} {fd : FuncData} {x : Str} {sp : Sp} {s : Shared} {vs : List Value} {ns : List Int} (KX : K.In s.heap) (hns : s.heap.Ns mainGlobals mg) (hb : s.heap.Ns builtinsNs mb)
    (hbb : ∀ x : Str, x ≠ "__name__" → mb x = bootBuiltins x) (hlim : s.heap.NoLimit) (hg : s.gens = #[]) (ha : s.heap.get? a = some { cls := .type "list", data := .seq vs.toArray }) (hi : IntsAre vs ns) (hl : ns.length ≤ sizeLine) (hr : Room k callerA)
    (F : ∀ base : Heap, K.In base → base.Ns mainGlobals mg → FnG P w K mg base k fa fd [x] sp) (hbind : ∀ (s : Shared) (u : Value), BindsTo s fd ⟨[u], []⟩ [(x, u)])
    (hsp : ∀ H : Hp, SqL K H a (ns.map V.int) → sp [.ref a] H (fun v _ => v = .bl true) fun _ _ _ => False) :
    codeAny (model P w) callerA (.call (.ref fa) ⟨[.ref a], []⟩) (fun r s' => r = .ok (.ret (.bool true)) ∧ OldK s.heap s'.heap ∧ s'.os = s.os ∧ AllBare s'.gens) s := by
  have run : ∀ H : Hp, HOk P w H s.heap → SqL K H a (ns.map V.int) → (∀ b, H b ≠ none → b = a ∧ K.lookup a = none) → (∀ b u, H b = some u → ∃ o xs, u = .frz o (.lst xs)) →
      codeAny (model P w) callerA (.call (.ref fa) ⟨[.ref a], []⟩) (fun r s' => r = .ok (.ret (.bool true)) ∧ OldK s.heap s'.heap ∧ s'.os = s.os ∧ AllBare s'.gens) s := by
    intro H hok hS only frz
    obtain ⟨b1, b2, e0⟩ := base_G (P := P) (w := w) KX hns hb hbb hlim hg ha only hok
    refine codeAny_mono ((F _ b1 b2).run callerA [] s H ⟨[.ref a], []⟩ [.ref a] [.ref a] _ _ rfl hr e0 (hbind s (.ref a)) (.cons rfl .nil) (hsp H hS)) fun r s' h => ?_
    rcases r with er | (_ | _ | _ | u)
    · obtain ⟨_, _, _, _, _, _, _, _, _, _, _, _, z⟩ := h
      exact z.elim
    · exact False.elim h
    · exact False.elim h
    · exact False.elim h
    · obtain ⟨v, H', os, bare, un, hok', rv, q⟩ := h
      have q' : v = .bl true := q
      rw [q'] at rv
      obtain rfl : u = Value.bool true := rv
      refine ⟨rfl, OldK.of_keep fun b o e => ?_, os, bare⟩
      cases hq : H b with
      | none => exact un.keep b o e hq (fun z => absurd (show b ∈ ([] : List Addr) from z) (by simp)) (by simp)
      | some u =>
        obtain ⟨ob, xs, rfl⟩ := frz b u hq
        have z1 := (hok b _ hq).1
        have z2 := (hok' b _ (un.frzs b ob _ hq)).1
        rw [e] at z1
        rw [Option.some.inj z1]
        exact z2
  cases hk : K.lookup a with
  | some o =>
    have e := (KX a o hk).symm.trans ha
    have eo := Option.some.inj e
    rw [eo] at hk
    exact run (fun _ => none) (fun b u z => absurd (show (none : Option HO) = some u from z) (by simp)) (.inr ⟨_, vs.toArray, _, hk, rfl, rfl, rfl, by rw [List.size_toArray, hi.length]; exact hl, by simpa using vals_ints hi⟩) (fun b z => absurd rfl z)
      fun b u z => absurd (show (none : Option HO) = some u from z) (by simp)
  | none =>
    have at1 : ∀ {b : Addr} {u : HO}, upd (fun _ => none) a (HO.frz { cls := .type "list", data := .seq vs.toArray } (.lst (ns.map V.int))) b = some u → b = a ∧ u = .frz { cls := .type "list", data := .seq vs.toArray } (.lst (ns.map V.int)) := fun {b u} z => by
      by_cases hb' : b = a
      · rw [hb', upd_same] at z
        exact ⟨hb', (Option.some.inj z).symm⟩
      · rw [upd_ne hb'] at z
        cases z
    refine run (upd (fun _ => none) a (.frz { cls := .type "list", data := .seq vs.toArray } (.lst (ns.map V.int)))) (fun b u z => ?_) (.inl (.inr ⟨_, upd_same⟩)) (fun b z => ?_) fun b u z => ⟨_, _, (at1 z).2⟩
    · obtain ⟨rfl, rfl⟩ := at1 z
      exact ⟨ha, by rw [List.length_map]; exact hl, vs, _, vals_ints hi, ha⟩
    · cases hq : upd (fun _ => none) a (HO.frz { cls := .type "list", data := .seq vs.toArray } (.lst (ns.map V.int))) b with
      | none => exact absurd hq z
      | some u => exact ⟨(at1 hq).1, hk⟩
theorem walk_G {l : PySem.W.OpenLaw} {n k : Nat} {q : Program} {loose : List Str} {XP : (Str → Option Value) → Heap → Prop} {YP : World → Heap → Prop} {d : DefRec} {x : Str} (hn : l.most = some n) (hn2 : n ≤ sizeLine) (hdf : d.params.defaults = []) (hr : Room k callerA)
    (F : ∀ (w : World) (mg : Str → Option Value) (fa : Addr) (h : Heap), YP w h → h.Ns mainGlobals mg → mg d.name = some (.ref fa) →
      ∃ (K : PySem.W.Frag) (fd : FuncData) (sp : Sp), K.In h ∧ (∀ (s : Shared) (u : Value), BindsTo s fd ⟨[u], []⟩ [(x, u)]) ∧ (∀ (H : Hp) (a : Addr) (ns : List Int), ns.length ≤ n → SqL K H a (ns.map V.int) → sp [.ref a] H (fun v _ => v = .bl true) fun _ _ _ => False) ∧
        ∀ base : Heap, K.In base → base.Ns mainGlobals mg → FnG l.prog w K mg base k fa fd [x] sp) : PySem.W.WalkO q loose XP YP l.row.toRowW d [] (fun f vs => PySem.call f vs) := by
  refine Att.attach_call hn hdf fun w s₀ s mg mb fa o pm cd doc a vs ns G Y ho hd hcd hmg hobj hints hlen hg => ?_
  obtain ⟨K, fd, sp, KX, hb, hsp, hF⟩ := F w mg fa _ Y G.T.g hmg
  exact law_G KX G.T.g G.T.b G.T.builtins G.T.nolimit hg hobj hints (Nat.le_trans hlen hn2) hr hF hb fun H hS => hsp H a ns hlen hS
/-- the script, as data -/
def dScript (ns : List Int) : List D := [.lst (ns.map D.int)]
theorem script_ok {c : RC} {K : PySem.W.Frag} {H : Hp} {a : Addr} {ns : List Int} {f : MF} (hK : c.K = K) (hS : SqL K H a (ns.map V.int)) (h : ∃ S, f (dScript ns) [] = .ok (.bl true) S) : spM c 1 f [.ref a] H (fun v _ => v = .bl true) fun _ _ _ => False := by
  obtain ⟨S, e⟩ := h
  have allI : ∀ (g : Wd) (l : List Int), RepL c g (l.map D.int) (l.map V.int) := fun g l => by
    induction l with
    | nil => exact RepL.nil
    | cons i r ih => exact RepL.cons Rep.int ih
  refine ⟨⟨H, []⟩, fun _ => none, [], dScript ns, ⟨Kp.refl H, fun _ _ e => (by cases e), fun _ _ e => (by cases e), rfl, List.nodup_nil, fun n a o e => by simp at e⟩, RepL.cons ?_ RepL.nil, rfl, ?_⟩
  · rw [Rep]
    exact ⟨a, _, rfl, by rw [hK]; exact hS, allI _ ns⟩
  · rw [e]
    intro g' v H' _ _ r
    exact r.bl_inv
end DL

end
section
/-! DL, part j: what a printed walk leans on. -/
namespace DL
open PySem PySem.Spec PyProof.Rows L2
theorem Cf.blk {k : Nat} {X : Cx} {c : RC} (cf : Cf k X c) {s : Shared} {H : Hp} {scope : Scope} {cenv : Env} {fp : List Addr} : Cf k (X.blk s H scope cenv fp) c := ⟨cf.kk, cf.gd, cf.hr, cf.calm, cf.nx⟩
/-- a def of the module, called by its name, no default -/
structure Cal (P : Program) (w : World) (K : PySem.W.Frag) (mg : Str → Option Value) (base : Heap) (c : RC) (k : Nat) (x : Str) (n : Nat) (fm : MF) : Prop where
  ex : ∃ f fd ps, mg x = some (.ref f) ∧ PySem.W.keepIn K (.ref f) = true ∧ Binds K fd ps [] ∧ FnG P w K mg base k f fd ps (spM c n fm)
section
variable {X : Cx} {c : RC} {W : WX} {j k n : Nat} {fm : MF} {x : Str} {p pos : Pos} {e : Expr} {es : List Expr} {m : MA}
theorem ce_cal (cf : Cf k X c) (tk : Takes X W) (C : Cal X.prog X.w X.K X.mg X.base c j x n fm) (hjk : j ≤ k) (ha : CA X c W (e :: es) m) (hg : Gl X x := by rfl) (hdb : (x == ("__debug__" : Str)) = false := by decide) (he : starEach (e :: es) X.env = (false, eval e X.env) :: starEach es X.env := by rfl)
    (hpl : (backTo pos (starEach es X.env)).any (·.1) = false := by rfl) : CE X c W (.Call (.Name x p) (e :: es) [] pos) (mCall (cut n fm []) m) := by
  obtain ⟨f, fd, ps, hm, hk, hb, F⟩ := C.ex
  exact ce_callN cf tk (F.mono hjk) hm hk hb ha hg hdb he hpl
end
/-- the built-in classes that own errors stand over -/
def bnOf : Nat → String
  | 0 => "ValueError"
  | 1 => "LookupError"
  | 2 => "RuntimeError"
  | _ => "OverflowError"
def bmOf : Nat → List Value
  | 0 => [.type "ValueError", .type "Exception", .type "BaseException", .type "object"]
  | 1 => [.type "LookupError", .type "Exception", .type "BaseException", .type "object"]
  | 2 => [.type "RuntimeError", .type "Exception", .type "BaseException", .type "object"]
  | _ => [.type "OverflowError", .type "ArithmeticError", .type "Exception", .type "BaseException", .type "object"]
def nidOf : Nat → String
  | 0 => "ValueError.__new__"
  | 1 => "LookupError.__new__"
  | 2 => "RuntimeError.__new__"
  | _ => "OverflowError.__new__"
theorem base_facts (b : Nat) : ∃ iid, ExcBaseFacts (bnOf b) (nidOf b) iid (bmOf b) ∧ StoreFacts (bnOf b) (bmOf b) "object.__setattr__" "object" := by
  match b with
  | 0 => exact ⟨_, PySem.F.excBase_ValueError, PySem.F.store_ValueError⟩
  | 1 => exact ⟨_, PySem.F.excBase_LookupError, PySem.F.store_LookupError⟩
  | 2 => exact ⟨_, PySem.F.excBase_RuntimeError, PySem.F.store_RuntimeError⟩
  | _ + 3 => exact ⟨_, PySem.F.excBase_OverflowError, PySem.F.store_OverflowError⟩
def blkB (N : List Str) (sc scope : Scope) (own : List (Str × Nat)) : Bool :=
  decide (scope.kind = .function) && (scope.names.all (fun y => decide (scope.names.lookup y.1 = some y.2)) && (own.all (fun p => decide (N[p.2]? = some p.1)) && (scope.names.all (fun y => !decide (y.2 = .free) || (decide (sc.names.lookup y.1 = some .cell) || decide (sc.names.lookup y.1 = some .free)))
    && scope.names.all (fun y => !(decide (y.2 = .local) || decide (y.2 = .cell)) || (decide (y.1 ∈ own.map (·.1)) || !decide (y.1 ∈ N))))))
theorem blk_by {N : List Str} {sc scope : Scope} {own : List (Str × Nat)} (h : blkB N sc scope own = true) : BlkOk N sc scope own := by
  unfold blkB at h
  obtain ⟨h1, h⟩ := band h
  obtain ⟨h2, h⟩ := band h
  obtain ⟨h3, h⟩ := band h
  obtain ⟨h4, h5⟩ := band h
  refine ⟨of_decide_eq_true h1, fun y hy => of_decide_eq_true (List.all_eq_true.mp h2 y hy), fun p hp => of_decide_eq_true (List.all_eq_true.mp h3 p hp), fun y hy e => ?_, fun y hy e => ?_⟩
  · have := List.all_eq_true.mp h4 y hy
    simpa [e] using this
  · have := List.all_eq_true.mp h5 y hy
    rcases e with e | e <;> simpa [e] using this
end DL

end
section
/-! DL, part k: running mirrors in the plain. -/
namespace DL
open PySem PySem.Spec L2
section
variable {a b : MS} {δ δ1 δ2 : Sl} {S S1 S2 : Sto} {m me mo mi : ME} {mt : MT} {ma : MA} {gm : MG} {d : D} {ds : List D} {i j : Nat} {r : F}
theorem seq_nx (h : a δ S = .nx δ1 S1) : sSeq a b δ S = b δ1 S1 := by
  unfold sSeq
  rw [h]
theorem seq_ret (h : a δ S = .ret d S1) : sSeq a b δ S = .ret d S1 := by
  unfold sSeq
  rw [h]
theorem seq_exc {k : Nat} {vs : List D} (h : a δ S = .exc k vs δ1 S1) : sSeq a b δ S = .exc k vs δ1 S1 := by
  unfold sSeq
  rw [h]
theorem set_ok (h : m δ S = .ok d S1) : sSet i m δ S = .nx (δ.set i (some d)) S1 := by
  unfold sSet
  rw [h]
  rfl
theorem ret_ok (h : m δ S = .ok d S1) : sRet m δ S = .ret d S1 := by
  unfold sRet
  rw [h]
  rfl
theorem drop_ok (h : m δ S = .ok d S1) : sDrop m δ S = .nx δ S1 := by
  unfold sDrop
  rw [h]
  rfl
theorem if_t (h : mt δ S = .ok true S1) : sIf mt a b δ S = a δ S1 := by
  unfold sIf
  rw [h]
  rfl
theorem if_f (h : mt δ S = .ok false S1) : sIf mt a b δ S = b δ S1 := by
  unfold sIf
  rw [h]
  rfl
theorem if_pass (h : mt δ S = .ok false S1) : sIf mt a sNx δ S = .nx δ S1 := if_f h
theorem for_ok' (h : ma δ S = .ok ds S1) : sFor ma gm b δ S = forGo gm b ds δ S1 := by
  unfold sFor
  rw [h]
  rfl
theorem par_ok {x y : D} (h : ma δ S = .ok [x, y] S1) : sPar i j ma δ S = .nx ((δ.set i (some x)).set j (some y)) S1 := by
  unfold sPar
  rw [h]
  rfl
theorem asg_ok (h : m δ S = .ok d S1) (hg : gm.f d δ = some δ1) : sAsg m gm δ S = .nx δ1 S1 := by
  unfold sAsg
  rw [h]
  simp only [R.flow_ok, hg]
theorem un_ok {f : D → Sto → R D} (h : m δ S = .ok d S1) : mUn f m δ S = f d S1 := by
  unfold mUn
  rw [h]
  rfl
theorem bin_ok {f : D → D → Sto → R D} {x y : D} (h : m δ S = .ok x S1) (k : me δ S1 = .ok y S2) : mBin f m me δ S = f x y S2 := by
  unfold mBin
  rw [h, R.bind_ok, k]
  rfl
theorem call_ok {f : List D → Sto → R D} (h : ma δ S = .ok ds S1) : mCall f ma δ S = f ds S1 := by
  unfold mCall
  rw [h]
  rfl
theorem cons_ok (h : m δ S = .ok d S1) (k : ma δ S1 = .ok ds S2) : mCons m ma δ S = .ok (d :: ds) S2 := by
  unfold mCons
  rw [h, R.bind_ok, k]
  rfl
theorem nil_ok : mNil δ S = .ok [] S := rfl
theorem c_ok : mC d δ S = .ok d S := rfl
theorem var_ok (h : δ[i]? = some (some d)) : mVar i δ S = .ok d S := by
  unfold mVar
  rw [h]
theorem test_ok {k : Bool} (h : m δ S = .ok (.bl k) S1) : mTest m δ S = .ok k S1 := by
  unfold mTest
  rw [h]
  rfl
theorem ifE_t (h : mt δ S = .ok true S1) : mIf mt m me δ S = m δ S1 := by
  unfold mIf
  rw [h]
  rfl
theorem ifE_f (h : mt δ S = .ok false S1) : mIf mt m me δ S = me δ S1 := by
  unfold mIf
  rw [h]
  rfl
/-- a loop over whose items the body keeps P -/
theorem for_keep {P : Sl → Sto → Prop} (hb : ∀ d ∈ ds, ∀ δ S, P δ S → ∃ δ0 δ' S', gm.f d δ = some δ0 ∧ b δ0 S = .nx δ' S' ∧ P δ' S') : ∀ δ S, P δ S → ∃ δ' S', forGo gm b ds δ S = .nx δ' S' ∧ P δ' S' := by
  induction ds with
  | nil => exact fun δ S h => ⟨δ, S, rfl, h⟩
  | cons d r ih =>
    intro δ S h
    obtain ⟨δ0, δ1, S1, e1, e2, h1⟩ := hb d List.mem_cons_self δ S h
    obtain ⟨δ', S', e, h'⟩ := ih (fun d hd => hb d (List.mem_cons_of_mem _ hd)) δ1 S1 h1
    refine ⟨δ', S', ?_, h'⟩
    unfold forGo
    rw [e1]
    simp only [e2]
    exact e
end
/-- the data that are as they are kept -/
theorem atI_nat {α : Type} {xs : List α} {i : Nat} (h : i < xs.length) : atI xs (i : Int) = some xs[i] := by
  unfold atI ixN
  rw [if_pos (by omega), if_pos (by omega)]
  simp [h]
theorem lc_go {gm : MG} {e : ME} {δ : Sl} {S : Sto} {f : D → D} : ∀ {items : List D} (acc : List D), (∀ d ∈ items, ∃ δ1, gm.f d δ = some δ1 ∧ e δ1 S = .ok (f d) S) → lcGo gm tOk e δ items acc S = .ok (acc ++ items.map f) S
  | [], acc, _ => by simp [lcGo]
  | d :: r, acc, h => by
    obtain ⟨δ1, e1, e2⟩ := h d List.mem_cons_self
    have ih := lc_go (gm := gm) (e := e) (δ := δ) (S := S) (f := f) (items := r) (acc ++ [f d]) fun d hd => h d (List.mem_cons_of_mem _ hd)
    unfold lcGo
    rw [e1]
    simp only [tOk, R.bind_ok, if_true, e2]
    rw [ih]
    simp
theorem lc_all {gm : MG} {e : ME} {mi : MA} {vs : List Nat} {fin : List D → Sto → R D} {δ : Sl} {S : Sto} {items : List D} {f : D → D} (hm : mi δ S = .ok items S) (hl : items.length ≤ 16777216) (h : ∀ d ∈ items, ∃ δ1, gm.f d (wipeD δ vs) = some δ1 ∧ e δ1 S = .ok (f d) S) :
    mLc mi gm vs tOk e fin δ S = fin (items.map f) S := by
  unfold mLc
  rw [hm, R.bind_ok, if_pos hl, lc_go [] h]
  rfl
theorem app_step {e : ME} {i : Nat} {δ : Sl} {A : Sto} {rows : List D} {v : D} (hm : δ[i]? = some (some (.loc A.length))) (he : e δ (A ++ [.lst rows]) = .ok v (A ++ [.lst rows])) (hv : v.clean = true) (hl : rows.length < 16777216) :
    sDrop (mMeth1 isSq fApp (mVar i) e) δ (A ++ [.lst rows]) = .nx δ (A ++ [.lst (rows ++ [v])]) := by
  refine drop_ok (d := .non) ?_
  have e1 : mVar i δ (A ++ [.lst rows]) = .ok (.loc A.length) (A ++ [.lst rows]) := var_ok hm
  unfold mMeth1
  rw [e1]
  simp [isSq, D.seq, he, fApp, hl, hv]
/-- equal lists of truth values -/
theorem pyL_bools : ∀ l : List Bool, D.pyL (l.map D.bl) = some (l.map PyData.bool)
  | [] => rfl
  | b :: r => by
    rw [List.map_cons, D.pyL, pyL_bools r]
    rfl
theorem lay_bools : ∀ l : List Bool, PyData.canLayAll0 (l.map PyData.bool) = true
  | [] => rfl
  | b :: r => by
    rw [List.map_cons, PyData.canLayAll0, lay_bools r]
    rfl
theorem depth_bools : ∀ l : List Bool, PyData.depthAll (l.map PyData.bool) = 0
  | [] => rfl
  | b :: r => by
    rw [List.map_cons, PyData.depthAll, depth_bools r]
    rfl
theorem eqv_bools : ∀ l : List Bool, PyData.eqvAll (l.map PyData.bool) (l.map PyData.bool) = true
  | [] => rfl
  | b :: r => by
    rw [List.map_cons, PyData.eqvAll, eqv_bools r, PyData.eqv]
    simp
theorem ne_bools (l : List Bool) (S : Sto) : fNe (.lst (l.map D.bl)) (.lst (l.map D.bl)) S = .ok (.bl false) S := by
  have e : fNe (.lst (l.map D.bl)) (.lst (l.map D.bl)) S = fNeT (.lst (l.map D.bl)) (.lst (l.map D.bl)) S := rfl
  have sh : SeqAt.shaped (.list (l.map PyData.bool)) = true := by
    unfold SeqAt.shaped
    rw [PyData.canLay0, PyData.depth, lay_bools, depth_bools]
    rfl
  rw [e, fNeT]
  simp only [D.pyS, D.py, pyL_bools, Option.map_some, sh, and_self, if_true, PyData.eqv, eqv_bools, Bool.not_true]
def RG (n : Int) (S1 : Sto) : R (List D) := if fits62 n = true then .ok ((List.range n.toNat).map fun (i : Nat) => D.int (i : Int)) S1 else .bad
theorem rg1 {m : MA} {δ : Sl} {S S1 : Sto} {n : Int} (h : m δ S = .ok [.int n] S1) : mRgI m δ S = RG n S1 := by
  unfold mRgI
  rw [h]
  rfl
theorem rg2 (n : Nat) (hn : n < 1000000) (S : Sto) : RG n S = .ok ((List.range (n : Int).toNat).map fun (i : Nat) => D.int (i : Int)) S := if_pos (fits62_nat hn)
theorem rg3 (n : Nat) (hn : n < 1000000) (S : Sto) : RG n S = .ok ((List.range n).map fun (i : Nat) => D.int (i : Int)) S := by
  rw [rg2 n hn]
  rfl
theorem range_of {m : ME} {n : Nat} {δ : Sl} {S S1 : Sto} (h : m δ S = .ok (.int (n : Int)) S1) (hn : n < 1000000) : mRgI (mCons m mNil) δ S = .ok ((List.range n).map fun (i : Nat) => D.int (i : Int)) S1 := (rg1 (cons_ok h nil_ok)).trans (rg3 n hn S1)
section
variable {m m2 m3 : ME} {δ : Sl} {S S1 S2 S3 : Sto} {x y z : D} {f : MF}
theorem call1 (h : m δ S = .ok x S1) : mCall (cut 1 f []) (mCons m mNil) δ S = f [x] S1 := (call_ok (cons_ok h nil_ok)).trans rfl
theorem call2 (h : m δ S = .ok x S1) (h2 : m2 δ S1 = .ok y S2) : mCall (cut 2 f []) (mCons m (mCons m2 mNil)) δ S = f [x, y] S2 := (call_ok (cons_ok h (cons_ok h2 nil_ok))).trans rfl
theorem call3 (h : m δ S = .ok x S1) (h2 : m2 δ S1 = .ok y S2) (h3 : m3 δ S2 = .ok z S3) : mCall (cut 3 f []) (mCons m (mCons m2 (mCons m3 mNil))) δ S = f [x, y, z] S3 := (call_ok (cons_ok h (cons_ok h2 (cons_ok h3 nil_ok)))).trans rfl
end
end DL

end
section
/-! DL, part l: raise; instances made, their attributes set, their methods called. -/
namespace DL
open PySem PySem.Spec PyProof.Rows L2

/-! ### what is not reached -/
def sBad : MS := fun _ _ => .bad
theorem cs_bad {X : Cx} {c : RC} {W : WX} {st : Stmt} : CS X c W st sBad := ⟨fun pins s σ H Dn I ⟨_, _, _, _, _, _, q⟩ => False.elim q⟩
def mBad : ME := fun _ _ => .bad
theorem ce_bad {X : Cx} {c : RC} {W : WX} {e : Expr} : CE X c W e mBad := ⟨fun pins s σ H Q I ⟨_, _, _, _, _, _, q⟩ => False.elim q⟩

/-! ### raise -/
def sRaise (k n : Nat) (m : MA) : MS := fun δ S => (m δ S).flow δ fun xs S1 => if xs.length = n ∧ n ≤ 1000 then .exc k xs δ S1 else .bad
section
variable {X : Cx} {c : RC} {W : WX} {k n j : Nat} {x : Str} {p pos rpos : Pos} {e : Expr} {es : List Expr} {m : MA}
def tRz (c : RC) (W : WX) (k n : Nat) (m : MA) : L2.St → Hp → XK → Prop := fun σ H Q => ∃ g Z δ S, SimH c g S Z H ∧ Slots c g δ σ ∧ Post c (RepL c) g Z (m δ S) (fun vs H1 => ∃ g1 S1 ds, SimH c g1 S1 Z H1 ∧ RepL c g1 ds vs ∧ ds.length = n ∧ n ≤ 1000 ∧
  ∀ dd H', SimH c g1 S1 Z H' → XRep c g1 Z H' k ds dd → Q (.ref (c.cl k)) dd H') (fun k d H' => W k d σ H')
theorem pmk_err (cf : Cf (j + 1) X c) (tk : Takes X W) (M : ErrM X.prog X.w X.K X.mg X.base c j k n) (hm : X.mg x = some (.ref (c.cl k))) (ha : CA X c W (e :: es) m)
    (hg : Gl X x := by rfl) (hdb : (x == ("__debug__" : Str)) = false := by decide) (he : starEach (e :: es) X.env = (false, eval e X.env) :: starEach es X.env := by rfl) (hpl : (backTo pos (starEach es X.env)).any (·.1) = false := by rfl) :
    PMk X (.Call (.Name x p) (e :: es) [] pos) (tRz c W k n m) := by
  obtain ⟨fI, fd, ps, iC, tI, F1, hb⟩ := M.mi
  obtain ⟨B, newId, initId, bmB, T⟩ := M.T.ex
  intro pins s σ H Q I ⟨g, Z, δ, S, sm, sl, q⟩
  refine wpAny_Call_Name_kw (ld_glob I hg hm ?_ hdb)
  refine PySem.W.callWith_K (h₀ := X.base) I.ok.mod.kin M.kC (thn (ha.run pos pins s σ H _ I ⟨g, Z, δ, S, sm, sl, q⟩) fun us s1 hx => ?_) he hpl
  obtain ⟨vs, H1, I1, r1, g1, S1, ds, s1', rp, hn, hz, q1⟩ := hx
  refine ⟨I1.kIn, ?_⟩
  show wpAny _ _ (call (.ref (c.cl k)) us) _ _ _
  have kk0 : c.K = X.K := cf.kk
  obtain ⟨nm, N', qn, bs, bm, hdct, sn, sub, ab, col, dd, k0, k1, k2, k3, k5, hC, hT⟩ := PySem.W.excInit_of I1.kIn (by rw [← kk0]; exact T.ini)
  obtain ⟨hp, gs, dr, tok, os⟩ := s1
  have hsz : hp.objs.size ≤ hp.objs.size + 1 := Nat.le_succ _
  have hna : H1 (hp.objs.size + 1) = none := I1.hok.fresh hsz
  have lvs : vs.length = n := by rw [rp.length, hn]
  have lus : us.length = n := by rw [← Paired.length r1, lvs]
  have kk : ∀ b o, hp.get? b = some o → ((hp.push (PySem.W.kdv_tup us)).push (PySem.HandSPX.excO (c.cl k) hp.objs.size)).get? b = some o := fun b o e => Heap.get?_push_of_some _ (Heap.get?_push_of_some _ e)
  have I2 : Inv X pins σ (upd H1 (hp.objs.size + 1) (exo (hp.objs.size + 1) (c.cl k) none)) ⟨(hp.push (PySem.W.kdv_tup us)).push (PySem.HandSPX.excO (c.cl k) hp.objs.size), gs, dr, tok, os⟩ :=
    I1.laid (t' := tok) (a := hp.objs.size + 1) (o := exo (hp.objs.size + 1) (c.cl k) none) (h' := (hp.push (PySem.W.kdv_tup us)).push (PySem.HandSPX.excO (c.cl k) hp.objs.size)) kk hsz (exo_ok (t1 := hp.objs.size) (by heap_get))
  have sp1 : spX c k n (V.ref (hp.objs.size + 1) :: vs) (upd H1 (hp.objs.size + 1) (exo (hp.objs.size + 1) (c.cl k) none))
      (fun v H2 => v = .non ∧ ∃ (d : Addr) (fs : List (Str × V)), H2 (hp.objs.size + 1) = some (exo (hp.objs.size + 1) (c.cl k) (some d)) ∧ H2 d = some (exd d fs) ∧ H1 d = none ∧ Q (.ref (c.cl k)) (some d) (upd (del H2 (hp.objs.size + 1)) d (.xd fs))) (fun cls d H' => W cls d σ H') := by
    refine ⟨_, vs, rfl, lvs, upd_same, fun d fs hd hda at_ => ⟨rfl, d, fs, upd_same, ?_, ?_, ?_⟩⟩
    · rw [upd_ne hda, upd_same]
    · rw [upd_ne hda] at hd
      exact hd
    · rw [upd_ne hda] at hd
      have eH : upd (del (upd (upd (upd H1 (hp.objs.size + 1) (exo (hp.objs.size + 1) (c.cl k) none)) d (exd d fs)) (hp.objs.size + 1) (exo (hp.objs.size + 1) (c.cl k) (some d))) (hp.objs.size + 1)) d (.xd fs) = upd H1 d (.xd fs) := by
        funext b
        by_cases h1 : b = d
        · rw [h1, upd_same, upd_same]
        · rw [upd_ne h1, upd_ne h1]
          by_cases h2 : b = hp.objs.size + 1
          · rw [h2, del_same, hna]
          · rw [del_ne h2, upd_ne h2, upd_ne h1, upd_ne h2]
      rw [eH]
      exact q1 (some d) _ (s1'.beside hd (.xd fs)) (.inr ⟨d, fs, vs, rfl, upd_same, ⟨s1'.zk.gone hd, s1'.gk.gone hd⟩, at_, rp⟩)
  have lps : (Value.ref (hp.objs.size + 1) :: us).length = ps.length := by
    have e1 := F1.len _ _ _ _ sp1
    rw [List.length_cons, lvs] at e1
    rw [List.length_cons, lus, e1]
  have hus : us.length ≤ sizeLine := by
    rw [lus, sizeLine_eq]
    omega
  refine wpAny_call (PySem.HandSPX.call_own T.FB hT hC (PySem.W.looks_findIn I1.kIn iC) (fun self => PySem.W.bind_fn I1.kIn self tI) hus
    (codeAny_mono (F1.run _ X.stack _ _ ⟨Value.ref (hp.objs.size + 1) :: us, []⟩ (Value.ref (hp.objs.size + 1) :: us) (V.ref (hp.objs.size + 1) :: vs) _ _ (guards_make cf.gd) (cf.hr.make (c.cl k) us []) (I2.env0.make (c.cl k) us []) ?_ (Paired.cons (show RelV (V.ref (hp.objs.size + 1)) (Value.ref (hp.objs.size + 1)) from rfl) r1) sp1) fun r s' hq => ?_))
  · have := hb ⟨(hp.push (PySem.W.kdv_tup us)).push (PySem.HandSPX.excO (c.cl k) hp.objs.size), gs, dr, tok, os⟩ (Value.ref (hp.objs.size + 1) :: us) I2.kIn (by simpa using lps)
    simpa using this
  · rcases r with err | (_ | _ | _ | u)
    · exact passAt tk σ pins _ _ err s' I2 hq
    · exact hq.elim
    · exact hq.elim
    · exact hq.elim
    · obtain ⟨v, H2, os2, bare2, un2, hok2, rv, ev, d, fs, ea, ed, hd1, q2⟩ := hq
      subst ev
      obtain ⟨h2, gg2, dd2, tt2, oo2⟩ := s'
      have ex : PySem.W.subIn X.K (.ref (c.cl k)) (.type "BaseException") = some true := by rw [← kk0]; exact T.exC
      have ty : PySem.W.typeIn X.K (.ref (c.cl k)) = some (.type "type") := by rw [← kk0]; exact T.tyC
      exact ⟨rv, mk_end (raises_own ex ty) I1 hsz kk un2 hok2 os2 bare2 ea ed hd1 q2⟩
theorem cs_raise (cf : Cf (j + 1) X c) (tk : Takes X W) (M : ErrM X.prog X.w X.K X.mg X.base c j k n) (hm : X.mg x = some (.ref (c.cl k))) (ha : CA X c W (e :: es) m)
    (hg : Gl X x := by rfl) (hdb : (x == ("__debug__" : Str)) = false := by decide) (he : starEach (e :: es) X.env = (false, eval e X.env) :: starEach es X.env := by rfl) (hpl : (backTo pos (starEach es X.env)).any (·.1) = false := by rfl) :
    CS X c W (.Raise (some (.Call (.Name x p) (e :: es) [] pos)) none rpos) (sRaise k n m) :=
  weakS (ps_raise cf.calm tk (pmk_err cf tk M hm ha hg hdb he hpl)) fun Dn σ H ⟨g, Z, δ, S, sm, sl, q⟩ => ⟨g, Z, δ, S, sm, sl, by
    unfold sRaise at q
    refine Post.flow sl q fun xs S1 g1 vs H1 le1 s1 r1 q1 => ?_
    by_cases hc : xs.length = n ∧ n ≤ 1000
    · rw [if_pos hc] at q1
      exact ⟨g1, S1, xs, s1, r1, hc.1, hc.2, fun dd H' s2 x2 => q1 g1 dd σ H' (.refl g1) s2 (sl.up le1) x2⟩
    · rw [if_neg hc] at q1
      exact q1.elim⟩
end

/-! ### instances: made -/
def fMk (k n : Nat) (fm : MF) (xs : List D) (S : Sto) : R D := if xs.length + 1 = n then (match fm (.loc S.length :: xs) (S ++ [.ins k []]) with
  | .ok .non S' => (match S'[S.length]? with
    | some (.ins k' ds) => if k' = k ∧ S.length ≤ S'.length then .ok (.ins k ds) (S'.take S.length) else .bad
    | _ => .bad)
  | .exc j vs S' => if S.length ≤ S'.length ∧ D.cleanL vs = true then .exc j vs (S'.take S.length) else .bad
  | _ => .bad) else .bad
section
variable {c : RC} {g : Wd} {S : Sto} {Z H1 : Hp} {k n : Nat} {fm : MF} {ds : List D} {vs : List V} {Q : VK} {E : XK}
/-- the promise of an __init__, from the mirror of the making -/
theorem mk_sp (sm : SimH c g S Z H1) (r : RepL c g ds vs) (q : Post c (Rep c) g Z (fMk k n fm ds S) Q E) (x dx : Addr) (hx : H1 x = none) (hd : H1 dx = none) (hne : dx ≠ x) :
    spM c n fm (.ref x :: vs) (upd (upd H1 dx (.own x)) x (.ins (c.cl k) dx [])) (fun v H2 => v = .non ∧ Q (.ref x) H2) E := by
  unfold fMk at q
  by_cases hn : ds.length + 1 = n
  · rw [if_pos hn] at q
    have s1 := sm.beside hd (.own x)
    have hx1 : upd H1 dx (.own x) x = none := by
      rw [upd_ne (Ne.symm hne)]
      exact hx
    obtain ⟨le2, s2⟩ := s1.newCell (o := .ins (c.cl k) dx []) (u := .ins k []) hx1 ⟨rfl, dx, [], [], upd_same, ⟨fun i v e => by simp at e, fun f _ => rfl, Nat.le_refl _⟩, RepL.nil⟩
    have rself : Rep c ⟨g.G, g.ι ++ [x]⟩ (.loc S.length) (.ref x) := by
      rw [Rep]
      exact ⟨x, rfl, by rw [← sm.len]; simp⟩
    refine ⟨_, Z, _, .loc S.length :: ds, s2, RepL.cons rself (RepL.up le2 r), by rw [List.length_cons]; exact hn, ?_⟩
    cases e : fm (.loc S.length :: ds) (S ++ [.ins k []]) with
    | bad => rw [e] at q; exact q.elim
    | exc j ws S' =>
      rw [e] at q
      by_cases hc : S.length ≤ S'.length ∧ D.cleanL ws = true
      · simp only [if_pos hc] at q
        intro g' dd H' le s' xr
        obtain ⟨le3, s3⟩ := s'.cut (le2.trans le) sm.len hc.1
        refine q _ dd H' le3 s3 ?_
        rcases xr with xr | ⟨d, fs, ws', e1, e2, ez, e3, rr⟩
        · exact .inl xr
        · exact .inr ⟨d, fs, ws', e1, e2, ez, e3, RepL.clean (ι := g'.ι) hc.2 rr⟩
      · simp only [if_neg hc] at q
        exact q.elim
    | ok d S' =>
      rw [e] at q
      cases d with
      | non =>
        simp only at q
        cases eS : S'[S.length]? with
        | none => rw [eS] at q; exact q.elim
        | some o =>
          rw [eS] at q
          cases o with
          | ins k' es =>
            simp only at q
            by_cases hc : k' = k ∧ S.length ≤ S'.length
            · rw [if_pos hc] at q
              obtain ⟨rfl, hl⟩ := hc
              intro g' v H' le s' rv
              refine ⟨rv.non_inv, ?_⟩
              obtain ⟨le3, s3⟩ := s'.cut (le2.trans le) sm.len hl
              have ex : g'.ι[S.length]? = some x := pre_get le.i (by show (g.ι ++ [x])[S.length]? = some x; rw [← sm.len]; simp)
              obtain ⟨h1, h2, hcl, dx', fs, ws, hH, at_, rs⟩ := s'.cell _ x _ ex eS
              have na : x ∉ g.ι := fun h => sm.not_new hx h
              obtain ⟨le4, s4⟩ := s3.fix hH na h2 (h1 (by simp))
              refine q _ _ _ (le3.trans le4) s4 ?_
              rw [Rep]
              exact ⟨x, dx', fs, ws, rfl, upd_same, at_, RepL.up le4 (RepL.clean (ι := g'.ι) hcl rs)⟩
            · rw [if_neg hc] at q
              exact q.elim
          | _ => exact q.elim
      | _ => exact q.elim
  · rw [if_neg hn] at q
    exact q.elim
end
section
variable {X : Cx} {c : RC} {W : WX} {j k n : Nat} {f : Addr} {fd : FuncData} {ps : List Str} {fm : MF} {x : Str} {p pos : Pos} {e : Expr} {es : List Expr} {m : MA}
theorem run_mk {pins : List (Addr × Obj)} {σ : L2.St} {H : Hp} {s : Shared} {Q : VK} {sp : Sp} {us : List Value} {kw : List (Str × Value)} {as : Value → List Value} {bs : V → List V} {C : Addr} (cf : Cf (j + 1) X c) (tk : Takes X W) (M : Mk X.K C f) (F : FnG X.prog X.w X.K X.mg X.base j f fd ps sp)
    (I : Inv X pins σ H s) (hbind : ∀ (s : Shared) (y : Value), X.K.In s.heap → BindsTo s fd ⟨y :: us, kw⟩ (ps.zip (as y))) (r : ∀ a : Addr, Vals (bs (.ref a)) (as (.ref a)))
    (h : ∀ y dx, H y = none → H dx = none → dx ≠ y → sp (bs (.ref y)) (upd (upd H dx (.own y)) y (.ins C dx [])) (fun v H2 => v = .non ∧ Q (.ref y) H2) fun cls d H' => W cls d σ H') :
    wpAny (model X.prog X.w) X.A (call (.ref C) us kw) (EP X pins σ Q) X.xe s := by
  have hq := h (s.heap.objs.size + 1) s.heap.objs.size (I.hok.fresh (Nat.le_succ _)) (I.hok.fresh (Nat.le_refl _)) (Nat.ne_of_lt (Nat.lt_succ_self _))
  have I2 := Inv.made (C := C) I
  refine wpAny_call (make_map (f := f) I.kIn M.makes M.init (beq_iff_eq.mp M.fn) (codeAny_mono (F.run _ X.stack _ _ ⟨Value.ref (s.heap.objs.size + 1) :: us, kw⟩ (as (Value.ref (s.heap.objs.size + 1))) _ _ _ (guards_make cf.gd) (cf.hr.make C us kw) (I2.env0.make C us kw) (hbind _ _ I2.kIn) (r _) hq) fun r s' hq' => ?_))
  rcases r with err | (_ | _ | _ | u)
  · exact passAt tk σ pins _ _ err s' I2 hq'
  · exact hq'.elim
  · exact hq'.elim
  · exact hq'.elim
  · obtain ⟨v, H', J, rv, ev, q2⟩ := I2.after hq'
    subst ev
    exact ⟨rv, .ref (s.heap.objs.size + 1), H', J, rfl, q2⟩
/-- C(e, ..) -/
theorem ce_mk (cf : Cf (j + 1) X c) (tk : Takes X W) (M : Mk X.K (c.cl k) f) (F : FnG X.prog X.w X.K X.mg X.base j f fd ps (spM c n fm)) (hb : Binds X.K fd ps []) (hnp : n = ps.length) (hm : X.mg x = some (.ref (c.cl k))) (ha : CA X c W (e :: es) m)
    (hg : Gl X x := by rfl) (hdb : (x == ("__debug__" : Str)) = false := by decide) (he : starEach (e :: es) X.env = (false, eval e X.env) :: starEach es X.env := by rfl) (hpl : (backTo pos (starEach es X.env)).any (·.1) = false := by rfl) :
    CE X c W (.Call (.Name x p) (e :: es) [] pos) (mCall (fMk k n fm) m) := by
  refine ⟨fun pins s σ H Q I ⟨g, Z, δ, S, sm, sl, q⟩ => ?_⟩
  refine wpAny_Call_Name_kw (ld_glob I hg hm ?_ hdb)
  refine PySem.W.callWith_K (h₀ := X.base) I.ok.mod.kin M.kp (thn (ha.run pos pins s σ H _ I ⟨g, Z, δ, S, sm, sl, Post.bind (Q := fun vs H1 => ∃ g1 S1 ds, SimH c g1 S1 Z H1 ∧ RepL c g1 ds vs ∧ ds.length + 1 = n ∧ Post c (Rep c) g1 Z (fMk k n fm ds S1) Q fun cls d H' => W cls d σ H') q fun ds S1 g1 vs H1 eS le1 s1 r1 q1 => ?_⟩) fun us s1 hx => ?_) he hpl
  · refine ⟨g1, S1, ds, s1, r1, ?_, q1⟩
    by_cases hn : ds.length + 1 = n
    · exact hn
    · unfold fMk at q1
      rw [if_neg hn] at q1
      exact q1.elim
  · obtain ⟨vs, H1, I1, r1, g1, S1, ds, s1', rp, hl, q1⟩ := hx
    refine ⟨I1.kIn, ?_⟩
    have lus : us.length + 1 = ps.length := by rw [← Paired.length r1, rp.length, hl, hnp]
    exact run_mk (as := fun y => y :: us) (bs := fun y => y :: vs) cf tk M F I1 (fun s y hK => by have := hb s (y :: us) hK (by simpa using lus); simpa using this) (fun a => Paired.cons (show RelV (V.ref a) (Value.ref a) from rfl) r1) fun y dx h1 h2 h3 => mk_sp s1' rp q1 y dx h1 h2 h3
end
end DL

end
section
/-! DL, part m: attributes set, methods, own operators. -/
namespace DL
open PySem PySem.Spec PyProof.Rows L2

/-! ### self.f = v -/
def sAttr (fl : Nat → List Str) (f : Str) (mv mo : ME) : MS := fun δ S => (mv δ S).flow δ fun v S1 => (mo δ S1).flow δ fun o S2 => match o with
  | .loc n => (match S2[n]? with
    | some (.ins k ds) => if 100 ≤ k ∧ v.clean = true ∧ ds.length < 900 then (match (fl k).idxOf? f with
      | some i => if i < ds.length then .nx δ (S2.set n (.ins k (ds.set i v))) else if i = ds.length then .nx δ (S2.set n (.ins k (ds ++ [v]))) else .bad
      | none => .bad) else .bad
    | _ => .bad)
  | _ => .bad
theorem putF_len {f : Str} {v w : V} : ∀ {fs : List (Str × V)}, fs.lookup f = some w → (putF f v fs).length = fs.length
  | [], h => by cases h
  | (g, x) :: r, h => by
    unfold putF
    by_cases hg : g = f
    · rw [if_pos hg]
      rfl
    · rw [if_neg hg]
      rw [lookup_put, if_neg (Ne.symm hg)] at h
      rw [List.length_cons, List.length_cons, putF_len h]
theorem Att.put {ns : List Str} {vs : List V} {fs : List (Str × V)} {f : Str} {y : V} {i : Nat} (a : Att ns vs fs) (nd : ns.Nodup) (hi : ns[i]? = some f) (hl : i < vs.length) : Att ns (vs.set i y) (putF f y fs) := by
  have hf : f ∈ ns := List.mem_of_getElem? hi
  obtain ⟨f0, h1, h2⟩ := a.at_ i vs[i] (by simp [hl])
  rw [hi] at h1
  cases h1
  refine ⟨fun j v e => ?_, fun g hg => ?_, ?_⟩
  · by_cases hj : i = j
    · subst hj
      rw [List.getElem?_set_self hl] at e
      cases e
      exact ⟨f, hi, by rw [lookup_putF, if_pos rfl]⟩
    · rw [List.getElem?_set_ne hj] at e
      obtain ⟨f', k1, k2⟩ := a.at_ j v e
      refine ⟨f', k1, ?_⟩
      rw [lookup_putF, if_neg]
      · exact k2
      · intro z
        subst z
        exact hj (nodup_at nd hi k1)
  · rw [lookup_putF, if_neg (fun z => hg (by rw [z]; exact hf))]
    exact a.no g hg
  · rw [putF_len h2, List.length_set]
    exact a.few
theorem Att.more {ns : List Str} {vs : List V} {fs : List (Str × V)} {f : Str} {y : V} (a : Att ns vs fs) (nd : ns.Nodup) (hi : ns[vs.length]? = some f) : Att ns (vs ++ [y]) (putF f y fs) := by
  have hf : f ∈ ns := List.mem_of_getElem? hi
  refine ⟨fun j v e => ?_, fun g hg => ?_, ?_⟩
  · by_cases hj : j < vs.length
    · rw [List.getElem?_append_left hj] at e
      obtain ⟨f', k1, k2⟩ := a.at_ j v e
      refine ⟨f', k1, ?_⟩
      rw [lookup_putF, if_neg]
      · exact k2
      · intro z
        subst z
        have := nodup_at nd hi k1
        omega
    · have e0 : j = vs.length := by
        have := (List.getElem?_eq_some_iff.mp e).1
        simp at this
        omega
      subst e0
      simp at e
      subst e
      exact ⟨f, hi, by rw [lookup_putF, if_pos rfl]⟩
  · rw [lookup_putF, if_neg (fun z => hg (by rw [z]; exact hf))]
    exact a.no g hg
  · have := length_putF f y fs
    have := a.few
    simp
    omega
section
variable {X : Cx} {c : RC} {W : WX} {j k n : Nat} {f m : Str} {p pos apos : Pos} {e o v : Expr} {es : List Expr} {mo mv ma mb : ME} {ms : MA}
theorem cs_attr {fl : Nat → List Str} (cf : Cf j X c) (ok : RcOk c) (nd : ∀ k, (c.fl k).Nodup) (hfl : fl = c.fl) (ho : CE X c W o mo) (hv : CE X c W v mv) (hs : swapsWith v (some (.Attribute o f apos)) pos.line X.env = pure false := by rfl) :
    CS X c W (.Assign [.Attribute o f apos] v pos) (sAttr fl f mv mo) := by
  subst hfl
  refine weakS (ps_fld ho hv hs) fun Dn σ H ⟨g, Z, δ, S, sm, sl, q⟩ => ⟨g, Z, δ, S, sm, sl, ?_⟩
  unfold sAttr at q
  refine Post.flow sl q fun y S1 g1 v1 H1 le1 s1 r1 q1 => ⟨g1, Z, δ, S1, s1, sl.up le1, Post.flow (sl.up le1) q1 fun od S2 g2 v2 H2 le2 s2 r2 q2 => ?_⟩
  cases od with
  | loc n =>
    simp only at q2
    cases eS : S2[n]? with
    | none => rw [eS] at q2; exact q2.elim
    | some ob =>
      rw [eS] at q2
      cases ob with
      | ins k ds =>
        simp only at q2
        by_cases hc : 100 ≤ k ∧ y.clean = true ∧ ds.length < 900
        · rw [if_pos hc] at q2
          cases ei : (c.fl k).idxOf? f with
          | none => rw [ei] at q2; exact q2.elim
          | some i =>
            rw [ei] at q2
            simp only at q2
            have hi := idx_at ei
            obtain ⟨ia, no⟩ := ok.ia k f hc.1 (List.mem_of_getElem? hi)
            rw [cf.kk] at ia no
            rw [Rep] at r2
            obtain ⟨a, rfl, ha⟩ := r2
            obtain ⟨_, _, hcl, dx, fs, vs, hH, at_, rs⟩ := s2.cell n a _ ha eS
            have hn : n < S2.length := (List.getElem?_eq_some_iff.mp eS).1
            have lv := rs.length
            have few := at_.few
            have r1' := Rep.up le2 r1
            refine ⟨a, _, dx, fs, rfl, hH, ia.cl, no, by omega, ?_⟩
            by_cases hl : i < ds.length
            · rw [if_pos hl] at q2
              refine q2 g2 σ _ (.refl g2) (s2.write (u := .ins k (ds.set i y)) ha eS ?_) ((sl.up le1).up le2)
              exact ⟨cleanL_set hcl hc.2.1, dx, _, _, upd_same, at_.put (nd k) hi (by omega), rs.set i r1'⟩
            · rw [if_neg hl] at q2
              by_cases hl2 : i = ds.length
              · rw [if_pos hl2] at q2
                refine q2 g2 σ _ (.refl g2) (s2.write (u := .ins k (ds ++ [y])) ha eS ?_) ((sl.up le1).up le2)
                exact ⟨cleanL_app hcl hc.2.1, dx, _, _, upd_same, at_.more (nd k) (by rw [lv, ← hl2]; exact hi), rs.app (RepL.cons r1' RepL.nil)⟩
              · rw [if_neg hl2] at q2
                exact q2.elim
        · rw [if_neg hc] at q2
          exact q2.elim
      | _ => exact q2.elim
  | _ => exact q2.elim

/-! ### methods -/
/-- which def a method's name means, by the class of the object: its number of parameters, its mirror -/
abbrev Tab := Nat → Option (Nat × MF)
def pick (tab : Tab) (S : Sto) (x : D) : Option (Nat × MF) := match insOf S x with
  | some (k, _) => tab k
  | none => none
def runT (n : Nat) (fm : MF) (x : D) (xs : List D) (S : Sto) : R D := if xs.length + 1 = n then fm (x :: xs) S else .bad
def mMeth (tab : Tab) (mo : ME) (ma : MA) : ME := fun δ S => (mo δ S).bind fun x S1 => match pick tab S1 x with
  | some (n, fm) => (ma δ S1).bind fun xs S2 => runT n fm x xs S2
  | none => .bad
theorem pick_at {tab : Tab} {S : Sto} {x : D} {n : Nat} {fm : MF} (h : pick tab S x = some (n, fm)) : ∃ k ds, insOf S x = some (k, ds) ∧ tab k = some (n, fm) := by
  unfold pick at h
  cases e : insOf S x with
  | none => rw [e] at h; cases h
  | some p =>
    obtain ⟨k, ds⟩ := p
    rw [e] at h
    exact ⟨k, ds, rfl, h⟩
structure MetM (P : Program) (w : World) (K : PySem.W.Frag) (mg : Str → Option Value) (base : Heap) (c : RC) (j k : Nat) (m : Str) (n : Nat) (fm : MF) : Prop where
  cl : Cls K (c.cl k)
  nm : m ∉ c.fl k
  ex : ∃ f fd ps, Meth K (c.cl k) m f ∧ FnG P w K mg base j f fd ps (spM c n fm) ∧ Binds K fd ps []
theorem ce_meth {tab : Tab} {pl : Sem Bool} (cf : Cf j X c) (tk : Takes X W) (ht : ∀ k n fm, tab k = some (n, fm) → MetM X.prog X.w X.K X.mg X.base c j k m n fm) (ho : CE X c W o mo) (ha : CA X c W (e :: es) ms)
    (hst : starEach (e :: es) X.env = (false, eval e X.env) :: starEach es X.env := by rfl) (hpl : (backTo pos (starEach es X.env)).any (·.1) = false := by rfl)
    (hev : eval (.Call (.Attribute o m apos) (e :: es) [] pos) X.env = (do
      let ov ← eval o X.env
      standAt apos.atName
      let (f, first) ← holding [ov] (getMethod ov m pl)
      callWith pos f first (backTo pos (starEach (e :: es) X.env)) (backToKw pos (keywordEach [] X.env))) := by rfl) :
    CE X c W (.Call (.Attribute o m apos) (e :: es) [] pos) (mMeth tab mo ms) := by
  refine ⟨fun pins s σ H Q I ⟨g, Z, δ, S, sm, sl, q⟩ => ?_⟩
  refine PySem.W.methodCall_KW (pl := pl) (thn (ho.run pins s σ H _ I ⟨g, Z, δ, S, sm, sl, Post.bind (Q := fun v H1 => ∃ g1 S1 x n fm, SimH c g1 S1 Z H1 ∧ Slots c g1 δ σ ∧ Rep c g1 x v ∧ pick tab S1 x = some (n, fm) ∧ Post c (Rep c) g1 Z ((ms δ S1).bind fun xs S2 => runT n fm x xs S2) Q fun cls d H' => W cls d σ H') q
    fun x S1 g1 v H1 _ le1 s1 r1 q1 => ?_⟩) fun u s1 hx => ?_) hev
  · cases ep : pick tab S1 x with
    | none => simp only [ep] at q1; exact q1.elim
    | some nf =>
      obtain ⟨n, fm⟩ := nf
      simp only [ep] at q1
      exact ⟨g1, S1, x, n, fm, s1, sl.up le1, r1, ep, q1⟩
  · obtain ⟨v, H1, I1, rv, g1, S1, x, n, fm, s1', sl1, r1, ep, q1⟩ := hx
    obtain ⟨k, ds, ei, et⟩ := pick_at ep
    have M := ht k n fm et
    obtain ⟨f, fd, ps, me, F, hb⟩ := M.ex
    obtain ⟨a, dx, fs, vs0, rfl, hH, at_, _⟩ := ins_at s1' r1 ei
    obtain rfl : u = Value.ref a := rv
    refine getmeth_ok I1 hH M.cl me (at_.no m M.nm) ?_
    refine PySem.W.callWith_K (first := [.ref a]) (h₀ := X.base) I.ok.mod.kin me.kp (thn (ha.run pos pins s1 σ H1 _ I1 ⟨g1, Z, δ, S1, s1', sl1, Post.bind (Q := fun vs H2 => spM c n fm (.ref a :: vs) H2 Q fun cls d H' => W cls d σ H') q1 fun xs S2 g2 vs H2 _ le2 s2 r2 q2 => ?_⟩) fun us s2 ⟨vs, H2, I2, r, q2⟩ => ⟨I2.kIn, ?_⟩) hst hpl
    · unfold runT at q2
      by_cases hn : xs.length + 1 = n
      · rw [if_pos hn] at q2
        exact spM_of s2 (RepL.cons (Rep.up le2 r1) r2) (by rw [List.length_cons]; exact hn) q2
      · rw [if_neg hn] at q2
        exact q2.elim
    · exact run_G (us := .ref a :: us) (vs := .ref a :: vs) (dvs := []) cf tk F hb .nil I2 (.cons rfl r) (by rw [List.append_nil]; exact q2)
/-- o.m() -/
theorem ce_meth0 {tab : Tab} {pl : Sem Bool} (cf : Cf j X c) (tk : Takes X W) (ht : ∀ k n fm, tab k = some (n, fm) → MetM X.prog X.w X.K X.mg X.base c j k m n fm) (ho : CE X c W o mo)
    (hev : eval (.Call (.Attribute o m apos) [] [] pos) X.env = (do
      let ov ← eval o X.env
      standAt apos.atName
      let (f, first) ← holding [ov] (getMethod ov m pl)
      callWith pos f first (backTo pos (starEach [] X.env)) (backToKw pos (keywordEach [] X.env))) := by rfl) :
    CE X c W (.Call (.Attribute o m apos) [] [] pos) (mMeth tab mo mNil) := by
  refine ⟨fun pins s σ H Q I ⟨g, Z, δ, S, sm, sl, q⟩ => ?_⟩
  refine PySem.W.methodCall_KW (pl := pl) (thn (ho.run pins s σ H _ I ⟨g, Z, δ, S, sm, sl, Post.bind (Q := fun v H1 => ∃ g1 S1 x n fm, SimH c g1 S1 Z H1 ∧ Rep c g1 x v ∧ pick tab S1 x = some (n, fm) ∧ Post c (Rep c) g1 Z (runT n fm x [] S1) Q fun cls d H' => W cls d σ H') q
    fun x S1 g1 v H1 _ le1 s1 r1 q1 => ?_⟩) fun u s1 hx => ?_) hev
  · cases ep : pick tab S1 x with
    | none => simp only [ep] at q1; exact q1.elim
    | some nf =>
      obtain ⟨n, fm⟩ := nf
      simp only [ep] at q1
      exact ⟨g1, S1, x, n, fm, s1, r1, ep, q1⟩
  · obtain ⟨v, H1, I1, rv, g1, S1, x, n, fm, s1', r1, ep, q1⟩ := hx
    obtain ⟨k, ds, ei, et⟩ := pick_at ep
    have M := ht k n fm et
    obtain ⟨f, fd, ps, me, F, hb⟩ := M.ex
    obtain ⟨a, dx, fs, vs0, rfl, hH, at_, _⟩ := ins_at s1' r1 ei
    obtain rfl : u = Value.ref a := rv
    refine getmeth_ok I1 hH M.cl me (at_.no m M.nm) ?_
    refine PySem.W.callWith_K0 (first := [.ref a]) I1.kIn me.kp (run_G (us := [.ref a]) (vs := [.ref a]) (dvs := []) cf tk F hb .nil I1 (.cons rfl .nil) ?_)
    unfold runT at q1
    by_cases hn : ([] : List D).length + 1 = n
    · rw [if_pos hn] at q1
      exact spM_of s1' (RepL.cons r1 RepL.nil) hn q1
    · rw [if_neg hn] at q1
      exact q1.elim

/-! ### a op b, by an own method -/
structure OpM (P : Program) (w : World) (K : PySem.W.Frag) (mg : Str → Option Value) (base : Heap) (c : RC) (j k : Nat) (op : Operator) (fm : MF) : Prop where
  first : PySem.W.selfFirst K (c.cl k) = true
  ex : ∃ f fd ps, PySem.W.findIn K (.ref (c.cl k)) (PySem.dunder op.info.2) = some (some (.ref f)) ∧ PySem.W.isFn K (.ref f) = true ∧ FnG P w K mg base j f fd ps (spM c 2 fm) ∧ Binds K fd ps []
def fOwn (tab : Nat → Option MF) (x y : D) (S : Sto) : R D := match insOf S x, insOf S y with
  | some (k, _), some (k', _) => if k = k' then (match tab k with
    | some fm => fm [x, y] S
    | none => .bad) else .bad
  | _, _ => .bad
theorem back_of {pins : List (Addr × Obj)} {σ : L2.St} {u : Value} {s : Shared} {Q : VK} (h : EP X pins σ Q u s) : PySem.W.CmpBack (EP X pins σ Q) u s := by
  obtain ⟨v, H, I, r, q⟩ := h
  cases u with
  | notImplemented => cases v <;> (first | (obtain ⟨_, z⟩ := r; cases z; done) | (cases r; done) | exact r.elim)
  | _ => exact ⟨v, H, I, r, q⟩
theorem ce_own {tab : Nat → Option MF} {op : Operator} (cf : Cf j X c) (tk : Takes X W) (ht : ∀ k fm, tab k = some fm → OpM X.prog X.w X.K X.mg X.base c j k op fm) (ha : CE X c W e ma) (hb : CE X c W o mb) : CE X c W (.BinOp e op o pos) (mBin (fOwn tab) ma mb) := by
  refine ⟨fun pins s σ H Q I ⟨g, Z, δ, S, sm, sl, q⟩ => ?_⟩
  refine wpAny_BinOp (binT ha hb (R := fun x y H2 => ∃ g2 S2 dx dy, SimH c g2 S2 Z H2 ∧ Rep c g2 dx x ∧ Rep c g2 dy y ∧ Post c (Rep c) g2 Z (fOwn tab dx dy S2) Q fun cls d H' => W cls d σ H') I
    ⟨g, Z, δ, S, sm, sl, Post.bind q fun dx S1 g1 v H1 _ le1 s1 r1 q1 => ⟨g1, Z, δ, S1, s1, sl.up le1, Post.bind q1 fun dy S2 g2 w H2 _ le2 s2 r2 q2 => ⟨g2, S2, dx, dy, s2, Rep.up le2 r1, r2, q2⟩⟩⟩ fun v u s2 x y H2 I2 rx ry h => ?_)
  obtain ⟨g2, S2, dx, dy, sm2, r1, r2, q2⟩ := h
  unfold fOwn at q2
  cases e1 : insOf S2 dx with
  | none => rw [e1] at q2; exact q2.elim
  | some kd =>
    obtain ⟨k, ds⟩ := kd
    cases e2 : insOf S2 dy with
    | none => rw [e1, e2] at q2; exact q2.elim
    | some kd' =>
      obtain ⟨k', ds'⟩ := kd'
      rw [e1, e2] at q2
      simp only at q2
      by_cases hk : k = k'
      · subst hk
        rw [if_pos rfl] at q2
        cases et : tab k with
        | none => rw [et] at q2; exact q2.elim
        | some fm =>
          rw [et] at q2
          obtain ⟨f, fd, ps, hs, hf, F, hb⟩ := (ht k fm et).ex
          obtain ⟨a, ax, fs, vs, rfl, hH, _, _⟩ := ins_at sm2 r1 e1
          obtain ⟨b, bx, fs', vs', rfl, hH', _, _⟩ := ins_at sm2 r2 e2
          obtain rfl : v = Value.ref a := rx
          obtain rfl : u = Value.ref b := ry
          obtain ⟨m, fr⟩ := I2.fr
          obtain ⟨mA, OA, _⟩ := ins_get I2.hok hH
          obtain ⟨mB, OB, _⟩ := ins_get I2.hok hH'
          obtain ⟨oda, JA, _⟩ := OA.look
          obtain ⟨odb, JB, _⟩ := OB.look
          refine PySem.W.binop_K fr I2.ok.mod.kin JA JB.type (ht k fm et).first hs hf ?_
          refine wpAny_mono (run_G (us := [.ref a, .ref b]) (vs := [.ref a, .ref b]) (dvs := []) cf tk F hb .nil I2 (.cons rfl (.cons rfl .nil)) (spM_of sm2 (RepL.cons r1 (RepL.cons r2 RepL.nil)) rfl q2)) (fun u' s' h' => back_of h') fun _ _ h' => h'
      · rw [if_neg hk] at q2
        exact q2.elim
end
end DL

end
section
/-! DL, part n: all, sorted, list, tuple, join, chained comparisons. -/
namespace DL
open PySem PySem.Spec PyProof.Rows L2

def blsOf : List D → Option (List Bool)
  | [] => some []
  | .bl b :: r => (blsOf r).map (b :: ·)
  | _ => none
def strsOf : List D → Option (List Str)
  | [] => some []
  | .str b :: r => (strsOf r).map (b :: ·)
  | _ => none
section
variable {c : RC} {g : Wd}
theorem bls_ok : ∀ {ds : List D} {bs : List Bool} {vs : List V}, blsOf ds = some bs → RepL c g ds vs → vs = bs.map V.bl
  | [], _, vs, e, r => by cases e; rw [r.nil_inv]; rfl
  | d :: ds, bs, vs, e, r => by
    obtain ⟨v, r', rfl, r1, r2⟩ := r.cons_inv
    cases d with
    | bl b =>
      obtain ⟨bs', e', rfl⟩ := Option.map_eq_some_iff.mp e
      rw [r1.bl_inv, bls_ok e' r2]
      rfl
    | _ => cases e
theorem strs_ok : ∀ {ds : List D} {bs : List Str} {vs : List V}, strsOf ds = some bs → RepL c g ds vs → vs = bs.map V.str
  | [], _, vs, e, r => by cases e; rw [r.nil_inv]; rfl
  | d :: ds, bs, vs, e, r => by
    obtain ⟨v, r', rfl, r1, r2⟩ := r.cons_inv
    cases d with
    | str b =>
      obtain ⟨bs', e', rfl⟩ := Option.map_eq_some_iff.mp e
      rw [r1.str_inv, strs_ok e' r2]
      rfl
    | _ => cases e
theorem strs_rep : ∀ (ss : List Str), RepL c g (ss.map D.str) (ss.map V.str)
  | [] => RepL.nil
  | s :: r => RepL.cons Rep.str (strs_rep r)
end
theorem strsOf_map : ∀ ss : List Str, strsOf (ss.map D.str) = some ss
  | [] => rfl
  | s :: r => by
    rw [List.map_cons]
    unfold strsOf
    rw [strsOf_map r]
    rfl
theorem blsOf_map : ∀ ss : List Bool, blsOf (ss.map D.bl) = some ss
  | [] => rfl
  | s :: r => by
    rw [List.map_cons]
    unfold blsOf
    rw [blsOf_map r]
    rfl

/-! all -/
def fAll (xs : List D) (S : Sto) : R D := match xs with
  | [x] => (match x.seq S with
    | some ys => (match blsOf ys with
      | some bs => .ok (.bl (bs.all id)) S
      | none => .bad)
    | none => .bad)
  | _ => .bad
theorem cl_all {c : RC} : ClD c (rAll c.K) fAll := by
  intro g Z S H xs vs Q E s r q
  unfold fAll at q
  split at q
  · rename_i x
    obtain ⟨v, rfl, r1⟩ := vals_one r
    cases e1 : x.seq S with
    | none => rw [e1] at q; exact q.elim
    | some ys =>
      rw [e1] at q
      simp only at q
      cases e2 : blsOf ys with
      | none => rw [e2] at q; exact q.elim
      | some bs =>
        rw [e2] at q
        obtain ⟨a, ws, rfl, hs, rs⟩ := seq_ok s r1 e1
        rw [bls_ok e2 rs] at hs
        exact ⟨a, bs, rfl, hs, q g _ H (.refl g) s Rep.bl⟩
  · exact q.elim
theorem cr_allD {X : Cx} {c : RC} {k : Nat} (cf : Cf k X c) : CallR X (.builtin "all") (rAll c.K) := by
  rw [cf.kk]
  exact cr_all cf.calm

/-! sorted -/
theorem cps_trans : ∀ a b d : List Nat, ltCps b a = false → ltCps d b = false → ltCps d a = false
  | [], b, d, h1, h2 => by
    cases b with
    | nil => exact h2
    | cons x r =>
      cases d with
      | nil => rfl
      | cons y t => rfl
  | x :: r, [], d, h1, h2 => by cases h1
  | x :: r, y :: t, [], h1, h2 => by cases h2
  | x :: r, y :: t, z :: u, h1, h2 => by
    have ih := cps_trans r t u
    simp only [ltCps, Bool.or_eq_false_iff, Bool.and_eq_false_iff, decide_eq_false_iff_not, beq_eq_false_iff_ne] at h1 h2 ⊢
    refine ⟨by omega, ?_⟩
    by_cases hz : z = x
    · right
      have e1 : y = x := by omega
      have e2 : z = y := by omega
      refine ih ?_ ?_
      · rcases h1.2 with q | q
        · exact absurd e1 q
        · exact q
      · rcases h2.2 with q | q
        · exact absurd e2 q
        · exact q
    · exact .inl hz
theorem cps_anti : ∀ a b : List Nat, ltCps b a = false → ltCps a b = false → a = b
  | [], [], _, _ => rfl
  | [], y :: t, _, h => by cases h
  | x :: r, [], h, _ => by cases h
  | x :: r, y :: t, h1, h2 => by
    simp only [ltCps, Bool.or_eq_false_iff, Bool.and_eq_false_iff, decide_eq_false_iff_not, beq_eq_false_iff_ne] at h1 h2
    have e : x = y := by omega
    subst e
    have h3 : ltCps t r = false := by
      rcases h1.2 with q | q
      · exact absurd rfl q
      · exact q
    have h4 : ltCps r t = false := by
      rcases h2.2 with q | q
      · exact absurd rfl q
      · exact q
    rw [cps_anti r t h3 h4]
theorem cps_asym : ∀ a b : List Nat, ltCps a b = true → ltCps b a = false
  | [], [], h => by cases h
  | [], y :: t, _ => rfl
  | x :: r, [], h => by cases h
  | x :: r, y :: t, h => by
    simp only [ltCps, Bool.or_eq_true, Bool.and_eq_true, decide_eq_true_eq, beq_iff_eq] at h
    simp only [ltCps, Bool.or_eq_false_iff, Bool.and_eq_false_iff, decide_eq_false_iff_not, beq_eq_false_iff_ne]
    rcases h with h | ⟨h, h2⟩
    · exact ⟨by omega, .inl (by omega)⟩
    · exact ⟨by omega, .inr (cps_asym r t h2)⟩
/-- a comes not behind b -/
abbrev LeS (a b : Str) : Prop := ltCps b.cps.toList a.cps.toList = false
theorem LeS.anti {a b : Str} (h : LeS a b) (k : LeS b a) : a = b := by
  have e := cps_anti _ _ h k
  obtain ⟨⟨x⟩⟩ := a
  obtain ⟨⟨y⟩⟩ := b
  simp at e
  rw [e]
def insS (x : Str) : List Str → List Str
  | [] => [x]
  | y :: r => if ltCps y.cps.toList x.cps.toList = true then y :: insS x r else x :: y :: r
def sortS : List Str → List Str
  | [] => []
  | x :: r => insS x (sortS r)
theorem insS_perm (x : Str) : ∀ l : List Str, (insS x l).Perm (x :: l)
  | [] => List.Perm.refl _
  | y :: r => by
    unfold insS
    split
    · exact ((insS_perm x r).cons y).trans (List.Perm.swap x y r)
    · exact List.Perm.refl _
theorem sortS_perm : ∀ l : List Str, (sortS l).Perm l
  | [] => List.Perm.refl _
  | x :: r => (insS_perm x (sortS r)).trans ((sortS_perm r).cons x)
theorem insS_rises (x : Str) : ∀ l : List Str, l.Pairwise LeS → (insS x l).Pairwise LeS
  | [], _ => by simp [insS]
  | y :: r, h => by
    unfold insS
    rw [List.pairwise_cons] at h
    split
    · rename_i hlt
      rw [List.pairwise_cons]
      refine ⟨fun z hz => ?_, insS_rises x r h.2⟩
      rcases List.mem_cons.mp ((insS_perm x r).mem_iff.mp hz) with rfl | hz
      · exact cps_asym _ _ hlt
      · exact h.1 z hz
    · rename_i hlt
      have hyx : LeS x y := by simpa using hlt
      rw [List.pairwise_cons]
      refine ⟨fun z hz => ?_, List.pairwise_cons.mpr h⟩
      rcases List.mem_cons.mp hz with rfl | hz
      · exact hyx
      · exact cps_trans _ _ _ hyx (h.1 z hz)
theorem sortS_rises : ∀ l : List Str, (sortS l).Pairwise LeS
  | [] => List.Pairwise.nil
  | x :: r => insS_rises x _ (sortS_rises r)
theorem rises_of : ∀ (p : Str) (l : List Str), risingS p l = true → (p :: l).Pairwise LeS
  | p, [], _ => by simp
  | p, x :: r, h => by
    unfold risingS at h
    rw [Bool.and_eq_true, Bool.not_eq_true'] at h
    have ih := rises_of x r h.2
    rw [List.pairwise_cons]
    refine ⟨fun z hz => ?_, ih⟩
    rcases List.mem_cons.mp hz with rfl | hz
    · exact h.1
    · exact cps_trans _ _ _ h.1 ((List.pairwise_cons.mp ih).1 z hz)
theorem sorted_uniq {xs ys : List Str} (hp : ys.Perm xs) (hs : sortedS ys = true) : ys = sortS xs := by
  have h1 : ys.Pairwise LeS := by
    cases ys with
    | nil => exact List.Pairwise.nil
    | cons p l => exact rises_of p l hs
  exact List.Perm.eq_of_pairwise (fun _ _ _ _ a b => LeS.anti a b) h1 (sortS_rises xs) (hp.trans (sortS_perm xs).symm)
def fSorted (xs : List D) (S : Sto) : R D := match xs with
  | [x] => (match x.seq S with
    | some ys => (match strsOf ys with
      | some ss => if ss.length < 64 then .ok (.lst ((sortS ss).map D.str)) S else .bad
      | none => .bad)
    | none => .bad)
  | _ => .bad
theorem cl_sorted {c : RC} : ClD c (rSortedS c.K) fSorted := by
  intro g Z S H xs vs Q E s r q
  unfold fSorted at q
  split at q
  · rename_i x
    obtain ⟨v, rfl, r1⟩ := vals_one r
    cases e1 : x.seq S with
    | none => rw [e1] at q; exact q.elim
    | some ys =>
      rw [e1] at q
      simp only at q
      cases e2 : strsOf ys with
      | none => rw [e2] at q; exact q.elim
      | some ss =>
        rw [e2] at q
        simp only at q
        by_cases hl : ss.length < 64
        · rw [if_pos hl] at q
          obtain ⟨a, ws, rfl, hs, rs⟩ := seq_ok s r1 e1
          rw [strs_ok e2 rs] at hs
          refine ⟨a, ss, rfl, hs, hl, fun zs p hp hz hn => ?_⟩
          rw [sorted_uniq hp hz]
          exact lst_new s (strs_rep _) hn q
        · rw [if_neg hl] at q
          exact q.elim
  · exact q.elim
theorem cr_sortedD {X : Cx} {c : RC} {k : Nat} (cf : Cf k X c) : CallR X (.builtin "sorted") (rSortedS c.K) := by
  rw [cf.kk]
  exact cr_sortedS

/-! list, tuple -/
def fListT (xs : List D) (S : Sto) : R D := match xs with
  | [x] => (match x.sq S with
    | some ys => .ok (.lst ys) S
    | none => .bad)
  | _ => .bad
def fListC (xs : List D) (S : Sto) : R D := match xs with
  | [x] => (match x.sq S with
    | some ys => if D.cleanL ys = true then .ok (.loc S.length) (S ++ [.lst ys]) else .bad
    | none => .bad)
  | _ => .bad
def fTuple (xs : List D) (S : Sto) : R D := match xs with
  | [.tup ys] => .ok (.tup ys) S
  | [x] => (match x.seq S with
    | some ys => .ok (.tup ys) S
    | none => .bad)
  | _ => .bad
abbrev rLst (K : PySem.W.Frag) : List V → Hp → VK → Prop := fun xs H Q => ∃ p ys, xs = [.ref p] ∧ (SqL K H p ys ∨ SqT K H p ys) ∧ ∀ l, H l = none → Q (.ref l) (upd H l (.lst ys))
abbrev rTpl (K : PySem.W.Frag) : List V → Hp → VK → Prop := fun xs H Q => ∃ p ys, xs = [.ref p] ∧ ((SqL K H p ys ∧ ∀ l, H l = none → Q (.ref l) (upd H l (.tup ys))) ∨ (SqT K H p ys ∧ Q (.ref p) H))
theorem cr_listD {X : Cx} {c : RC} {k : Nat} (cf : Cf k X c) : CallR X (.type "list") (rLst c.K) := by
  rw [cf.kk]
  exact call_list_of
theorem cr_tupleD {X : Cx} {c : RC} {k : Nat} (cf : Cf k X c) : CallR X (.type "tuple") (rTpl c.K) := by
  rw [cf.kk]
  exact call_tuple_of
theorem cl_listT {c : RC} : ClD c (rLst c.K) fListT := by
  intro g Z S H xs vs Q E s r q
  unfold fListT at q
  split at q
  · rename_i x
    obtain ⟨v, rfl, r1⟩ := vals_one r
    cases e1 : x.sq S with
    | none => rw [e1] at q; exact q.elim
    | some ys =>
      rw [e1] at q
      obtain ⟨a, ws, rfl, hs, rs⟩ := sq_ok s r1 e1
      exact ⟨a, ws, rfl, hs, fun l hl => lst_new s rs hl q⟩
  · exact q.elim
theorem cl_listC {c : RC} : ClD c (rLst c.K) fListC := by
  intro g Z S H xs vs Q E s r q
  unfold fListC at q
  split at q
  · rename_i x
    obtain ⟨v, rfl, r1⟩ := vals_one r
    cases e1 : x.sq S with
    | none => rw [e1] at q; exact q.elim
    | some ys =>
      rw [e1] at q
      simp only at q
      by_cases hc : D.cleanL ys = true
      · rw [if_pos hc] at q
        obtain ⟨a, ws, rfl, hs, rs⟩ := sq_ok s r1 e1
        exact ⟨a, ws, rfl, hs, fun l hl => lst_newC s rs hc hl q⟩
      · rw [if_neg hc] at q
        exact q.elim
  · exact q.elim
theorem cl_tuple {c : RC} : ClD c (rTpl c.K) fTuple := by
  intro g Z S H xs vs Q E s r q
  unfold fTuple at q
  split at q
  · rename_i ys
    obtain ⟨v, rfl, r1⟩ := vals_one r
    obtain ⟨a, ws, rfl, hs, rs⟩ := tup_ok s r1
    exact ⟨a, ws, rfl, .inr ⟨hs, q g _ H (.refl g) s r1⟩⟩
  · rename_i x _
    obtain ⟨v, rfl, r1⟩ := vals_one r
    cases e1 : x.seq S with
    | none => rw [e1] at q; exact q.elim
    | some ys =>
      rw [e1] at q
      obtain ⟨a, ws, rfl, hs, rs⟩ := seq_ok s r1 e1
      exact ⟨a, ws, rfl, .inl ⟨hs, fun l hl => tup_new s rs hl q⟩⟩
  · exact q.elim

section
variable {X : Cx} {c : RC} {W : WX} {j : Nat} {pos apos : Pos} {a b d e o : Expr} {ma mb md me mo : ME}
/-! ''.join(xs) -/
def fJoin (x y : D) (S : Sto) : R D := match x with
  | .str z => (match y.sq S with
    | some ys => (match strsOf ys with
      | some ss => if (ss.map (·.length)).sum + ss.length * z.length ≤ 16777216 then .ok (.str (Txt.join z ss)) S else .bad
      | none => .bad)
    | none => .bad)
  | _ => .bad
def isStr (d : D) (_ : Sto) : Bool := match d with
  | .str _ => true
  | _ => false
theorem ce_join (cf : Cf j X c) (ho : CE X c W o mo) (he : CE X c W e me) (hs : starEach [e] X.env = [(false, eval e X.env)] := by rfl) (hbase : attributeBase o "join" X.env (eval o X.env) = eval o X.env := by rfl) (hline : (apos.endLine == pos.line) = true := by rfl) :
    CE X c W (.Call (.Attribute o "join" apos) [e] [] pos) (mMeth1 isStr fJoin mo me) := by
  refine weakE (pe_join ho he hs hbase hline) fun σ H Q ⟨g, Z, δ, S, sm, sl, q⟩ => ⟨g, Z, δ, S, sm, sl, Post.bind q fun x S1 g1 v H1 _ le1 s1 r1 q1 => ?_⟩
  cases x with
  | str z =>
    simp only [isStr, if_true] at q1
    refine ⟨⟨z, r1.str_inv⟩, g1, Z, δ, S1, s1, sl.up le1, Post.bind q1 fun y S2 g2 w H2 _ le2 s2 r2 q2 => ?_⟩
    unfold fJoin at q2
    simp only at q2
    cases e1 : y.sq S2 with
    | none => rw [e1] at q2; exact q2.elim
    | some ys =>
      rw [e1] at q2
      simp only at q2
      cases e2 : strsOf ys with
      | none => rw [e2] at q2; exact q2.elim
      | some ss =>
        rw [e2] at q2
        simp only at q2
        by_cases hl : (ss.map (·.length)).sum + ss.length * z.length ≤ 16777216
        · rw [if_pos hl] at q2
          obtain ⟨p, ws, rfl, hq, rs⟩ := sq_ok s2 r2 e1
          rw [strs_ok e2 rs, cf.kk] at hq
          exact ⟨z, p, ss, r1.str_inv, rfl, hq, hl, q2 g2 _ H2 (.refl g2) s2 Rep.str⟩
        · rw [if_neg hl] at q2
          exact q2.elim
  | _ => exact (by simp only [isStr, Bool.false_eq_true, if_false] at q1; exact q1.elim)

/-! a op b op d -/
def mChain (f f' : D → D → Sto → R D) (ma mb md : ME) : ME := fun δ S => (ma δ S).bind fun x S1 => (mb δ S1).bind fun y S2 => (f x y S2).bind fun z S3 => match z with
  | .bl true => (md δ S3).bind fun w S4 => f' y w S4
  | .bl false => .ok (.bl false) S3
  | _ => .bad
/-- an operation that is a value of two values and leaves the store -/
def PureF (f : D → D → Sto → R D) : Prop := ∀ x y S, (∃ d, f x y S = .ok d S) ∨ f x y S = .bad
theorem chain_ok {r r' : R2} {f f' : D → D → Sto → R D} (hf : OpD c r f) (hf' : OpD c r' f') (hp : PureF f) {σ : L2.St} {H : Hp} {Q : VK} (h : eM c W (mChain f f' ma mb md) σ H Q) : tChain r r' (eM c W ma) (eM c W mb) (eM c W md) σ H Q := by
  obtain ⟨g, Z, δ, S, sm, sl, q⟩ := h
  refine ⟨g, Z, δ, S, sm, sl, Post.bind q fun x S1 g1 v H1 _ le1 s1 r1 q1 => ⟨g1, Z, δ, S1, s1, sl.up le1, Post.bind q1 fun y S2 g2 w H2 _ le2 s2 r2 q2 => ?_⟩⟩
  rcases hp x y S2 with ⟨z, ez⟩ | ez
  · refine hf g2 Z S2 H2 x y v w _ (fun k d H' => W k d σ H') s2 (Rep.up le2 r1) r2 ?_
    rw [ez] at q2 ⊢
    intro g3 u H3 le3 s3 r3
    have q3 := Post.up le3 q2
    simp only [R.bind_ok] at q3
    cases z with
    | bl k =>
      refine ⟨k, r3.bl_inv, ?_⟩
      cases k with
      | true =>
        simp only [if_true]
        exact ⟨g3, Z, δ, S2, s3, ((sl.up le1).up le2).up le3, Post.bind q3 fun t S4 g4 u4 H4 _ le4 s4 r4 q4 => hf' g4 Z S4 H4 y t w u4 Q _ s4 (Rep.up (le3.trans le4) r2) r4 q4⟩
      | false =>
        simp only [Bool.false_eq_true, if_false]
        exact q3 g3 _ H3 (.refl g3) s3 Rep.bl
    | _ => exact q3.elim
  · rw [ez] at q2
    exact q2.elim
theorem ce_chain {op op' : CmpOp} {r r' : R2} {f f' : D → D → Sto → R D} (ho : OpR X (compareOp op) r) (hf : OpD c r f) (hp : PureF f) (ho' : OpR X (compareOp op') r') (hf' : OpD c r' f') (ha : CE X c W a ma) (hb : CE X c W b mb) (hd : CE X c W d md)
    (hm : lastMarks [op, op'] [b, d] = false := by with_unfolding_all rfl) : CE X c W (.Compare a [op, op'] [b, d] pos) (mChain f f' ma mb md) := weakE (pe_chain ho ho' ha hb hd hm) fun σ H Q h => chain_ok hf hf' hp h
theorem ct_chain {op op' : CmpOp} {r r' : R2} {f f' : D → D → Sto → R D} (ho : OpR X (compareOp op) r) (hf : OpD c r f) (hp : PureF f) (ho' : OpR X (compareOp op') r') (hf' : OpD c r' f') (ha : CE X c W a ma) (hb : CE X c W b mb) (hd : CE X c W d md)
    (hm : lastMarks [op, op'] [b, d] = false := by with_unfolding_all rfl) : CT X c W (.Compare a [op, op'] [b, d] pos) (mTest (mChain f f' ma mb md)) := weakT (pt_chain ho ho' ha hb hd hm) fun σ H Q h => test_of (fun _ _ _ h => chain_ok hf hf' hp h) h
theorem pure_le : PureF fLe := fun x y S => by
  unfold fLe
  split
  · exact .inl ⟨_, rfl⟩
  · exact .inl ⟨_, rfl⟩
  · exact .inr rfl
theorem pure_lt : PureF fLt := fun x y S => by
  unfold fLt
  split
  · exact .inl ⟨_, rfl⟩
  · exact .inr rfl
end
end DL

end
section
/-! DL, part o: instances made by keywords; calls by keywords. -/
namespace DL
open PySem PySem.Spec PyProof.Rows L2

/-- arguments by places: of what is written (positional first, then the keywords), of what the def brings -/
def sel {α : Type} (codes : List (Nat ⊕ Nat)) (more ds : List α) : List α := codes.filterMap fun c => match c with
  | .inl i => ds[i]?
  | .inr i => more[i]?
def gC {α : Type} (codes : List (Nat ⊕ Nat)) (us mv ws : List α) : List α := match us with
  | y :: r => y :: sel codes mv (r ++ ws)
  | [] => []
theorem vals_at {vs : List V} {us : List Value} (h : Vals vs us) : ∀ i : Nat, (vs[i]? = none ∧ us[i]? = none) ∨ ∃ v u, vs[i]? = some v ∧ us[i]? = some u ∧ RelV v u := by
  induction h with
  | nil => exact fun i => .inl ⟨by simp, by simp⟩
  | cons a b ih =>
    intro i
    cases i with
    | zero => exact .inr ⟨_, _, rfl, rfl, a⟩
    | succ i => simpa using ih i
theorem sel_cons {α : Type} {c : Nat ⊕ Nat} {codes : List (Nat ⊕ Nat)} {more ds : List α} : sel (c :: codes) more ds = match (match c with | .inl i => ds[i]? | .inr i => more[i]?) with
    | some y => y :: sel codes more ds
    | none => sel codes more ds := by
  unfold sel
  rw [List.filterMap_cons]
  cases c with
  | inl i => cases h : ds[i]? <;> simp [h]
  | inr i => cases h : more[i]? <;> simp [h]
theorem vals_sel {vs mz : List V} {us mv : List Value} (h : Vals vs us) (k : Vals mz mv) : ∀ codes, Vals (sel codes mz vs) (sel codes mv us)
  | [] => .nil
  | c :: codes => by
    have ih := vals_sel h k codes
    rw [sel_cons, sel_cons]
    cases c with
    | inl i =>
      rcases vals_at h i with ⟨e1, e2⟩ | ⟨v, u, e1, e2, r⟩
      · simp only [e1, e2]
        exact ih
      · simp only [e1, e2]
        exact .cons r ih
    | inr i =>
      rcases vals_at k i with ⟨e1, e2⟩ | ⟨v, u, e1, e2, r⟩
      · simp only [e1, e2]
        exact ih
      · simp only [e1, e2]
        exact .cons r ih
theorem vals_gC {codes : List (Nat ⊕ Nat)} {vs mz zs : List V} {us mv ws : List Value} (h : Vals vs us) (k : Vals mz mv) (z : Vals zs ws) : Vals (gC codes vs mz zs) (gC codes us mv ws) := by
  cases h with
  | nil => exact .nil
  | cons a b => exact .cons a (vals_sel (Vals.append b z) k codes)
section
variable {c : RC} {g : Wd}
theorem rep_at {ds : List D} {vs : List V} (h : RepL c g ds vs) : ∀ i : Nat, (ds[i]? = none ∧ vs[i]? = none) ∨ ∃ d v, ds[i]? = some d ∧ vs[i]? = some v ∧ Rep c g d v := fun i => by
  by_cases hi : i < ds.length
  · obtain ⟨v, e, r⟩ := h.get (i := i) (d := ds[i]) (by simp [hi])
    exact .inr ⟨_, _, by simp [hi], e, r⟩
  · exact .inl ⟨by simp; omega, by have := h.length; simp; omega⟩
theorem rep_sel {ds more : List D} {vs mz : List V} (h : RepL c g ds vs) (k : RepL c g more mz) : ∀ codes, RepL c g (sel codes more ds) (sel codes mz vs)
  | [] => RepL.nil
  | co :: codes => by
    have ih := rep_sel h k codes
    rw [sel_cons, sel_cons]
    cases co with
    | inl i =>
      rcases rep_at h i with ⟨e1, e2⟩ | ⟨d, v, e1, e2, r⟩
      · simp only [e1, e2]
        exact ih
      · simp only [e1, e2]
        exact RepL.cons r ih
    | inr i =>
      rcases rep_at k i with ⟨e1, e2⟩ | ⟨d, v, e1, e2, r⟩
      · simp only [e1, e2]
        exact ih
      · simp only [e1, e2]
        exact RepL.cons r ih
end
/-- what a call by keywords of an __init__ needs -/
abbrev KwB (K : PySem.W.Frag) (fd : FuncData) (ps : List Str) (n : Nat) (ks : List Str) (codes : List (Nat ⊕ Nat)) (mz : List V) (mv : List Value) : Prop := KBn K fd ps n ks (fun us ws => gC codes us mv ws) (fun vs zs => gC codes vs mz zs)
def mMkK (k n na nk : Nat) (codes : List (Nat ⊕ Nat)) (more : List D) (fm : MF) (ms mk : MA) : ME := fun δ S => (ms δ S).bind fun xs S1 => if xs.length = na then (mk δ S1).bind fun zs S2 => if zs.length = nk then fMk k n fm (sel codes more (xs ++ zs)) S2 else .bad else .bad
section
variable {X : Cx} {c : RC} {W : WX} {j k n na : Nat} {f : Addr} {fd : FuncData} {ps ks : List Str} {fm : MF} {x : Str} {p pos kpos : Pos} {e : Expr} {es : List Expr} {kws : List Keyword} {nm : Option Str} {ms mk : MA} {me : ME} {codes : List (Nat ⊕ Nat)} {more : List D} {mz : List V} {mv : List Value}
abbrev CK (X : Cx) (c : RC) (W : WX) (kws : List Keyword) (m : MA) : Prop := PK X kws (aM c W m)
theorem weakK {t t' : TA} (h : PK X kws t) (k : ∀ σ H Q, t' σ H Q → t σ H Q) : PK X kws t' := ⟨fun pos pins s σ H Q I q => h.run pos pins s σ H Q I (k _ _ _ q)⟩
theorem ck_nil : CK X c W [] mNil := weakK pk_nil fun σ H Q ⟨g, Z, δ, S, s, sl, q⟩ => q g [] H (.refl g) s RepL.nil
theorem ck_cons (ha : CE X c W e me) (hr : CK X c W kws ms) : CK X c W (⟨nm, e, kpos⟩ :: kws) (mCons me ms) :=
  weakK (pk_cons ha hr) fun σ H Q ⟨g, Z, δ, S, s, sl, q⟩ => ⟨g, Z, δ, S, s, sl, Post.bind q fun x S1 g1 v H1 _ le1 s1 r1 q1 => ⟨g1, Z, δ, S1, s1, sl.up le1, Post.bind q1 fun xs S2 g2 vs H2 _ le2 s2 r2 q2 =>
    q2 g2 _ H2 (.refl g2) s2 (RepL.cons (Rep.up le2 r1) r2)⟩⟩
theorem mkK_end {pins : List (Addr × Obj)} {σ : L2.St} {H : Hp} {s : Shared} {Q : VK} {g : Wd} {Z : Hp} {S : Sto} {xs zs : List D} {vs vz : List V} {us ws : List Value} (cf : Cf (j + 1) X c) (tk : Takes X W) (M : Mk X.K (c.cl k) f) (F : FnG X.prog X.w X.K X.mg X.base j f fd ps (spM c n fm)) (hb : KwB X.K fd ps (na + 1) ks codes mz mv)
    (hmore : ∀ g, RepL c g more mz) (I : Inv X pins σ H s) (sm : SimH c g S Z H) (r : RepL c g xs vs) (rz : RepL c g zs vz) (ru : Vals vs us) (rw' : Vals vz ws) (l1 : xs.length = na) (l2 : zs.length = ks.length)
    (q : Post c (Rep c) g Z (fMk k n fm (sel codes more (xs ++ zs)) S) Q fun cls d H' => W cls d σ H') : wpAny (model X.prog X.w) X.A (call (.ref (c.cl k)) us (ks.zip ws)) (EP X pins σ Q) X.xe s := by
  have n1 : us.length = na := by rw [← Paired.length ru, r.length, l1]
  have n2 : ws.length = ks.length := by rw [← Paired.length rw', rz.length, l2]
  refine run_mk (as := fun y => y :: sel codes mv (us ++ ws)) (bs := fun y => y :: sel codes mz (vs ++ vz)) cf tk M F I (fun s y hK => ?_) (fun a => hb.rel (vs := .ref a :: vs) (us := .ref a :: us) (Paired.cons (show RelV (V.ref a) (Value.ref a) from rfl) ru) rw') fun y dx h1 h2 h3 => ?_
  · exact hb.to s (y :: us) ws hK (by rw [List.length_cons, n1]) n2
  · exact mk_sp sm (rep_sel (r.app rz) (hmore g) codes) q y dx h1 h2 h3
/-- C(e, .., k = v, ..) -/
theorem ce_mkK (cf : Cf (j + 1) X c) (tk : Takes X W) (M : Mk X.K (c.cl k) f) (F : FnG X.prog X.w X.K X.mg X.base j f fd ps (spM c n fm)) (hb : KwB X.K fd ps (na + 1) ks codes mz mv) (hmore : ∀ g, RepL c g more mz) (hm : X.mg x = some (.ref (c.cl k)))
    (ha : CA X c W (e :: es) ms) (hkw : CK X c W kws mk) (hg : Gl X x := by rfl) (hall : (backToKw pos (keywordEach kws X.env)).all (·.1.isSome) = true := by rfl) (hks : (backToKw pos (keywordEach kws X.env)).filterMap (·.1) = ks := by rfl) (hdb : (x == ("__debug__" : Str)) = false := by decide)
    (he : starEach (e :: es) X.env = (false, eval e X.env) :: starEach es X.env := by rfl) (hpl : ((backTo pos (starEach (e :: es) X.env)).any (·.1) || (backToKw pos (keywordEach kws X.env)).any (·.1.isNone)) = false := by rfl) :
    CE X c W (.Call (.Name x p) (e :: es) kws pos) (mMkK k n na ks.length codes more fm ms mk) := by
  refine ⟨fun pins s σ H Q I ⟨g, Z, δ, S, sm, sl, q⟩ => ?_⟩
  refine wpAny_Call_Name_kw (ld_glob I hg hm ?_ hdb)
  refine PySem.W.callWith_KW (h₀ := X.base) I.ok.mod.kin M.kp hall (thn (ha.run pos pins s σ H _ I ⟨g, Z, δ, S, sm, sl, Post.bind (Q := fun vs H1 => ∃ g1 S1 xs, SimH c g1 S1 Z H1 ∧ Slots c g1 δ σ ∧ RepL c g1 xs vs ∧ xs.length = na ∧
    Post c (Rep c) g1 Z ((mk δ S1).bind fun zs S2 => if zs.length = ks.length then fMk k n fm (sel codes more (xs ++ zs)) S2 else .bad) Q fun cls d H' => W cls d σ H') q fun xs S1 g1 vs H1 _ le1 s1 r1 q1 => ?_⟩) fun us s1 hx => ?_) hpl he
  · by_cases hn : xs.length = na
    · rw [if_pos hn] at q1
      exact ⟨g1, S1, xs, s1, sl.up le1, r1, hn, q1⟩
    · rw [if_neg hn] at q1
      exact q1.elim
  · obtain ⟨vs, H1, I1, ru, g1, S1, xs, s1', sl1, r1, hn, q1⟩ := hx
    refine thn (hkw.run pos pins s1 σ H1 _ I1 ⟨g1, Z, δ, S1, s1', sl1, Post.bind (Q := fun vz H2 => ∃ g2 S2 zs, g1.le g2 ∧ SimH c g2 S2 Z H2 ∧ RepL c g2 zs vz ∧ zs.length = ks.length ∧ Post c (Rep c) g2 Z (fMk k n fm (sel codes more (xs ++ zs)) S2) Q fun cls d H' => W cls d σ H') q1 fun zs S2 g2 vz H2 _ le2 s2 r2 q2 => ?_⟩) fun ws s2 hy => ?_
    · by_cases hz : zs.length = ks.length
      · rw [if_pos hz] at q2
        exact ⟨g2, S2, zs, le2, s2, r2, hz, q2⟩
      · rw [if_neg hz] at q2
        exact q2.elim
    · obtain ⟨vz, H2, I2, rw2, g2, S2, zs, le2, s2', r2, hz, q2⟩ := hy
      refine ⟨I2.kIn, ?_⟩
      rw [hks]
      exact mkK_end cf tk M F hb hmore I2 s2' (r1.up le2) r2 ru rw2 hn hz q2
/-- C(k = v, ..) -/
theorem ce_mkK0 (cf : Cf (j + 1) X c) (tk : Takes X W) (M : Mk X.K (c.cl k) f) (F : FnG X.prog X.w X.K X.mg X.base j f fd ps (spM c n fm)) (hb : KwB X.K fd ps 1 ks codes mz mv) (hmore : ∀ g, RepL c g more mz) (hm : X.mg x = some (.ref (c.cl k)))
    (hkw : CK X c W kws mk) (hg : Gl X x := by rfl) (hall : (backToKw pos (keywordEach kws X.env)).all (·.1.isSome) = true := by rfl) (hks : (backToKw pos (keywordEach kws X.env)).filterMap (·.1) = ks := by rfl) (hdb : (x == ("__debug__" : Str)) = false := by decide)
    (hpl : ((backTo pos (starEach [] X.env)).any (·.1) || (backToKw pos (keywordEach kws X.env)).any (·.1.isNone)) = false := by rfl) :
    CE X c W (.Call (.Name x p) [] kws pos) (mMkK k n 0 ks.length codes more fm mNil mk) := by
  refine ⟨fun pins s σ H Q I ⟨g, Z, δ, S, sm, sl, q⟩ => ?_⟩
  refine wpAny_Call_Name_kw (ld_glob I hg hm ?_ hdb)
  refine PySem.W.callWith_KW0 (h₀ := X.base) I.ok.mod.kin M.kp hall ?_ hpl
  have q1 : Post c (Rep c) g Z ((mk δ S).bind fun zs S2 => if zs.length = ks.length then fMk k n fm (sel codes more ([] ++ zs)) S2 else .bad) Q fun cls d H' => W cls d σ H' := q
  refine thn (hkw.run pos pins s σ H _ I ⟨g, Z, δ, S, sm, sl, Post.bind (Q := fun vz H2 => ∃ g2 S2 zs, SimH c g2 S2 Z H2 ∧ RepL c g2 zs vz ∧ zs.length = ks.length ∧ Post c (Rep c) g2 Z (fMk k n fm (sel codes more ([] ++ zs)) S2) Q fun cls d H' => W cls d σ H') q1 fun zs S2 g2 vz H2 _ le2 s2 r2 q2 => ?_⟩) fun ws s2 hy => ?_
  · by_cases hz : zs.length = ks.length
    · rw [if_pos hz] at q2
      exact ⟨g2, S2, zs, s2, r2, hz, q2⟩
    · rw [if_neg hz] at q2
      exact q2.elim
  · obtain ⟨vz, H2, I2, rw2, g2, S2, zs, s2', r2, hz, q2⟩ := hy
    refine ⟨I2.kIn, ?_⟩
    rw [hks]
    exact mkK_end (us := []) (xs := []) (vs := []) cf tk M F hb hmore I2 s2' RepL.nil r2 .nil rw2 rfl hz q2
end
end DL

end
section
/-! DL, part p: try with clauses 'except C as e'. -/
namespace DL
open PySem PySem.Spec PyProof.Rows L2

abbrev Suite := Addr → Value → Option Addr → TS
/-- the ends of a clause: its name goes -/
abbrev Ends.out (D : Ends) (i : Nat) : Ends := { nx := fun σ H => D.nx (σ.set i none) H, rt := D.rt, bk := fun σ H => D.bk (σ.set i none) H, ct := fun σ H => D.ct (σ.set i none) H }
def wHds (K : PySem.W.Frag) (Wo : WX) (D : Ends) : List (Value × Nat × Suite) → WX
  | [] => Wo
  | (cv, i, ts) :: r => fun cls d σ H => ∃ b, PySem.W.exmOne K cls cv = some b ∧ (b = true → ∀ a, H a = none → ts a cls d (Ends.out D i) (σ.set i (some (.ref a))) H) ∧ (b = false → wHds K Wo D r cls d σ H)
inductive HdAs (X : Cx) : List ExceptHandler → List (Value × Nat × Suite) → Prop
  | nil : HdAs X [] []
  | cons {x n : Str} {cv : Value} {i : Nat} {ts : Suite} {b₀ : Stmt} {su : List Stmt} {np p' : Pos} {hds : List ExceptHandler} {l : List (Value × Nat × Suite)} (hc : Names X x cv) (hi : X.N[i]? = some n) (hl : X.env.kindOf n = some .local)
      (hs : ∀ (a : Addr) (oe : Obj) (cls : Value) (d : Option Addr) (pn : List (Addr × Obj)), Zc cls d oe → (∃ vs, oe.data = .fields vs) → PSs (X.suite a ((a, oe) :: pn)) (b₀ :: su) (ts a cls d)) (r : HdAs X hds l) :
      HdAs X (.ExceptHandler (some (.Name x np)) (some n) (b₀ :: su) p' :: hds) ((cv, i, ts) :: l)
section
variable {X : Cx} {body : List Stmt} {h₀ : ExceptHandler} {hds : List ExceptHandler} {l : List (Value × Nat × Suite)} {pos : Pos} {tb : WX → TS} {Wo : WX}
theorem ps_try_asM (hst : X.stack = X.env :: X.outer) (hfr : X.env.frame = some X.env.locals) (hN : X.N.Nodup) (tk : Takes X Wo)
    (hb : ∀ (W : WX) (pn : List (Addr × Obj)) (xe : Value → Shared → Prop), Takes (X.tr pn xe) W → PassesOwn (model X.prog X.w) X.A X.env xe → PSs (X.tr pn xe) body (tb W)) (hh : HdAs X (h₀ :: hds) l) :
    PS X (.Try body (h₀ :: hds) [] [] pos) (fun D σ H => tb (wHds X.K Wo D l) D σ H) := by
  refine ⟨fun pins s σ H D I h => ?_⟩
  have ok := I.ok
  have frm : X.A.frames = some (X.env :: X.outer) := by rw [ok.frames, hst]
  refine wpAny_Try_except ?_
  refine wpAny_mono ((hb (wHds X.K Wo D l) (X.pn ++ pins) (fun e s₁ => wpAny (model X.prog X.w) X.A (noteFrame e X.env) (fun _ s₂ => wpAny (model X.prog X.w) X.A (setFlight e none) (fun _ s₃ =>
    wpAny (model X.prog X.w) X.A (handleBy e X.env (h₀ :: hds)) (SP X pins D) X.xe s₃) X.xe s₂) X.xe s₁) (fun u s' xx => ?_) PassesOwn.looking).run [] s σ H D (I.toTry _) h) (fun f s1 hsp => ?_) (fun e s1 he => he)
  · obtain ⟨a, B, sI, pz, σ', H', cls, d, rfl, Jz, nb, up, sky, na, os, ag, w⟩ := xx
    have J : Inv X pins σ' H' sI := Jz.ofTry ok
    have sky2 : Sky B (X.env :: X.outer) a (Zc cls d) X.env.locals s'.heap := by rw [← hst]; exact sky
    show wpAny (model X.prog X.w) X.A (noteFrame (.ref a) X.env) _ _ _
    refine Sky.land Zc.steady frm hfr sky2 fun h3 fl up3 => ?_
    have J3 : Inv X pins σ' H' { s' with heap := h3 } := J.landed nb fl.1 (up.trans up3) os ag
    obtain ⟨oe, vs, he, hz, hd⟩ := fl.there
    have nfr : a ∉ frs (X.env :: X.outer) := fun hm => by
      obtain ⟨_, o2, e2, hnf⟩ := fl.2.2.1.mem hm
      rw [he] at e2
      rw [← Option.some.inj e2] at hnf
      exact hnf _ hd
    have nL : a ≠ X.env.locals := fun z => nfr (List.mem_filterMap.mpr ⟨X.env, List.mem_cons_self, by rw [hfr, z]⟩)
    have nF : a ∉ X.fs := fun hm => by
      obtain ⟨en, hen, q⟩ := List.mem_filterMap.mp hm
      exact nfr (List.mem_filterMap.mpr ⟨en, List.mem_cons_of_mem _ hen, q⟩)
    have S3 := J3.suite he hd na nL nF
    have go : ∀ {hds' : List ExceptHandler} {l' : List (Value × Nat × Suite)}, HdAs X hds' l' → wHds X.K Wo D l' cls d σ' H' → wpAny (model X.prog X.w) X.A (handleBy (.ref a) X.env hds') (SP X pins D) X.xe { s' with heap := h3 } := by
      intro hds' l' hk
      induction hk with
      | nil =>
        intro w
        refine wpAny_handleBy_nil ?_
        obtain ⟨_, _, _, o5, v5, T5, _, _, he5, _, hd5, h15, _⟩ := id fl
        unfold PySem.passOn
        refine wpAny_bind (wpAny_field he5 hd5 h15 ?_)
        rw [if_neg (show ¬ ((Value.ref T5 == Value.none) = true) from by simp)]
        have fin : wpAny (model X.prog X.w) X.A (setFlight (.ref a) X.env.frame) (fun _ s4 => wpAny (model X.prog X.w) X.A (throw (.ref a) : Sem Flow) (SP X pins D) X.xe s4) X.xe { s' with heap := h3 } := by
          rw [hfr]
          refine HandSPX.setFlight_upZ fl fun h4 hh4 up4 => wpAny_throw (tk _ _ ?_)
          exact ⟨a, B, sI, pins, σ', H', cls, d, rfl, J, nb, (up.trans up3).trans up4, .inr (.inr (by rw [hst]; exact hh4)), na, os, ag, w⟩
        first
          | exact wpAny_bind (wpAny_pure (wpAny_bind fin))
          | exact wpAny_bind fin
      | @cons x n cv i ts b₀ su np p' hds2 l2 hc hi hln hsu r ih =>
        intro w
        obtain ⟨b, hb1, hyes, hno⟩ := w
        refine wpAny_handleBy_cons (codeAny_handlers_test ?_) (by intro q; cases q)
        have LT : PySem.W.Looks (model X.prog X.w) h3 (typeOf (.ref a)) cls := fun A Q E s k q => wpAny_typeOf_ref (k _ _ he) (by rw [hz.1]; exact q)
        have LM := PySem.W.exm_one (M := model X.prog X.w) (J3.kIn) LT hb1
        have test : ∀ {Q : Value → Shared → Prop} {E : Value → Shared → Prop}, Q cv { s' with heap := h3 } → wpAny (model X.prog X.w) (X.A.mark (some (.ref a))) (eval (.Name x np) X.env) Q E { s' with heap := h3 } := fun {Q E} q => by
          obtain ⟨hg, hdb, hm | ⟨hm, hv, hnn⟩⟩ := hc
          · exact ld_glob (X := X.suite a ((a, oe) :: (X.pn ++ pins))) S3 hg hm q hdb
          · exact ld_blt (X := X.suite a ((a, oe) :: (X.pn ++ pins))) S3 hg hm hv q hnn hdb
        refine test (LM.here ?_)
        cases b with
        | false =>
          show wpAny _ X.A (handleBy (.ref a) X.env hds2) _ _ _
          exact ih (hno rfl)
        | true =>
          refine codeAny_handlers_suite_as ?_
          refine HandSPX.lands_againZ fl fun h4 fl4 up4 => ?_
          have J4 : Inv X pins σ' H' { s' with heap := h4 } := J.landed nb fl4.1 ((up.trans up3).trans up4) os ag
          obtain ⟨oe4, vs4, he4, hz4, hd4⟩ := fl4.there
          refine store_ok (X := X.suite a ((a, oe4) :: (X.pn ++ pins))) (v := .ref a) (J4.suite he4 hd4 na nL nF) hN hi (.inl hln) rfl (fun s5 S5 => ?_) (.inr hln)
          refine wpAny_mono ((hsu a oe4 cls d (X.pn ++ pins) hz4 ⟨_, hd4⟩).run [] s5 _ H' _ S5 (hyes rfl a na)) (fun f s6 hsp => ?_) (fun _ _ z => False.elim z)
          have away : ∀ {σ6 : L2.St} {H6 : Hp} {Q : Shared → Prop}, Inv (X.suite a ((a, oe4) :: (X.pn ++ pins))) [] σ6 H6 s6 → (∀ s7, Inv X pins (σ6.set i none) H6 s7 → Q s7) →
              wpAny (model X.prog X.w) X.A (do bindName X.env n .none; unbindBehindTheSuite X.env n p') (fun _ s7 => Q s7) X.xe s6 := fun {σ6 H6 Q} S6 hq => gone_ok (S6.unsuite ok) hN hi hln hq
          rcases f with _ | _ | _ | u
          · obtain ⟨σ6, H6, S6, q6⟩ := hsp
            exact away S6 fun s7 J7 => ⟨_, _, J7, q6⟩
          · obtain ⟨σ6, H6, S6, q6⟩ := hsp
            exact away S6 fun s7 J7 => ⟨_, _, J7, q6⟩
          · obtain ⟨σ6, H6, S6, q6⟩ := hsp
            exact away S6 fun s7 J7 => ⟨_, _, J7, q6⟩
          · obtain ⟨v6, σ6, H6, S6, r6, q6⟩ := hsp
            exact away S6 fun s7 J7 => ⟨_, _, _, J7, r6, q6⟩
    exact go hh w
  · rcases f with _ | _ | _ | u
    · obtain ⟨σ', H', J', q⟩ := hsp
      exact wpAny_execs_nil ⟨σ', H', J'.ofTry ok, q⟩
    · obtain ⟨σ', H', J', q⟩ := hsp
      exact ⟨σ', H', J'.ofTry ok, q⟩
    · obtain ⟨σ', H', J', q⟩ := hsp
      exact ⟨σ', H', J'.ofTry ok, q⟩
    · obtain ⟨v, σ', H', J', r, q⟩ := hsp
      exact ⟨v, σ', H', J'.ofTry ok, r, q⟩
end
end DL

end
section
/-! DL, part q: try over the data. -/
namespace DL
open PySem PySem.Spec PyProof.Rows L2

/- no error in it -/
mutual
def D.noE : D → Bool
  | .lst xs => D.noEL xs
  | .tup xs => D.noEL xs
  | .dic _ vs => D.noEL vs
  | .ins _ vs => D.noEL vs
  | .exv _ _ => false
  | _ => true
def D.noEL : List D → Bool
  | [] => true
  | d :: r => D.noE d && D.noEL r
end
def O.noE : O → Bool
  | .lst xs => D.noEL xs
  | .dic _ vs => D.noEL vs
  | .dct _ vs => D.noEL vs
  | .ins _ vs => D.noEL vs
  | .dead => true
def slNoE (δ : Sl) : Bool := δ.all fun o => match o with
  | some d => d.noE
  | none => true
abbrev RC.at (c : RC) (e : Option (Addr × Nat × Option Addr)) : RC := { c with ex := e }
section
variable {c : RC} {g : Wd} {e : Option (Addr × Nat × Option Addr)}
mutual
theorem Rep.to (hx : c.ex = none) : ∀ {d : D} {v : V}, Rep c g d v → Rep (c.at e) g d v
  | .non, v, h => by simpa only [Rep] using h
  | .bl b, v, h => by simpa only [Rep] using h
  | .int i, v, h => by simpa only [Rep] using h
  | .str s, v, h => by simpa only [Rep] using h
  | .glb u, v, h => by simpa only [Rep] using h
  | .cls k, v, h => by simpa only [Rep] using h
  | .loc n, v, h => by simpa only [Rep] using h
  | .lst ds, v, h => by
    rw [Rep] at h ⊢
    obtain ⟨a, vs, e, s, r⟩ := h
    exact ⟨a, vs, e, s, RepL.to hx r⟩
  | .tup ds, v, h => by
    rw [Rep] at h ⊢
    obtain ⟨a, vs, e, s, r⟩ := h
    exact ⟨a, vs, e, s, RepL.to hx r⟩
  | .dic ks ds, v, h => by
    rw [Rep] at h ⊢
    obtain ⟨a, kvs, e, s, q, r⟩ := h
    exact ⟨a, kvs, e, s, q, RepL.to hx r⟩
  | .ins k ds, v, h => by
    rw [Rep] at h ⊢
    obtain ⟨a, dx, fs, vs, e, s, q, r⟩ := h
    exact ⟨a, dx, fs, vs, e, s, q, RepL.to hx r⟩
  | .exv k ds, v, h => by
    rw [Rep] at h ⊢
    obtain ⟨a, dd, e, s, q⟩ := h
    refine ⟨a, dd, e, ?_, ?_⟩
    · rcases s with s | s
      · exact .inl s
      · rw [hx] at s; cases s
    rcases q with q | ⟨d, fs, vs, e1, e2, e3, r⟩
    · exact .inl q
    · exact .inr ⟨d, fs, vs, e1, e2, e3, RepL.to hx r⟩
theorem RepL.to (hx : c.ex = none) : ∀ {ds : List D} {vs : List V}, RepL c g ds vs → RepL (c.at e) g ds vs
  | [], vs, h => by simpa only [RepL] using h
  | d :: ds, vs, h => by
    rw [RepL] at h ⊢
    obtain ⟨v, r, e, p, q⟩ := h
    exact ⟨v, r, e, Rep.to hx p, RepL.to hx q⟩
end
mutual
theorem Rep.back : ∀ {d : D} {v : V}, d.noE = true → Rep (c.at e) g d v → Rep c g d v
  | .non, v, _, h => by simpa only [Rep] using h
  | .bl b, v, _, h => by simpa only [Rep] using h
  | .int i, v, _, h => by simpa only [Rep] using h
  | .str s, v, _, h => by simpa only [Rep] using h
  | .glb u, v, _, h => by simpa only [Rep] using h
  | .cls k, v, _, h => by simpa only [Rep] using h
  | .loc n, v, _, h => by simpa only [Rep] using h
  | .lst ds, v, hn, h => by
    rw [Rep] at h ⊢
    obtain ⟨a, vs, e, s, r⟩ := h
    exact ⟨a, vs, e, s, RepL.back hn r⟩
  | .tup ds, v, hn, h => by
    rw [Rep] at h ⊢
    obtain ⟨a, vs, e, s, r⟩ := h
    exact ⟨a, vs, e, s, RepL.back hn r⟩
  | .dic ks ds, v, hn, h => by
    rw [Rep] at h ⊢
    obtain ⟨a, kvs, e, s, q, r⟩ := h
    exact ⟨a, kvs, e, s, q, RepL.back hn r⟩
  | .ins k ds, v, hn, h => by
    rw [Rep] at h ⊢
    obtain ⟨a, dx, fs, vs, e, s, q, r⟩ := h
    exact ⟨a, dx, fs, vs, e, s, q, RepL.back hn r⟩
  | .exv k ds, v, hn, h => by cases hn
theorem RepL.back : ∀ {ds : List D} {vs : List V}, D.noEL ds = true → RepL (c.at e) g ds vs → RepL c g ds vs
  | [], vs, _, h => by simpa only [RepL] using h
  | d :: ds, vs, hn, h => by
    rw [D.noEL, Bool.and_eq_true] at hn
    rw [RepL] at h ⊢
    obtain ⟨v, r, e, p, q⟩ := h
    exact ⟨v, r, e, Rep.back hn.1 p, RepL.back hn.2 q⟩
end
theorem CellRep.to {H : Hp} {a : Addr} (hx : c.ex = none) : ∀ {o : O}, CellRep c g H a o → CellRep (c.at e) g H a o
  | .lst ds, ⟨h, vs, q, r⟩ => ⟨h, vs, q, RepL.to hx r⟩
  | .dic ks ds, ⟨h, kvs, q, z, r⟩ => ⟨h, kvs, q, z, RepL.to hx r⟩
  | .dct ks ds, ⟨h, kvs, q, z, r⟩ => ⟨h, kvs, q, z, RepL.to hx r⟩
  | .ins k ds, ⟨h, dx, fs, vs, q, z, r⟩ => ⟨h, dx, fs, vs, q, z, RepL.to hx r⟩
  | .dead, h => h
theorem CellRep.back {H : Hp} {a : Addr} : ∀ {o : O}, o.noE = true → CellRep (c.at e) g H a o → CellRep c g H a o
  | .lst ds, n, ⟨h, vs, q, r⟩ => ⟨h, vs, q, RepL.back n r⟩
  | .dic ks ds, n, ⟨h, kvs, q, z, r⟩ => ⟨h, kvs, q, z, RepL.back n r⟩
  | .dct ks ds, n, ⟨h, kvs, q, z, r⟩ => ⟨h, kvs, q, z, RepL.back n r⟩
  | .ins k ds, n, ⟨h, dx, fs, vs, q, z, r⟩ => ⟨h, dx, fs, vs, q, z, RepL.back n r⟩
  | .dead, _, h => h
theorem SimH.to {S : Sto} {Z H : Hp} (hx : c.ex = none) (s : SimH c g S Z H) : SimH (c.at e) g S Z H := ⟨s.gk, s.zk, s.zg, s.len, s.nd, fun n a o e1 e2 => let ⟨h1, h2, h3⟩ := s.cell n a o e1 e2; ⟨h1, h2, h3.to hx⟩⟩
theorem SimH.back {S : Sto} {Z H : Hp} (hn : S.all O.noE = true) (s : SimH (c.at e) g S Z H) : SimH c g S Z H := ⟨s.gk, s.zk, s.zg, s.len, s.nd, fun n a o e1 e2 => let ⟨h1, h2, h3⟩ := s.cell n a o e1 e2; ⟨h1, h2, h3.back (List.all_eq_true.mp hn o (List.mem_of_getElem? e2))⟩⟩
theorem Slots.to {δ : Sl} {σ : L2.St} (hx : c.ex = none) (s : Slots c g δ σ) : Slots (c.at e) g δ σ := ⟨s.1, fun i d q => let ⟨v, h1, h2⟩ := s.2 i d q; ⟨v, h1, Rep.to hx h2⟩⟩
theorem Slots.back {δ : Sl} {σ : L2.St} (hn : slNoE δ = true) (s : Slots (c.at e) g δ σ) : Slots c g δ σ := ⟨s.1, fun i d q => by
  obtain ⟨v, h1, h2⟩ := s.2 i d q
  have hd : d.noE = true := List.all_eq_true.mp hn (some d) (List.mem_of_getElem? q)
  exact ⟨v, h1, Rep.back hd h2⟩⟩
theorem RcOk.ex (h : RcOk c) : RcOk (c.at e) := ⟨h.ia, h.ea, h.no⟩
end

/-! ### the mirror -/
/-- a clause: which classes it takes, its name's slot, its suite -/
structure Hd where
  m : Nat → Option Bool
  i : Nat
  su : MS
def endS (i : Nat) : F → F
  | .nx δ S => if slNoE (δ.set i none) = true ∧ S.all O.noE = true then .nx (δ.set i none) S else .bad
  | .ret d S => if d.noE = true ∧ S.all O.noE = true then .ret d S else .bad
  | _ => .bad
def handle : List Hd → Nat → List D → Sl → Sto → F
  | [], k, vs, δ, S => .exc k vs δ S
  | h :: r, k, vs, δ, S => match h.m k with
    | some true => endS h.i (h.su (δ.set h.i (some (.exv k vs))) S)
    | some false => handle r k vs δ S
    | none => .bad
def sTry (b : MS) (l : List Hd) : MS := fun δ S => match b δ S with
  | .exc k vs δ' S' => handle l k vs δ' S'
  | r => r
section
variable {X : Cx} {c : RC} {W : WX}
def tsOf (c : RC) (su : MS) : Suite := fun a cls d D σ H => ∃ k, cls = .ref (c.cl k) ∧ sM (c.at (some (a, k, d))) W0 su D σ H
inductive HdD (X : Cx) (c : RC) : List ExceptHandler → List Hd → Prop
  | nil : HdD X c [] []
  | cons {x n : Str} {cv : Value} {i : Nat} {m : Nat → Option Bool} {su : MS} {b₀ : Stmt} {st : List Stmt} {np p' : Pos} {hds : List ExceptHandler} {l : List Hd} (hc : Names X x cv) (hi : X.N[i]? = some n) (hl : X.env.kindOf n = some .local)
      (hm : ∀ k b, m k = some b → PySem.W.exmOne X.K (.ref (c.cl k)) cv = some b)
      (hs : ∀ (a : Addr) (oe : Obj) (pn : List (Addr × Obj)) (e : Option (Addr × Nat × Option Addr)), Cq (X.suite a ((a, oe) :: pn)) (c.at e) → CSs (X.suite a ((a, oe) :: pn)) (c.at e) W0 (b₀ :: st) su) (r : HdD X c hds l) :
      HdD X c (.ExceptHandler (some (.Name x np)) (some n) (b₀ :: st) p' :: hds) (⟨m, i, su⟩ :: l)
theorem hd_of (cf : Cf 0 X c) {hds : List ExceptHandler} {l : List Hd} (h : HdD X c hds l) : ∃ l' : List (Value × Nat × Suite), HdAs X hds l' ∧ ∀ (g : Wd) (Z : Hp) (Dn : Ends) (k : Nat) (vs : List D) (δ : Sl) (S : Sto), PostF c g Z (handle l k vs δ S) Dn W →
    ∀ g' dd σ H, g.le g' → SimH c g' S Z H → Slots c g' δ σ → XRep c g' Z H k vs dd → wHds X.K W Dn l' (.ref (c.cl k)) dd σ H := by
  induction h with
  | nil => exact ⟨[], .nil, fun g Z Dn k vs δ S q g' dd σ H le sm sl xr => q g' dd σ H le sm sl xr⟩
  | @cons x n cv i m su b₀ st np p' hds l hc hi hl hm hs r ih =>
    obtain ⟨l', ih1, ih2⟩ := ih
    refine ⟨(cv, i, tsOf c su) :: l', .cons hc hi hl (fun a oe cls d pn hz hf => ⟨fun pins s σ H Dn I hq => ?_⟩) ih1, fun g Z Dn k vs δ S q g' dd σ H le sm sl xr => ?_⟩
    · obtain ⟨k, rfl, hq⟩ := hq
      obtain ⟨fv, hfv⟩ := hf
      refine (hs a oe pn (some (a, k, d)) ⟨cf.kk, cf.hr.units, fun a' k' dd' e => ?_⟩).run pins s σ H Dn I hq
      have e2 : some (a, k, d) = some (a', k', dd') := e
      cases e2
      exact ⟨oe, fv, List.mem_cons_self, hz.1, hz.2, hfv⟩
    · unfold handle at q
      cases em : m k with
      | none => simp only [em] at q; exact q.elim
      | some b =>
        refine ⟨b, hm k b em, fun hb a na => ?_, fun hb => ?_⟩
        · subst hb
          simp only [em] at q
          -- the heap that the suite sees
          have key : ∃ g2 : Wd, g'.le g2 ∧ SimH (c.at (some (a, k, dd))) g2 S Z H ∧ Rep (c.at (some (a, k, dd))) g2 (.exv k vs) (.ref a) := by
            rcases xr with ⟨rfl, rfl⟩ | ⟨d, fs, ws, rfl, e2, ⟨e3, e4⟩, at_, rs⟩
            · refine ⟨g', .refl g', sm.to cf.nx, ?_⟩
              rw [Rep]
              exact ⟨a, none, rfl, .inr rfl, .inl ⟨rfl, rfl⟩⟩
            · have nd : d ∉ g'.ι := fun hmem => by
                obtain ⟨j, o, q1, q2⟩ := sm.mem_cell hmem
                have hc3 := (sm.cell j d o q1 q2).2.2
                cases o with
                | lst ds => obtain ⟨_, _, h1, _⟩ := hc3; rw [e2] at h1; cases h1
                | dic ks ds => obtain ⟨_, _, h1, _⟩ := hc3; rw [e2] at h1; cases h1
                | dct ks ds => obtain ⟨_, _, h1, _⟩ := hc3; rw [e2] at h1; cases h1
                | ins k ds => obtain ⟨_, _, _, _, h1, _⟩ := hc3; rw [e2] at h1; cases h1
                | dead => obtain ⟨u, h1, _⟩ := hc3; rw [e4] at h1; cases h1
              obtain ⟨le2, s2⟩ := sm.fix e2 nd e3 e4
              refine ⟨_, le2, s2.to cf.nx, ?_⟩
              rw [Rep]
              exact ⟨a, some d, rfl, .inr rfl, .inr ⟨d, fs, ws, rfl, .inr upd_same, at_, RepL.to cf.nx (RepL.up le2 rs)⟩⟩
          obtain ⟨g2, le2, s2, re⟩ := key
          refine ⟨k, rfl, g2, Z, δ.set i (some (.exv k vs)), S, s2, ((sl.up le2).to cf.nx).set i re, ?_⟩
          cases es : su (δ.set i (some (.exv k vs))) S with
          | nx δ1 S1 =>
            rw [es] at q
            unfold endS at q
            by_cases hn : slNoE (δ1.set i none) = true ∧ S1.all O.noE = true
            · simp only [if_pos hn] at q
              exact fun g3 σ3 H3 le3 s3 sl3 => q g3 (σ3.set i none) H3 ((le.trans le2).trans le3) (s3.back hn.2) ((sl3.forget i none).back hn.1)
            · simp only [if_neg hn] at q
              exact q.elim
          | ret d1 S1 =>
            rw [es] at q
            unfold endS at q
            by_cases hn : d1.noE = true ∧ S1.all O.noE = true
            · simp only [if_pos hn] at q
              exact fun g3 v3 H3 le3 s3 r3 => q g3 v3 H3 ((le.trans le2).trans le3) (s3.back hn.2) (Rep.back hn.1 r3)
            · simp only [if_neg hn] at q
              exact q.elim
          | _ => rw [es] at q; exact q.elim
        · subst hb
          simp only [em] at q
          exact ih2 g Z Dn k vs δ S q g' dd σ H le sm sl xr
theorem cs_try {j : Nat} {body : List Stmt} {h₀ : ExceptHandler} {hds : List ExceptHandler} {l : List Hd} {mb : MS} {pos : Pos} (cf : Cf j X c) (hst : X.stack = X.env :: X.outer) (hfr : X.env.frame = some X.env.locals) (hN : X.N.Nodup) (tk : Takes X W)
    (hb : ∀ (W' : WX) (pn : List (Addr × Obj)) (xe : Value → Shared → Prop), Takes (X.tr pn xe) W' → PassesOwn (model X.prog X.w) X.A X.env xe → CSs (X.tr pn xe) c W' body mb) (hh : HdD X c (h₀ :: hds) l) : CS X c W (.Try body (h₀ :: hds) [] [] pos) (sTry mb l) := by
  obtain ⟨l', h1, h2⟩ := hd_of (W := W) (cf.mono (Nat.zero_le _)) hh
  refine weakS (ps_try_asM (tb := fun W' => sM c W' mb) hst hfr hN tk hb h1) fun Dn σ H ⟨g, Z, δ, S, sm, sl, q⟩ => ⟨g, Z, δ, S, sm, sl, ?_⟩
  unfold sTry at q
  cases e : mb δ S with
  | exc k vs δ' S' =>
    rw [e] at q
    exact fun g' dd σ' H' le s' sl' xr => h2 g Z Dn k vs δ' S' q g' dd σ' H' le s' sl' xr
  | nx δ' S' => rw [e] at q; exact q
  | ret d S' => rw [e] at q; exact q
  | brk δ' S' => rw [e] at q; exact q
  | cnt δ' S' => rw [e] at q; exact q
  | bad => rw [e] at q; exact q
theorem Cf.tr {j : Nat} (cf : Cf j X c) {pn : List (Addr × Obj)} {xe : Value → Shared → Prop} : Cf j (X.tr pn xe) c := ⟨cf.kk, cf.gd, cf.hr, cf.calm, cf.nx⟩
end
end DL

end
section
/-! DL, part r: what printed walks of classes lean on. -/
namespace DL
open PySem PySem.Spec PyProof.Rows L2
section
variable {X : Cx} {c : RC} {W : WX} {x : Str} {pos : Pos} {i : Int} {z : Str}
theorem ce_gI (hg : Gl X x) (h : ∃ t, X.mg x = some (.int i t)) (hd : (x == ("__debug__" : Str)) = false := by decide) : CE X c W (.Name x pos) (mC (.int i)) := by
  obtain ⟨t, e⟩ := h
  exact ce_globI hg e ⟨t, rfl⟩ hd
theorem ce_gS (hg : Gl X x) (h : ∃ t, X.mg x = some (.str z t)) (hd : (x == ("__debug__" : Str)) = false := by decide) : CE X c W (.Name x pos) (mC (.str z)) := by
  obtain ⟨t, e⟩ := h
  exact ce_globS hg e ⟨t, rfl⟩ hd
end
/-- of a built-in class: the values of just this class -/
def subT (T : String) : TD → Option Bool
  | .b n => if n = T then some true else none
  | .c _ => none
theorem subT_ok {c : RC} (T : String) : ∀ t b, subT T t = some b → t.ok c ∧ PySem.W.kitOne c.K (t.v c) (.type T) = some b := fun t b h => by
  cases t with
  | b n =>
    by_cases e : n = T
    · subst e
      rw [subT, if_pos rfl] at h
      cases h
      refine ⟨trivial, ?_⟩
      show PySem.W.kitOne c.K (.type n) (.type n) = some true
      unfold PySem.W.kitOne
      rw [if_pos (beq_iff_eq.mpr rfl)]
    · rw [subT, if_neg e] at h
      cases h
  | c k => cases h
/-- an instance's making, by keywords -/
structure MkM (P : Program) (w : World) (K : PySem.W.Frag) (mg : Str → Option Value) (base : Heap) (c : RC) (j k n na : Nat) (ks : List Str) (codes : List (Nat ⊕ Nat)) (more : List D) (fm : MF) : Prop where
  ex : ∃ f fd ps mz mv, Mk K (c.cl k) f ∧ FnG P w K mg base j f fd ps (spM c n fm) ∧ KwB K fd ps (na + 1) ks codes mz mv ∧ ∀ g, RepL c g more mz
section
variable {X : Cx} {c : RC} {W : WX} {i j k n na : Nat} {ks : List Str} {fm : MF} {x : Str} {p pos : Pos} {e : Expr} {es : List Expr} {kws : List Keyword} {ms mk : MA} {codes : List (Nat ⊕ Nat)} {more : List D}
theorem ce_mkI (cf : Cf (j + 1) X c) (tk : Takes X W) (M : MkM X.prog X.w X.K X.mg X.base c i k n 0 ks codes more fm) (hij : i ≤ j) (hm : X.mg x = some (.ref (c.cl k))) (hkw : CK X c W kws mk) (hg : Gl X x := by rfl) (hall : (backToKw pos (keywordEach kws X.env)).all (·.1.isSome) = true := by rfl)
    (hks : (backToKw pos (keywordEach kws X.env)).filterMap (·.1) = ks := by rfl) (hdb : (x == ("__debug__" : Str)) = false := by decide) (hpl : ((backTo pos (starEach [] X.env)).any (·.1) || (backToKw pos (keywordEach kws X.env)).any (·.1.isNone)) = false := by rfl) :
    CE X c W (.Call (.Name x p) [] kws pos) (mMkK k n 0 ks.length codes more fm mNil mk) := by
  obtain ⟨f, fd, ps, mz, mv, h1, h2, h3, h5⟩ := M.ex
  exact ce_mkK0 cf tk h1 (h2.mono hij) h3 h5 hm hkw hg hall hks hdb hpl
theorem ce_mkIp (cf : Cf (j + 1) X c) (tk : Takes X W) (M : MkM X.prog X.w X.K X.mg X.base c i k n na ks codes more fm) (hij : i ≤ j) (hm : X.mg x = some (.ref (c.cl k))) (ha : CA X c W (e :: es) ms) (hkw : CK X c W kws mk) (hg : Gl X x := by rfl)
    (hall : (backToKw pos (keywordEach kws X.env)).all (·.1.isSome) = true := by rfl) (hks : (backToKw pos (keywordEach kws X.env)).filterMap (·.1) = ks := by rfl) (hdb : (x == ("__debug__" : Str)) = false := by decide)
    (he : starEach (e :: es) X.env = (false, eval e X.env) :: starEach es X.env := by rfl) (hpl : ((backTo pos (starEach (e :: es) X.env)).any (·.1) || (backToKw pos (keywordEach kws X.env)).any (·.1.isNone)) = false := by rfl) :
    CE X c W (.Call (.Name x p) (e :: es) kws pos) (mMkK k n na ks.length codes more fm ms mk) := by
  obtain ⟨f, fd, ps, mz, mv, h1, h2, h3, h5⟩ := M.ex
  exact ce_mkK cf tk h1 (h2.mono hij) h3 h5 hm ha hkw hg hall hks hdb he hpl
end
section
variable {P : Program} {w : World} {K : PySem.W.Frag} {mg : Str → Option Value} {base : Heap} {c : RC} {i j k n : Nat} {op : Operator} {m : Str} {fm : MF}
theorem OpM.mono (h : OpM P w K mg base c i k op fm) (l : i ≤ j) : OpM P w K mg base c j k op fm := ⟨h.first, let ⟨f, fd, ps, h1, h2, h3, h4⟩ := h.ex; ⟨f, fd, ps, h1, h2, h3.mono l, h4⟩⟩
theorem MetM.mono (h : MetM P w K mg base c i k m n fm) (l : i ≤ j) : MetM P w K mg base c j k m n fm := ⟨h.cl, h.nm, let ⟨f, fd, ps, h1, h2, h3⟩ := h.ex; ⟨f, fd, ps, h1, h2.mono l, h3⟩⟩
end
/-! facts of an instance's class by Bools -/
def insAB (K : PySem.W.Frag) (C : Addr) : Bool :=
  (PySem.W.plainGet K C Str.empty && (PySem.W.hasDictIn K C && (PySem.W.plainOver K C && decide (PySem.W.findIn K (.ref C) "__setattr__" = some (some (.builtin "object.__setattr__")))))) && (decide (PySem.W.findIn K (.ref C) "__class__" = some (some (.builtin "object.__class__")))
    && (decide (PySem.W.specialIn K (.builtin "object.__class__") "__get__" = some (some (.builtin "getset_descriptor.__get__"))) && (decide (PySem.W.takesIn K (.builtin "object.__class__") = some true) && decide (PySem.W.mroIn K C (.type "object") = some true))))
theorem insAB_ok {K : PySem.W.Frag} {C : Addr} (h : insAB K C = true) : InsA K C := by
  unfold insAB at h
  obtain ⟨h1, h⟩ := band h
  obtain ⟨a1, h1⟩ := band h1
  obtain ⟨a2, h1⟩ := band h1
  obtain ⟨a3, a4⟩ := band h1
  obtain ⟨h2, h⟩ := band h
  obtain ⟨h3, h⟩ := band h
  obtain ⟨h4, h5⟩ := band h
  exact ⟨⟨a1, a2, a3, of_decide_eq_true a4⟩, of_decide_eq_true h2, of_decide_eq_true h3, of_decide_eq_true h4, of_decide_eq_true h5⟩
def opMB (K : PySem.W.Frag) (C : Addr) (op : Operator) (m : Str) : Bool := PySem.W.selfFirst K C && (decide (PySem.W.findIn K (.ref C) (PySem.dunder op.info.2) = some (some (.ref (He.ma K C m)))) && PySem.W.isFn K (.ref (He.ma K C m)))
theorem opMB_ok {K : PySem.W.Frag} {C : Addr} {op : Operator} {m : Str} (h : opMB K C op m = true) : PySem.W.selfFirst K C = true ∧ PySem.W.findIn K (.ref C) (PySem.dunder op.info.2) = some (some (.ref (He.ma K C m))) ∧ PySem.W.isFn K (.ref (He.ma K C m)) = true := by
  unfold opMB at h
  obtain ⟨h1, h⟩ := band h
  obtain ⟨h2, h3⟩ := band h
  exact ⟨h1, of_decide_eq_true h2, h3⟩
end DL

end
section
/-! DL, part s: mirrors over texts, in the plain. -/
namespace DL
open PySem PySem.Spec L2
theorem flat_strs : ∀ ss : List Str, (ss.map D.str).all D.flat = true
  | [] => rfl
  | s :: r => by
    rw [List.map_cons, List.all_cons, flat_strs r]
    rfl
theorem eqV_str (a b : Str) : eqV (D.v0 (.str a)) (D.v0 (.str b)) = decide (b = a) := by
  by_cases h : b = a
  · subst h
    simp [D.v0, eqV]
  · have h2 : ¬ a = b := fun z => h z.symm
    simp [D.v0, eqV, h, h2]
theorem inD_strs (x : Str) (ss : List Str) : inD (.str x) (ss.map D.str) = decide (x ∈ ss) := by
  induction ss with
  | nil => rfl
  | cons s r ih =>
    unfold inD at ih ⊢
    rw [List.map_cons, List.any_cons, ih, eqV_str]
    by_cases h : x = s <;> simp [h]
theorem in_of {neg : Bool} {x : Str} {y : D} {S : Sto} {ss : List Str} (h : y.sq S = some (ss.map D.str)) (hy : ∀ z, y ≠ .str z) : fIn neg (.str x) y S = .ok (.bl (if neg then !decide (x ∈ ss) else decide (x ∈ ss))) S := by
  cases y with
  | str z => exact absurd rfl (hy z)
  | _ =>
    unfold fIn
    simp only
    rw [h]
    simp only [flat_strs, D.flat, and_self, if_true, inD_strs]
theorem in_lst {neg : Bool} {x : Str} {S : Sto} {ss : List Str} : fIn neg (.str x) (.lst (ss.map D.str)) S = .ok (.bl (if neg then !decide (x ∈ ss) else decide (x ∈ ss))) S := in_of rfl fun z h => by cases h
theorem in_tup {neg : Bool} {x : Str} {S : Sto} {ss : List Str} : fIn neg (.str x) (.tup (ss.map D.str)) S = .ok (.bl (if neg then !decide (x ∈ ss) else decide (x ∈ ss))) S := in_of rfl fun z h => by cases h
theorem in_loc {neg : Bool} {x : Str} {n : Nat} {S : Sto} {ss : List Str} (h : S[n]? = some (.lst (ss.map D.str))) : fIn neg (.str x) (.loc n) S = .ok (.bl (if neg then !decide (x ∈ ss) else decide (x ∈ ss))) S := in_of (by simp only [D.sq, D.seq, h]) fun z h => by cases h
theorem lc_gof {gm : MG} {t : MT} {e : ME} {δ : Sl} {S : Sto} {f : D → D} {p : D → Bool} : ∀ {items : List D} (acc : List D), (∀ d ∈ items, ∃ δ1, gm.f d δ = some δ1 ∧ t δ1 S = .ok (p d) S ∧ (p d = true → e δ1 S = .ok (f d) S)) → lcGo gm t e δ items acc S = .ok (acc ++ (items.filter p).map f) S
  | [], acc, _ => by simp [lcGo]
  | d :: r, acc, h => by
    obtain ⟨δ1, e1, e2, e3⟩ := h d List.mem_cons_self
    unfold lcGo
    rw [e1]
    simp only [e2, R.bind_ok]
    cases hp : p d with
    | true =>
      have ih := lc_gof (gm := gm) (t := t) (e := e) (δ := δ) (S := S) (f := f) (p := p) (items := r) (acc ++ [f d]) fun d hd => h d (List.mem_cons_of_mem _ hd)
      simp only [if_true, e3 hp, R.bind_ok]
      rw [ih]
      simp [List.filter_cons, hp]
    | false =>
      have ih := lc_gof (gm := gm) (t := t) (e := e) (δ := δ) (S := S) (f := f) (p := p) (items := r) acc fun d hd => h d (List.mem_cons_of_mem _ hd)
      simp only [Bool.false_eq_true, if_false]
      rw [ih]
      simp [List.filter_cons, hp]
/-- [f(d) for d in items if p(d)], the store left as it is -/
theorem lc_filter {gm : MG} {t : MT} {e : ME} {mi : MA} {vs : List Nat} {fin : List D → Sto → R D} {δ : Sl} {S : Sto} {items : List D} {f : D → D} {p : D → Bool} (hm : mi δ S = .ok items S) (hl : items.length ≤ 16777216)
    (h : ∀ d ∈ items, ∃ δ1, gm.f d (wipeD δ vs) = some δ1 ∧ t δ1 S = .ok (p d) S ∧ (p d = true → e δ1 S = .ok (f d) S)) : mLc mi gm vs t e fin δ S = fin ((items.filter p).map f) S := by
  unfold mLc
  rw [hm, R.bind_ok, if_pos hl, lc_gof [] h]
  rfl
end DL

end
section
/-! DL, part t: dicts that change; data read with their cells resolved. -/
namespace DL
open PySem PySem.Spec PyProof.Rows L2

/-! ### cells resolved -/
mutual
def D.res (S : Sto) : D → D
  | .lst xs => .lst (D.resL S xs)
  | .tup xs => .tup (D.resL S xs)
  | .dic ks vs => .dic ks (D.resL S vs)
  | .ins k vs => .ins k (D.resL S vs)
  | .exv k vs => .exv k (D.resL S vs)
  | .loc n => match S[n]? with
    | some (.lst xs) => .lst xs
    | some (.dic ks vs) => .dic ks vs
    | some (.ins k vs) => .ins k vs
    | _ => .loc n
  | .non => .non
  | .bl b => .bl b
  | .int i => .int i
  | .str s => .str s
  | .glb v => .glb v
  | .cls k => .cls k
def D.resL (S : Sto) : List D → List D
  | [] => []
  | d :: r => D.res S d :: D.resL S r
end
mutual
theorem res_clean (S : Sto) : ∀ {d : D}, d.clean = true → d.res S = d
  | .lst xs, h => by
    rw [D.clean] at h
    rw [D.res, resL_clean S h]
  | .tup xs, h => by
    rw [D.clean] at h
    rw [D.res, resL_clean S h]
  | .dic ks vs, h => by
    rw [D.clean] at h
    rw [D.res, resL_clean S h]
  | .ins k vs, h => by
    rw [D.clean] at h
    rw [D.res, resL_clean S h]
  | .exv k vs, h => by
    rw [D.clean] at h
    rw [D.res, resL_clean S h]
  | .loc n, h => by rw [D.clean] at h; cases h
  | .non, _ => by rw [D.res]
  | .bl _, _ => by rw [D.res]
  | .int _, _ => by rw [D.res]
  | .str _, _ => by rw [D.res]
  | .glb _, _ => by rw [D.res]
  | .cls _, _ => by rw [D.res]
theorem resL_clean (S : Sto) : ∀ {ds : List D}, D.cleanL ds = true → D.resL S ds = ds
  | [], _ => by rw [D.resL]
  | d :: r, h => by
    rw [D.cleanL, Bool.and_eq_true] at h
    rw [D.resL, res_clean S h.1, resL_clean S h.2]
end
/-- all that is there stands still -/
abbrev thaw (H : Hp) : Wd := ⟨H, []⟩
section
variable {c : RC} {g : Wd} {S : Sto} {Z H : Hp}
theorem thaw_sim : SimH c (thaw H) [] (fun _ => none) H where
  gk := fun _ _ e => .inl e
  zk := fun _ _ e => nomatch e
  zg := fun _ _ e => nomatch e
  len := rfl
  nd := List.nodup_nil
  cell := fun n a o e _ => absurd e (by show ([] : List Addr)[n]? ≠ some a; simp)
theorem kp_o (s : SimH c g S Z H) {a : Addr} {o : HO} (h : g.G a = some o) (hn : ∀ kvs, o ≠ .dK kvs) : H a = some o := by
  rcases s.gk a o h with e | ⟨od, kvs, e, _⟩
  · exact e
  · exact absurd e (hn kvs)
theorem kp_l (s : SimH c g S Z H) {a : Addr} {vs : List V} (h : SqL c.K g.G a vs) : SqL c.K H a vs := by
  rcases h with h | h
  · exact .inl (s.gk.rd h)
  · exact .inr h
theorem kp_t (s : SimH c g S Z H) {a : Addr} {vs : List V} (h : SqT c.K g.G a vs) : SqT c.K H a vs := by
  rcases h with h | h
  · exact .inl (s.gk.rd h)
  · exact .inr h
mutual
theorem cln_up (s : SimH c g S Z H) : ∀ {d : D} {v : V}, d.clean = true → Rep c g d v → Rep c (thaw H) d v
  | .non, v, _, r => by rw [Rep] at r ⊢; exact r
  | .bl b, v, _, r => by rw [Rep] at r ⊢; exact r
  | .int i, v, _, r => by rw [Rep] at r ⊢; exact r
  | .str t, v, _, r => by rw [Rep] at r ⊢; exact r
  | .glb u, v, _, r => by rw [Rep] at r ⊢; exact r
  | .cls k, v, _, r => by rw [Rep] at r ⊢; exact r
  | .lst xs, v, k, r => by
    rw [D.clean] at k
    rw [Rep] at r ⊢
    obtain ⟨a, vs, e, h, rs⟩ := r
    exact ⟨a, vs, e, kp_l s h, clnL_up s k rs⟩
  | .tup xs, v, k, r => by
    rw [D.clean] at k
    rw [Rep] at r ⊢
    obtain ⟨a, vs, e, h, rs⟩ := r
    exact ⟨a, vs, e, kp_t s h, clnL_up s k rs⟩
  | .dic ks ds, v, k, r => by
    rw [D.clean] at k
    rw [Rep] at r ⊢
    obtain ⟨a, kvs, e, h, q, rs⟩ := r
    exact ⟨a, kvs, e, s.gk.rd h, q, clnL_up s k rs⟩
  | .ins j ds, v, k, r => by
    rw [D.clean] at k
    rw [Rep] at r ⊢
    obtain ⟨a, dx, fs, vs, e, h, q, rs⟩ := r
    exact ⟨a, dx, fs, vs, e, kp_o s h (fun _ z => by cases z), q, clnL_up s k rs⟩
  | .exv j ds, v, k, r => by
    rw [D.clean] at k
    rw [Rep] at r ⊢
    obtain ⟨a, dd, e, h, q⟩ := r
    refine ⟨a, dd, e, ?_, ?_⟩
    · rcases h with h | h
      · exact .inl (kp_o s h (fun _ z => by cases z))
      · exact .inr h
    · rcases q with q | ⟨d, fs, vs, e2, h2, q2, rs⟩
      · exact .inl q
      · refine .inr ⟨d, fs, vs, e2, ?_, q2, clnL_up s k rs⟩
        rcases h2 with h2 | h2
        · exact .inl (kp_o s h2 (fun _ z => by cases z))
        · exact .inr (kp_o s h2 (fun _ z => by cases z))
  | .loc n, v, k, r => by rw [D.clean] at k; cases k
theorem clnL_up (s : SimH c g S Z H) : ∀ {ds : List D} {vs : List V}, D.cleanL ds = true → RepL c g ds vs → RepL c (thaw H) ds vs
  | [], vs, _, r => by rw [RepL] at r ⊢; exact r
  | d :: ds, vs, k, r => by
    rw [D.cleanL, Bool.and_eq_true] at k
    rw [RepL] at r ⊢
    obtain ⟨v, w, e, r1, r2⟩ := r
    exact ⟨v, w, e, cln_up s k.1 r1, clnL_up s k.2 r2⟩
end
mutual
/-- what stands for data stands for the data resolved -/
theorem res_up (s : SimH c g S Z H) : ∀ {d : D} {v : V}, (d.res S).clean = true → Rep c g d v → Rep c (thaw H) (d.res S) v
  | .non, v, _, r => by rw [D.res]; rw [Rep] at r ⊢; exact r
  | .bl b, v, _, r => by rw [D.res]; rw [Rep] at r ⊢; exact r
  | .int i, v, _, r => by rw [D.res]; rw [Rep] at r ⊢; exact r
  | .str t, v, _, r => by rw [D.res]; rw [Rep] at r ⊢; exact r
  | .glb u, v, _, r => by rw [D.res]; rw [Rep] at r ⊢; exact r
  | .cls k, v, _, r => by rw [D.res]; rw [Rep] at r ⊢; exact r
  | .lst xs, v, k, r => by
    rw [D.res] at k ⊢
    rw [D.clean] at k
    rw [Rep] at r ⊢
    obtain ⟨a, vs, e, h, rs⟩ := r
    exact ⟨a, vs, e, kp_l s h, resL_up s k rs⟩
  | .tup xs, v, k, r => by
    rw [D.res] at k ⊢
    rw [D.clean] at k
    rw [Rep] at r ⊢
    obtain ⟨a, vs, e, h, rs⟩ := r
    exact ⟨a, vs, e, kp_t s h, resL_up s k rs⟩
  | .dic ks ds, v, k, r => by
    rw [D.res] at k ⊢
    rw [D.clean] at k
    rw [Rep] at r ⊢
    obtain ⟨a, kvs, e, h, q, rs⟩ := r
    exact ⟨a, kvs, e, s.gk.rd h, q, resL_up s k rs⟩
  | .ins j ds, v, k, r => by
    rw [D.res] at k ⊢
    rw [D.clean] at k
    rw [Rep] at r ⊢
    obtain ⟨a, dx, fs, vs, e, h, q, rs⟩ := r
    exact ⟨a, dx, fs, vs, e, kp_o s h (fun _ z => by cases z), q, resL_up s k rs⟩
  | .exv j ds, v, k, r => by
    rw [D.res] at k ⊢
    rw [D.clean] at k
    rw [Rep] at r ⊢
    obtain ⟨a, dd, e, h, q⟩ := r
    refine ⟨a, dd, e, ?_, ?_⟩
    · rcases h with h | h
      · exact .inl (kp_o s h (fun _ z => by cases z))
      · exact .inr h
    · rcases q with ⟨q1, q2⟩ | ⟨d, fs, vs, e2, h2, q2, rs⟩
      · exact .inl ⟨q1, by rw [q2, D.resL]⟩
      · refine .inr ⟨d, fs, vs, e2, ?_, q2, resL_up s k rs⟩
        rcases h2 with h2 | h2
        · exact .inl (kp_o s h2 (fun _ z => by cases z))
        · exact .inr (kp_o s h2 (fun _ z => by cases z))
  | .loc n, v, k, r => by
    rw [Rep] at r
    obtain ⟨a, rfl, ea⟩ := r
    rw [D.res] at k ⊢
    split at k
    · rename_i xs hx
      obtain ⟨_, _, hc, vs, hH, rs⟩ := s.cell n a _ ea hx
      show Rep c (thaw H) (.lst xs) (.ref a)
      rw [Rep]
      exact ⟨a, vs, rfl, .inl (.inl hH), clnL_up s hc rs⟩
    · rename_i ks xs hx
      obtain ⟨_, _, hc, kvs, hH, q, rs⟩ := s.cell n a _ ea hx
      show Rep c (thaw H) (.dic ks xs) (.ref a)
      rw [Rep]
      exact ⟨a, kvs, rfl, .inl hH, q, clnL_up s hc rs⟩
    · rename_i j xs hx
      obtain ⟨_, _, hc, dx, fs, vs, hH, q, rs⟩ := s.cell n a _ ea hx
      show Rep c (thaw H) (.ins j xs) (.ref a)
      rw [Rep]
      exact ⟨a, dx, fs, vs, rfl, hH, q, clnL_up s hc rs⟩
    · rw [D.clean] at k
      cases k
theorem resL_up (s : SimH c g S Z H) : ∀ {ds : List D} {vs : List V}, D.cleanL (D.resL S ds) = true → RepL c g ds vs → RepL c (thaw H) (D.resL S ds) vs
  | [], vs, _, r => by rw [D.resL]; rw [RepL] at r ⊢; exact r
  | d :: ds, vs, k, r => by
    rw [D.resL] at k ⊢
    rw [D.cleanL, Bool.and_eq_true] at k
    rw [RepL] at r ⊢
    obtain ⟨v, w, e, r1, r2⟩ := r
    exact ⟨v, w, e, res_up s k.1 r1, resL_up s k.2 r2⟩
end
end
/-- repr of data with cells in it -/
def fReprR (xs : List D) (S : Sto) : R D := match xs with
  | [x] => if (x.res S).clean = true then (match (x.res S).pyr with
    | some p => if p.showable = true ∧ p.depth ≤ 60 ∧ p.shown.length ≤ 16777216 then .ok (.str p.shown) S else .bad
    | none => .bad) else .bad
  | _ => .bad
theorem pyrS_of {d : D} (h : d.clean = true) : d.pyrS [] = d.pyr := by
  cases d with
  | loc n => rw [D.clean] at h; cases h
  | _ => rfl
theorem cl_reprR {c : RC} : ClD c (rRpr c) fReprR := fun g Z S H x v Q E sm rp q => by
  unfold fReprR at q
  split at q
  · rename_i y
    obtain ⟨u, rfl, r1⟩ := vals_one rp
    by_cases hc : (y.res S).clean = true
    · rw [if_pos hc] at q
      cases ep : (y.res S).pyr with
      | none => rw [ep] at q; exact q.elim
      | some p =>
        rw [ep] at q
        simp only at q
        by_cases hp : p.showable = true ∧ p.depth ≤ 60 ∧ p.shown.length ≤ 16777216
        · rw [if_pos hp] at q
          exact ⟨thaw H, [], fun _ => none, y.res S, u, p, rfl, thaw_sim, res_up sm hc r1, by rw [pyrS_of hc]; exact ep, hp.1, hp.2.1, sz hp.2.2, q g _ H (.refl g) sm rfl⟩
        · rw [if_neg hp] at q
          exact q.elim
    · rw [if_neg hc] at q
      exact q.elim
  · exact q.elim
end DL

end
section
/-! DL, part u: dicts read, written, copied, compared. -/
namespace DL
open PySem PySem.Spec PyProof.Rows L2

def keyOf : D → Option Key
  | .int i => some (.inl i)
  | .str s => some (.inr s)
  | _ => none
def keyD : Key → D
  | .inl i => .int i
  | .inr s => .str s
def dicOf (S : Sto) : D → Option (List Key × List D)
  | .dic ks vs => some (ks, vs)
  | .loc n => match S[n]? with
    | some (.dic ks vs) => some (ks, vs)
    | _ => none
  | _ => none
def valD : List Key → List D → Key → Option D
  | k :: ks, d :: ds, j => if k = j then some d else valD ks ds j
  | _, _, _ => none
def inKs (ks : List Key) (j : Key) : Bool := ks.any fun k => decide (k = j)
def replD : List Key → List D → Key → D → List D
  | k :: ks, d :: ds, j, x => (if k = j then x else d) :: replD ks ds j x
  | _, _, _, _ => []
def putKs (ks : List Key) (j : Key) : List Key := if inKs ks j = true then ks else ks ++ [j]
def putVs (ks : List Key) (ds : List D) (j : Key) (x : D) : List D := if inKs ks j = true then replD ks ds j x else ds ++ [x]
section
variable {c : RC} {g : Wd} {S : Sto} {Z H : Hp}
theorem valD_ok : ∀ {kvs : List (Key × V)} {ds : List D}, RepL c g ds (kvs.map (·.2)) → ∀ k, (valD (kvs.map (·.1)) ds k = none ∧ valV kvs k = none) ∨ ∃ d v, valD (kvs.map (·.1)) ds k = some d ∧ valV kvs k = some v ∧ Rep c g d v
  | [], ds, r, k => .inl ⟨by cases ds <;> rfl, rfl⟩
  | p :: kvs, [], r, k => by
    rw [List.map_cons, RepL] at r
    cases r
  | p :: kvs, d :: ds, r, k => by
    rw [List.map_cons, RepL] at r
    obtain ⟨v, w, e, r1, r2⟩ := r
    cases e
    by_cases h : p.1 = k
    · refine .inr ⟨d, p.2, ?_, valV_pos h, r1⟩
      rw [List.map_cons, valD, if_pos h]
    · rw [List.map_cons, valD, if_neg h, valV_neg h]
      exact valD_ok r2 k
theorem inKs_ok (kvs : List (Key × V)) (j : Key) : (kvs.any fun kv => decide (kv.1 = j)) = inKs (kvs.map (·.1)) j := by
  unfold inKs
  rw [List.any_map]
  rfl
theorem repl_ok : ∀ {kvs : List (Key × V)} {ds : List D} {j : Key} {x : D} {v : V}, RepL c g ds (kvs.map (·.2)) → Rep c g x v → RepL c g (replD (kvs.map (·.1)) ds j x) ((kvs.map fun kv => if kv.1 = j then (kv.1, v) else kv).map (·.2))
  | [], ds, j, x, v, r, rx => by
    have : replD (([] : List (Key × V)).map (·.1)) ds j x = [] := by cases ds <;> rfl
    rw [this]
    exact RepL.nil
  | p :: kvs, [], j, x, v, r, rx => by
    rw [List.map_cons, RepL] at r
    cases r
  | p :: kvs, d :: ds, j, x, v, r, rx => by
    rw [List.map_cons, RepL] at r
    obtain ⟨v', w, e, r1, r2⟩ := r
    cases e
    rw [List.map_cons, List.map_cons, List.map_cons, replD]
    refine RepL.cons ?_ (repl_ok r2 rx)
    by_cases h : p.1 = j
    · rw [if_pos h, if_pos h]
      exact rx
    · rw [if_neg h, if_neg h]
      exact r1
theorem put_keys (kvs : List (Key × V)) (j : Key) (v : V) : (putK kvs j v).map (·.1) = putKs (kvs.map (·.1)) j := by
  unfold putK putKs
  rw [inKs_ok]
  by_cases h : inKs (kvs.map (·.1)) j = true
  · rw [if_pos h, if_pos h, List.map_map]
    refine List.map_congr_left fun p _ => ?_
    show (if p.1 = j then (p.1, v) else p).1 = p.1
    split <;> rfl
  · rw [if_neg h, if_neg h, List.map_append]
    rfl
theorem put_ok {kvs : List (Key × V)} {ds : List D} {j : Key} {x : D} {v : V} (r : RepL c g ds (kvs.map (·.2))) (rx : Rep c g x v) : RepL c g (putVs (kvs.map (·.1)) ds j x) ((putK kvs j v).map (·.2)) := by
  unfold putK putVs
  rw [inKs_ok]
  by_cases h : inKs (kvs.map (·.1)) j = true
  · rw [if_pos h, if_pos h]
    exact repl_ok r rx
  · rw [if_neg h, if_neg h, List.map_append]
    exact r.app (RepL.cons rx RepL.nil)
theorem clean_repl : ∀ {ks : List Key} {ds : List D} {j : Key} {x : D}, D.cleanL ds = true → x.clean = true → D.cleanL (replD ks ds j x) = true
  | [], ds, _, _, _, _ => by cases ds <;> rfl
  | _ :: _, [], _, _, _, _ => rfl
  | k :: ks, d :: ds, j, x, h, hx => by
    rw [D.cleanL, Bool.and_eq_true] at h
    rw [replD, D.cleanL, Bool.and_eq_true]
    refine ⟨?_, clean_repl h.2 hx⟩
    split
    · exact hx
    · exact h.1
theorem clean_put {ks : List Key} {ds : List D} {j : Key} {x : D} (h : D.cleanL ds = true) (hx : x.clean = true) : D.cleanL (putVs ks ds j x) = true := by
  unfold putVs
  split
  · exact clean_repl h hx
  · exact cleanL_iff.mpr fun d hd => by
      rcases List.mem_append.mp hd with hd | hd
      · exact cleanL_iff.mp h d hd
      · rw [List.mem_singleton.mp hd]
        exact hx
theorem dicOf_ok (s : SimH c g S Z H) {d : D} {v : V} {ks : List Key} {ds : List D} (r : Rep c g d v) (e : dicOf S d = some (ks, ds)) : ∃ a kvs, v = .ref a ∧ Rd H a (.dK kvs) ∧ kvs.map (·.1) = ks ∧ RepL c g ds (kvs.map (·.2)) := by
  unfold dicOf at e
  split at e
  · cases e
    rw [Rep] at r
    obtain ⟨a, kvs, rfl, h, q, rs⟩ := r
    exact ⟨a, kvs, rfl, s.gk.rd h, q, rs⟩
  · rename_i n
    split at e
    · rename_i ks' vs' hx
      cases e
      rw [Rep] at r
      obtain ⟨a, rfl, ea⟩ := r
      obtain ⟨_, _, hc, kvs, hH, q, rs⟩ := s.cell n a _ ea hx
      exact ⟨a, kvs, rfl, .inl hH, q, rs⟩
    · cases e
  · cases e
theorem keyOf_ok {d : D} {v : V} {k : Key} (r : Rep c g d v) (e : keyOf d = some k) : v = kV k := by
  unfold keyOf at e
  split at e
  · cases e
    rw [Rep] at r
    exact r
  · cases e
    rw [Rep] at r
    exact r
  · cases e
theorem keyD_ok (k : Key) : Rep c g (keyD k) (kV k) := by
  cases k <;> (rw [keyD, Rep]; rfl)
theorem keysD_ok : ∀ ks : List Key, RepL c g (ks.map keyD) (ks.map kV)
  | [] => RepL.nil
  | k :: ks => RepL.cons (keyD_ok k) (keysD_ok ks)
end
/-! ### the mirrors -/
def fGetD (x y : D) (S : Sto) : R D := match dicOf S x, keyOf y with
  | some (ks, ds), some k => (match valD ks ds k with
    | some d => .ok d S
    | none => .bad)
  | _, _ => .bad
def fInD (neg : Bool) (x y : D) (S : Sto) : R D := match keyOf x, dicOf S y with
  | some k, some (ks, ds) => .ok (.bl (if neg then !(valD ks ds k).isSome else (valD ks ds k).isSome)) S
  | _, _ => .bad
def sPut (mv mo mi : ME) : MS := fun δ S => (mv δ S).flow δ fun v S1 => (mo δ S1).flow δ fun o S2 => (mi δ S2).flow δ fun i S3 => match o, keyOf i with
  | .loc n, some k => (match S3[n]? with
    | some (.dic ks ds) => if ds.length < 16777216 ∧ v.clean = true then .nx δ (S3.set n (.dic (putKs ks k) (putVs ks ds k v))) else .bad
    | _ => .bad)
  | _, _ => .bad
/-- dict(d): a new cell -/
def fDicC (xs : List D) (S : Sto) : R D := match xs with
  | [x] => (match dicOf S x with
    | some (ks, ds) => if D.cleanL ds = true then .ok (.loc S.length) (S ++ [.dic ks ds]) else .bad
    | none => .bad)
  | _ => .bad
/-- list(d): its keys -/
def fKeysL (xs : List D) (S : Sto) : R D := match xs with
  | [x] => (match dicOf S x with
    | some (ks, _) => .ok (.lst (ks.map keyD)) S
    | none => .bad)
  | _ => .bad
def fDic0C (_ : List D) (S : Sto) : R D := .ok (.loc S.length) (S ++ [.dic [] []])
def fDic1C (k : Str) (x : D) (S : Sto) : R D := if x.clean = true then .ok (.loc S.length) (S ++ [.dic [.inr k] [x]]) else .bad
/-- rows compared -/
def eqRows (ls : List Key) (ws : List D) : List Key → List D → Option Bool
  | [], [] => some true
  | k :: ks, d :: ds => match valD ls ws k with
    | none => some false
    | some e => match d.py, e.py with
      | some p, some q => if SeqAt.shaped p = true ∧ SeqAt.shaped q = true then (eqRows ls ws ks ds).map fun b => PyData.eqv p q && b else none
      | _, _ => none
  | _, _ => none
def eqDic (x y : D) : Option Bool := match x, y with
  | .non, .non => some true
  | .non, .dic _ _ => some false
  | .dic _ _, .non => some false
  | .dic ks ds, .dic ls ws => if ks.length = ls.length then eqRows ls ws ks ds else some false
  | _, _ => none
def fEqN (neg : Bool) (x y : D) (S : Sto) : R D := if (x.res S).clean = true ∧ (y.res S).clean = true then (match eqDic (x.res S) (y.res S) with
  | some b => .ok (.bl (if neg then !b else b)) S
  | none => .bad) else .bad
section
variable {X : Cx} {c : RC} {W : WX} {k : Nat} {a b o i e value : Expr} {ma mb mo mi mv m : ME} {pos pos' p1 p2 : Pos}
theorem ce_dget (cf : Cf k X c) (ha : CE X c W a ma) (hb : CE X c W b mb) (hs : NoSl b := by exact fun _ _ => rfl) : CE X c W (.Subscript a b pos) (mBin fGetD ma mb) :=
  weakE (pe_dget (hu_of cf.hr) ha hb hs) fun σ H Q ⟨g, Z, δ, S, s, sl, q⟩ => ⟨g, Z, δ, S, s, sl, Post.bind q fun x S1 g1 v H1 _ le1 s1 r1 q1 => ⟨g1, Z, δ, S1, s1, sl.up le1, Post.bind q1 fun y S2 g2 w H2 _ le2 s2 r2 q2 => by
    unfold fGetD at q2
    split at q2
    · rename_i ks ds kk e1 e2
      obtain ⟨ad, kvs, rfl, hr, rfl, rs⟩ := dicOf_ok s2 (Rep.up le2 r1) e1
      obtain rfl := keyOf_ok r2 e2
      rcases valD_ok rs kk with ⟨h1, h2⟩ | ⟨d, v, h1, h2, r⟩
      · rw [h1] at q2
        exact q2.elim
      · rw [h1] at q2
        exact ⟨ad, v, rfl, .inl ⟨kvs, kk, hr, rfl, h2.symm⟩, q2 g2 v H2 (.refl g2) s2 r⟩
    · exact q2.elim⟩⟩
def rDin (neg : Bool) : R2 := fun x y H Q => ∃ ad o, y = .ref ad ∧ DGet H ad x o ∧ Q (.bl (if neg then !o.isSome else o.isSome)) H
theorem or_dinF (hu : X.A.units + 1 < cLine) : OpR X (compareOp .In) (rDin false) := by
  intro pins s σ H x y v u Q I rx ry h
  obtain ⟨ad, o, rfl, dg, q⟩ := h
  obtain rfl : u = Value.ref ad := ry
  exact d_in hu I dg rx fun s' I' => ⟨.bl _, H, I', rfl, q⟩
theorem or_dinT (hu : X.A.units + 1 < cLine) : OpR X (compareOp .NotIn) (rDin true) := by
  intro pins s σ H x y v u Q I rx ry h
  obtain ⟨ad, o, rfl, dg, q⟩ := h
  obtain rfl : u = Value.ref ad := ry
  exact d_notIn hu I dg rx fun s' I' => ⟨.bl _, H, I', rfl, q⟩
theorem or_din (cf : Cf k X c) : OpR X (compareOp .In) (rDin false) := or_dinF (hu_of cf.hr)
theorem or_dnin (cf : Cf k X c) : OpR X (compareOp .NotIn) (rDin true) := or_dinT (hu_of cf.hr)
theorem od_din (neg : Bool) : OpD c (rDin neg) (fInD neg) := by
  intro g Z S H x y v w Q E s rx ry q
  unfold fInD at q
  split at q
  · rename_i kk ks ds e1 e2
    obtain ⟨ad, kvs, rfl, hr, rfl, rs⟩ := dicOf_ok s ry e2
    obtain rfl := keyOf_ok rx e1
    rcases valD_ok rs kk with ⟨h1, h2⟩ | ⟨d, v, h1, h2, r⟩
    · rw [h1] at q
      exact ⟨ad, none, rfl, .inl ⟨kvs, kk, hr, rfl, h2.symm⟩, q g _ H (.refl g) s rfl⟩
    · rw [h1] at q
      exact ⟨ad, some v, rfl, .inl ⟨kvs, kk, hr, rfl, h2.symm⟩, q g _ H (.refl g) s rfl⟩
  · exact q.elim
theorem cs_put (cf : Cf k X c) (hv : CE X c W value mv) (ho : CE X c W o mo) (hi : CE X c W i mi) (hs : swapsWith value (some (.Subscript o i pos')) pos.line X.env = pure false := by rfl) : CS X c W (.Assign [.Subscript o i pos'] value pos) (sPut mv mo mi) :=
  weakS (ps_dput (hu_of cf.hr) ho hi hv hs) fun Dn σ H ⟨g, Z, δ, S, s, sl, q⟩ => ⟨g, Z, δ, S, s, sl, Post.flow sl q fun v S1 g1 vv H1 le1 s1 r1 q1 => ⟨g1, Z, δ, S1, s1, sl.up le1, Post.flow (sl.up le1) q1 fun ov S2 g2 ov' H2 le2 s2 r2 q2 =>
    ⟨g2, Z, δ, S2, s2, (sl.up le1).up le2, Post.flow ((sl.up le1).up le2) q2 fun iv S3 g3 iv' H3 le3 s3 r3 q3 => by
      split at q3
      · rename_i n kk ek
        split at q3
        · rename_i ks ds hx
          split at q3
          · rename_i hc
            have r2' := Rep.up le3 r2
            rw [Rep] at r2'
            obtain ⟨ad, rfl, ha⟩ := r2'
            obtain ⟨_, _, hcl, kvs, hH, rfl, rs⟩ := s3.cell n ad _ ha hx
            obtain rfl := keyOf_ok r3 ek
            have hn : n < S3.length := (List.getElem?_eq_some_iff.mp hx).1
            have hl : kvs.length < sizeLine := by
              have := rs.length
              rw [List.length_map] at this
              rw [sizeLine_eq, this]
              exact hc.1
            refine ⟨ad, upd H3 ad (.dK (putK kvs kk vv)), rfl, .inl ⟨kvs, kk, hH, rfl, hl, rfl⟩, ?_⟩
            exact q3 g3 _ _ (.refl g3) (s3.write ha hx ⟨clean_put hcl hc.2, _, upd_same, put_keys kvs kk vv, put_ok rs (Rep.up le3 (Rep.up le2 r1))⟩) (((sl.up le1).up le2).up le3)
          · exact q3.elim
        · exact q3.elim
      · exact q3.elim⟩⟩⟩
theorem dic_newC {g : Wd} {S : Sto} {Z H : Hp} (s : SimH c g S Z H) {kvs : List (Key × V)} {ds : List D} (r : RepL c g ds (kvs.map (·.2))) (hc : D.cleanL ds = true) {p : Addr} (hp : H p = none) {Q : VK} {E : XK} (q : Post c (Rep c) g Z (.ok (.loc S.length) (S ++ [.dic (kvs.map (·.1)) ds])) Q E) : Q (.ref p) (upd H p (.dK kvs)) := by
  have le0 : g.le ⟨g.G, g.ι ++ [p]⟩ := ⟨fun _ _ e => e, ⟨[p], rfl⟩⟩
  obtain ⟨le, s'⟩ := s.newCell (o := .dK kvs) (u := .dic (kvs.map (·.1)) ds) hp ⟨hc, kvs, upd_same, rfl, RepL.up le0 r⟩
  refine q _ _ _ le s' ?_
  rw [Rep]
  exact ⟨p, rfl, by rw [← s.len]; simp⟩
def rDcp : List V → Hp → VK → Prop := fun xs H Q => ∃ (a : Addr) (kvs : List (Key × V)), xs = [.ref a] ∧ Rd H a (.dK kvs) ∧ ∀ p, H p = none → Q (.ref p) (upd H p (.dK kvs))
theorem cr_dict : CallR X (.type "dict") rDcp := call_dictD
theorem cl_dicC : ClD c rDcp fDicC := fun g Z S H x v Q E sm rp q => by
  unfold fDicC at q
  split at q
  · rename_i y
    obtain ⟨u, rfl, r1⟩ := vals_one rp
    split at q
    · rename_i ks ds e1
      split at q
      · rename_i hc
        obtain ⟨ad, kvs, rfl, hr, rfl, rs⟩ := dicOf_ok sm r1 e1
        exact ⟨ad, kvs, rfl, hr, fun p hp => dic_newC sm rs hc hp q⟩
      · exact q.elim
    · exact q.elim
  · exact q.elim
def rDks : List V → Hp → VK → Prop := fun xs H Q => ∃ (a : Addr) (kvs : List (Key × V)), xs = [.ref a] ∧ Rd H a (.dK kvs) ∧ ∀ p, H p = none → Q (.ref p) (upd H p (.lst (kvs.map fun kv => kV kv.1)))
theorem cr_keys (cf : Cf k X c) : CallR X (.type "list") rDks := call_listD cf.calm
theorem cl_keys : ClD c rDks fKeysL := fun g Z S H x v Q E sm rp q => by
  unfold fKeysL at q
  split at q
  · rename_i y
    obtain ⟨u, rfl, r1⟩ := vals_one rp
    split at q
    · rename_i ks ds e1
      obtain ⟨ad, kvs, rfl, hr, rfl, rs⟩ := dicOf_ok sm r1 e1
      refine ⟨ad, kvs, rfl, hr, fun p hp => ?_⟩
      have rk : RepL c g ((kvs.map (·.1)).map keyD) (kvs.map fun kv => kV kv.1) := by
        have := keysD_ok (c := c) (g := g) (kvs.map (·.1))
        rwa [List.map_map (g := kV)] at this
      exact lst_new sm rk hp q
    · exact q.elim
  · exact q.elim
theorem ce_dic0C : CE X c W (.Dict [] [] pos) (mCall fDic0C mNil) := weakE pe_dnewK fun σ H Q ⟨g, Z, δ, S, s, sl, q⟩ p hp => dic_newC (kvs := []) s RepL.nil rfl hp q
theorem SimH.settleK {g : Wd} {S : Sto} {Z H : Hp} {p : Addr} {kvs : List (Key × V)} {ds : List D} (s : SimH c g S (upd Z p (.dK kvs)) H) (hz : Z p = none) (r : RepL c g ds (kvs.map (·.2))) (hc : D.cleanL ds = true) :
    g.le ⟨g.G, g.ι ++ [p]⟩ ∧ SimH c ⟨g.G, g.ι ++ [p]⟩ (S ++ [.dic (kvs.map (·.1)) ds]) Z H := by
  have hg : g.G p = none := s.zg p _ upd_same
  have hH : H p = some (.dK kvs) := s.zk p _ upd_same
  have u := s.unframe hz
  have le : g.le ⟨g.G, g.ι ++ [p]⟩ := ⟨fun _ _ e => e, ⟨[p], rfl⟩⟩
  have np : p ∉ g.ι := fun h => by
    obtain ⟨n, o, e1, e2⟩ := s.mem_cell h
    have := (s.cell n p o e1 e2).2.1
    rw [upd_same] at this
    cases this
  refine ⟨le, u.gk, u.zk, u.zg, by simp [u.len], ?_, fun n b x e1 e2 => ?_⟩
  · rw [List.nodup_append]
    exact ⟨u.nd, by simp, fun a ha b hb => by simp at hb; subst hb; exact fun q => np (q ▸ ha)⟩
  · by_cases hn : n < S.length
    · have hn' : n < g.ι.length := u.len ▸ hn
      have e1' : g.ι[n]? = some b := by
        have : (g.ι ++ [p])[n]? = some b := e1
        rwa [List.getElem?_append_left hn'] at this
      rw [List.getElem?_append_left hn] at e2
      obtain ⟨h1, h2, h3⟩ := u.cell n b x e1' e2
      exact ⟨h1, h2, h3.up le⟩
    · have e0 : n = S.length := by
        have h2 := (List.getElem?_eq_some_iff.mp e2).1
        simp at h2
        omega
      subst e0
      have e1' : (g.ι ++ [p])[S.length]? = some b := e1
      rw [← u.len] at e1'
      simp at e1' e2
      subst e1' e2
      exact ⟨fun _ => hg, hz, hc, kvs, hH, rfl, RepL.up le r⟩
theorem ce_dic1C {kk : Str} {j} (he : CE X c W e m) : CE X c W (.Dict [some (.Constant (.str kk) j p1)] [e] pos) (mUn (fDic1C kk) m) := by
  refine weakE (pe_disp (pps_cons (pe_str (x := kk)) he pps_nil) rfl rfl (by simp) (by simp)) fun σ H Q ⟨g, Z, δ, S, s, sl, q⟩ p hp => ?_
  have hz := s.zk.gone hp
  have s1 := s.frame hp (.dK [])
  show eM c W m σ (upd H p (.dK [])) _
  refine ⟨g, upd Z p (.dK []), δ, S, s1, sl, ?_⟩
  have q' : Post c (Rep c) g Z ((m δ S).bind fun x S1 => fDic1C kk x S1) Q (fun cls d H' => W cls d σ H') := q
  cases em : m δ S with
  | ok x S1 =>
    rw [em] at q'
    intro g' v H2 le s2 r2
    have hH2 : H2 p = some (.dK []) := s2.zk p _ upd_same
    refine ⟨hH2, [(.inr kk, v)], rfl, by simp, ?_⟩
    have q2 : Post c (Rep c) g Z (fDic1C kk x S1) Q (fun cls d H' => W cls d σ H') := q'
    unfold fDic1C at q2
    by_cases hc : x.clean = true
    · rw [if_pos hc] at q2
      have rs : RepL c g' [x] (([(Sum.inr kk, v)] : List (Key × V)).map (·.2)) := RepL.cons r2 RepL.nil
      obtain ⟨le3, s3⟩ := (s2.reframe (o' := .dK [(.inr kk, v)])).settleK hz rs (by simp [D.cleanL, hc])
      refine q2 _ _ _ (le.trans le3) s3 ?_
      rw [Rep]
      refine ⟨p, rfl, ?_⟩
      have hl : S1.length = g'.ι.length := s2.len.symm
      show (g'.ι ++ [p])[S1.length]? = some p
      rw [hl]
      simp
    · rw [if_neg hc] at q2
      exact q2.elim
  | exc k' vs S1 =>
    rw [em] at q'
    exact fun g' dd H2 le s2 x => q' g' dd H2 le (s2.unframe hz) (x.unframe hz)
  | bad =>
    rw [em] at q'
    exact q'.elim
end
end DL

end
section
/-! DL, part v: None and dicts compared; a fresh cell or None handed back. -/
namespace DL
open PySem PySem.Spec PyProof.Rows L2
open PySem.SeqAt
section
variable {prog : Program} {w : World} {A : Around} {E : Value → Shared → Prop} {s : Shared}
theorem dict_eq_none {a : Addr} (da : s.TypeIs (.ref a) "dict") {Q : Value → Shared → Prop} (h : Q .notImplemented s) : wpAny (model prog w) A (call (.builtin "dict.__eq__") [.ref a, .none]) Q E s := by
  refine wpAny_call_entry PySem.F.slot_dict_eq da PySem.F.entry_dict_eq ?_ (PySem.F.args_dict_eq_2 _ _)
  show wpAny _ _ (Builtin.Dict.dictSlotArgs "__eq__" ⟨[.ref a, .none], []⟩ >>= _) _ _ s
  refine wpAny_bind ?_
  unfold Builtin.Dict.dictSlotArgs
  refine wpAny_bind (wpAny_notOrdered_dict da ?_)
  show wpAny _ _ (pure (Value.ref a, Value.none)) _ _ s
  refine wpAny_pure ?_
  refine wpAny_bind (wpAny_isInstance (T := "NoneType") rfl PySem.F.sub_NoneType_dict ?_)
  simp only [Bool.not_false, if_true]
  exact wpAny_bind (wpAny_rule (wpAny_bind (wpAny_pure (wpAny_pure ⟨_, rfl, h⟩))))
theorem dict_ne_none {a : Addr} (da : s.TypeIs (.ref a) "dict") {Q : Value → Shared → Prop} (h : Q .notImplemented s) : wpAny (model prog w) A (call (.builtin "dict.__ne__") [.ref a, .none]) Q E s := by
  refine wpAny_call_entry PySem.F.slot_dict_ne da PySem.F.entry_dict_ne ?_ (PySem.F.args_dict_ne_2 _ _)
  show wpAny _ _ (Builtin.Dict.dictSlotArgs "__ne__" ⟨[.ref a, .none], []⟩ >>= _) _ _ s
  refine wpAny_bind ?_
  unfold Builtin.Dict.dictSlotArgs
  refine wpAny_bind (wpAny_notOrdered_dict da ?_)
  show wpAny _ _ (pure (Value.ref a, Value.none)) _ _ s
  refine wpAny_pure ?_
  refine wpAny_bind (wpAny_isInstance (T := "NoneType") rfl PySem.F.sub_NoneType_dict ?_)
  simp only [Bool.not_false, if_true]
  exact wpAny_bind (wpAny_rule (wpAny_bind (wpAny_pure (wpAny_pure ⟨_, rfl, h⟩))))
theorem rc_dn {a : Addr} (da : s.TypeIs (.ref a) "dict") (hu : A.units < cLine) {Q : Value → Shared → Prop} (h : Q (.bool false) s) : wpAny (model prog w) A (richCompare .Eq (.ref a) .none) Q E s :=
  rc_eq_decline_or (k := false) da rfl (by decide) PySem.F.sub_NoneType_dict PySem.F.slot_dict_eq PySem.F.slot_NoneType_eq_refl (fun _ hq => dict_eq_none da hq)
    (fun _ hq => call_gives PySem.F.slot_NoneType_eq_refl rfl PySem.F.entry_NoneType_eq (PySem.F.args_NoneType_eq_2 _ _) (NoneType___eq___none_ref_0 a) hq) (fun _ hq => wpAny_of_eq (rfl : isSame (.ref a) .none = pure false) hq) (.inr hu) h
theorem rc_nd {a : Addr} (da : s.TypeIs (.ref a) "dict") (hu : A.units < cLine) {Q : Value → Shared → Prop} (h : Q (.bool false) s) : wpAny (model prog w) A (richCompare .Eq .none (.ref a)) Q E s :=
  rc_eq_decline_or (k := false) rfl da (by decide) PySem.F.sub_dict_NoneType PySem.F.slot_NoneType_eq PySem.F.slot_dict_eq_refl
    (fun _ hq => call_gives PySem.F.slot_NoneType_eq rfl PySem.F.entry_NoneType_eq (PySem.F.args_NoneType_eq_2 _ _) (NoneType___eq___none_ref_0 a) hq) (fun _ hq => dict_eq_none da hq) (fun _ hq => wpAny_of_eq (rfl : isSame .none (.ref a) = pure false) hq) (.inr hu) h
theorem rcn_dn {a : Addr} (da : s.TypeIs (.ref a) "dict") (hu : A.units < cLine) {Q : Value → Shared → Prop} (h : Q (.bool true) s) : wpAny (model prog w) A (richCompare .NotEq (.ref a) .none) Q E s :=
  rc_ne_decline_or (k := false) da rfl (by decide) PySem.F.sub_NoneType_dict PySem.F.slot_dict_ne PySem.F.slot_NoneType_ne_refl (fun _ hq => dict_ne_none da hq)
    (fun _ hq => call_gives PySem.F.slot_NoneType_ne_refl rfl PySem.F.entry_NoneType_ne (PySem.F.args_NoneType_ne_2 _ _) (NoneType___ne___none_ref_0 a) hq) (fun _ hq => wpAny_of_eq (rfl : isSame (.ref a) .none = pure false) hq) (.inr hu) h
theorem rcn_nd {a : Addr} (da : s.TypeIs (.ref a) "dict") (hu : A.units < cLine) {Q : Value → Shared → Prop} (h : Q (.bool true) s) : wpAny (model prog w) A (richCompare .NotEq .none (.ref a)) Q E s :=
  rc_ne_decline_or (k := false) rfl da (by decide) PySem.F.sub_dict_NoneType PySem.F.slot_NoneType_ne PySem.F.slot_dict_ne_refl
    (fun _ hq => call_gives PySem.F.slot_NoneType_ne rfl PySem.F.entry_NoneType_ne (PySem.F.args_NoneType_ne_2 _ _) (NoneType___ne___none_ref_0 a) hq) (fun _ hq => dict_ne_none da hq) (fun _ hq => wpAny_of_eq (rfl : isSame .none (.ref a) = pure false) hq) (.inr hu) h
end
section
variable {X : Cx} {c : RC} {pins : List (Addr × Obj)} {σ : L2.St} {H : Hp} {s : Shared}
theorem rows_ok (I : Inv X pins σ H s) (hK : c.K = X.K) (hu : X.A.in1.units + 64 < cLine) {lvs : List (Key × V)} {vb : List (Key × Value)} (rb : KV lvs vb) {ws : List D} (rl : RepL c (thaw H) ws (lvs.map (·.2))) :
    ∀ {kvs : List (Key × V)} {va : List (Key × Value)}, KV kvs va → ∀ {ds : List D} {b : Bool}, RepL c (thaw H) ds (kvs.map (·.2)) → eqRows (lvs.map (·.1)) ws (kvs.map (·.1)) ds = some b → PySem.W.KeqHits X.A.in1 s vb va b := by
  intro kvs va ra
  unfold KV at ra
  induction ra with
  | nil =>
    intro ds b r e
    obtain rfl : ds = [] := List.eq_nil_of_length_eq_zero r.length.symm
    cases e
    exact .nil
  | @cons p q ps qs h t ih =>
    intro ds b r e
    obtain ⟨h1, h2⟩ := h
    cases ds with
    | nil =>
      rw [List.map_cons, RepL] at r
      cases r
    | cons d ds =>
      rw [List.map_cons, RepL] at r
      obtain ⟨v, w, ev, r1, r2⟩ := r
      cases ev
      obtain ⟨k, u⟩ := q
      have h1' : p.1 = k := h1
      have rv := rb.val p.1
      rw [List.map_cons, eqRows] at e
      rcases valD_ok rl p.1 with ⟨e1, e2⟩ | ⟨d', v', e1, e2, r'⟩
      · rw [e1] at e
        cases e
        rw [e2] at rv
        rw [h1'] at rv
        cases hv : valueAt vb k with
        | none => exact .miss hv
        | some y => rw [hv] at rv; exact rv.elim
      · rw [e1] at e
        simp only at e
        rw [e2, h1'] at rv
        cases hv : valueAt vb k with
        | none => rw [hv] at rv; exact rv.elim
        | some y =>
          rw [hv] at rv
          cases ep : d.py with
          | none => rw [ep] at e; cases e
          | some p1 =>
            cases eq : d'.py with
            | none => rw [ep, eq] at e; cases e
            | some q1 =>
              rw [ep, eq] at e
              simp only at e
              by_cases hs : SeqAt.shaped p1 = true ∧ SeqAt.shaped q1 = true
              · rw [if_pos hs] at e
                cases er : eqRows (lvs.map (·.1)) ws (ps.map (·.1)) ds with
                | none => rw [er] at e; cases e
                | some b' =>
                  rw [er] at e
                  cases e
                  have D1 := py_ok (c := c) (thaw_sim (H := H)) r1 ep
                  have D2 := py_ok (c := c) (thaw_sim (H := H)) r' eq
                  rw [hK] at D1 D2
                  obtain ⟨as, R1⟩ := Dp.reads I p1 p.2 u D1 h2
                  obtain ⟨bs, R2⟩ := Dp.reads I q1 v' y D2 rv
                  exact .hit hv (SeqAt.eqAt_reads p1 q1 X.A.in1 s u y as bs R1 R2 (SeqAt.canLay_of_shaped hs.1) (SeqAt.canLay_of_shaped hs.2) (SeqAt.room_of_shaped hs.1 hu)) (ih r2 er)
              · rw [if_neg hs] at e
                cases e
def rEqN (c : RC) (neg : Bool) : R2 := fun x y H Q => ∃ (dx dy : D) (b : Bool), Rep c (thaw H) dx x ∧ Rep c (thaw H) dy y ∧ eqDic dx dy = some b ∧ Q (.bl (if neg then !b else b)) H
theorem dic_type (I : Inv X pins σ H s) {a : Addr} {kvs : List (Key × V)} (h : Rd H a (.dK kvs)) : s.TypeIs (.ref a) "dict" := by
  obtain ⟨_, _, vs, _, dd⟩ := dk_rd I.hok h
  exact dd.typeIs
end
section
variable {X : Cx} {c : RC} {k : Nat}
theorem or_eqN (cf : Cf (k + 1) X c) : OpR X (compareOp .Eq) (rEqN c false) := by
  intro pins s σ H x y v u Q I rx ry h
  obtain ⟨dx, dy, b, r1, r2, e, q⟩ := h
  have hu : X.A.units < cLine := cf.hr.units0
  have hu1 : X.A.in1.units + 64 < cLine := cf.hr.in1.units
  unfold eqDic at e
  split at e
  · cases e
    rw [Rep] at r1
    rw [Rep] at r2
    subst r1 r2
    exact op_eq pins s σ H .non .non v u Q I rx ry ⟨rfl, q⟩
  · cases e
    rw [Rep] at r1
    rw [Rep] at r2
    obtain ⟨ad, kvs, rfl, hr, _, _⟩ := r2
    subst r1
    obtain rfl : v = Value.none := rx
    obtain rfl : u = Value.ref ad := ry
    exact PySem.W.cmp_ofEq (rc_nd (dic_type I hr) hu ⟨.bl _, H, I, rfl, q⟩)
  · cases e
    rw [Rep] at r1
    rw [Rep] at r2
    obtain ⟨ad, kvs, rfl, hr, _, _⟩ := r1
    subst r2
    obtain rfl : v = Value.ref ad := rx
    obtain rfl : u = Value.none := ry
    exact PySem.W.cmp_ofEq (rc_dn (dic_type I hr) hu ⟨.bl _, H, I, rfl, q⟩)
  · rename_i ks ds ls ws
    rw [Rep] at r1
    rw [Rep] at r2
    obtain ⟨ad, kvs, rfl, hr, rfl, rs⟩ := r1
    obtain ⟨bd, lvs, rfl, hr2, rfl, rs2⟩ := r2
    obtain rfl : v = Value.ref ad := rx
    obtain rfl : u = Value.ref bd := ry
    obtain ⟨_, ya, va, ra, da⟩ := dk_rd I.hok hr
    obtain ⟨_, yb, vb, rb, db⟩ := dk_rd I.hok hr2
    have la := ra.length
    have lb := rb.length
    rw [List.length_map, List.length_map] at e
    by_cases hl : kvs.length = lvs.length
    · rw [if_pos hl] at e
      refine PySem.W.keq_eq (knd := mixKind X.prog X.w) (r := b) ya yb da db hu (fun _ => rows_ok I cf.kk hu1 rb rs2 ra rs e) ⟨.bl b, H, I, ?_, q⟩
      have : (va.length == vb.length) = true := by rw [← la, ← lb, hl]; exact beq_self_eq_true _
      rw [this]
      exact rfl
    · rw [if_neg hl] at e
      cases e
      refine PySem.W.keq_eq (knd := mixKind X.prog X.w) (r := false) ya yb da db hu (fun h => absurd (la.trans (h.trans lb.symm)) hl) ⟨.bl false, H, I, ?_, q⟩
      have : (va.length == vb.length && false) = false := Bool.and_false _
      rw [this]
      exact rfl
  · cases e
theorem or_neN (cf : Cf (k + 1) X c) : OpR X (compareOp .NotEq) (rEqN c true) := by
  intro pins s σ H x y v u Q I rx ry h
  obtain ⟨dx, dy, b, r1, r2, e, q⟩ := h
  have hu : X.A.units < cLine := cf.hr.units0
  have hu1 : X.A.in1.units + 64 < cLine := cf.hr.in1.units
  unfold eqDic at e
  split at e
  · cases e
    rw [Rep] at r1
    rw [Rep] at r2
    subst r1 r2
    exact op_ne pins s σ H .non .non v u Q I rx ry ⟨rfl, q⟩
  · cases e
    rw [Rep] at r1
    rw [Rep] at r2
    obtain ⟨ad, kvs, rfl, hr, _, _⟩ := r2
    subst r1
    obtain rfl : v = Value.none := rx
    obtain rfl : u = Value.ref ad := ry
    exact PySem.W.cmp_ofNotEq (rcn_nd (dic_type I hr) hu ⟨.bl _, H, I, rfl, q⟩)
  · cases e
    rw [Rep] at r1
    rw [Rep] at r2
    obtain ⟨ad, kvs, rfl, hr, _, _⟩ := r1
    subst r2
    obtain rfl : v = Value.ref ad := rx
    obtain rfl : u = Value.none := ry
    exact PySem.W.cmp_ofNotEq (rcn_dn (dic_type I hr) hu ⟨.bl _, H, I, rfl, q⟩)
  · rename_i ks ds ls ws
    rw [Rep] at r1
    rw [Rep] at r2
    obtain ⟨ad, kvs, rfl, hr, rfl, rs⟩ := r1
    obtain ⟨bd, lvs, rfl, hr2, rfl, rs2⟩ := r2
    obtain rfl : v = Value.ref ad := rx
    obtain rfl : u = Value.ref bd := ry
    obtain ⟨_, ya, va, ra, da⟩ := dk_rd I.hok hr
    obtain ⟨_, yb, vb, rb, db⟩ := dk_rd I.hok hr2
    have la := ra.length
    have lb := rb.length
    rw [List.length_map, List.length_map] at e
    by_cases hl : kvs.length = lvs.length
    · rw [if_pos hl] at e
      refine PySem.W.keq_ne (knd := mixKind X.prog X.w) (r := b) ya yb da db hu (fun _ => rows_ok I cf.kk hu1 rb rs2 ra rs e) ⟨.bl (!b), H, I, ?_, q⟩
      have : (va.length == vb.length) = true := by rw [← la, ← lb, hl]; exact beq_self_eq_true _
      rw [this]
      exact rfl
    · rw [if_neg hl] at e
      cases e
      refine PySem.W.keq_ne (knd := mixKind X.prog X.w) (r := false) ya yb da db hu (fun h => absurd (la.trans (h.trans lb.symm)) hl) ⟨.bl true, H, I, ?_, q⟩
      have : (va.length == vb.length && false) = false := Bool.and_false _
      rw [this]
      exact rfl
  · cases e
theorem od_eqN (neg : Bool) : OpD c (rEqN c neg) (fEqN neg) := by
  intro g Z S H x y v w Q E s rx ry q
  unfold fEqN at q
  split at q
  · rename_i hc
    split at q
    · rename_i b e
      exact ⟨x.res S, y.res S, b, res_up s hc.1 rx, res_up s hc.2 ry, e, q g _ H (.refl g) s rfl⟩
    · exact q.elim
  · exact q.elim
end
/-! ### a fresh cell, or a tree -/
def finN (n0 : Nat) (d : D) (S : Sto) : R D := match d with
  | .loc n => if n0 ≤ S.length then (if n < n0 then .bad else (match S[n]? with
    | some o => .ok (.loc n0) (S.take n0 ++ [o])
    | none => .bad)) else .bad
  | d => finD n0 d S
section
variable {c : RC} {g : Wd} {S S' : Sto} {Z : Hp}
theorem fin_new {d : D} {Q : VK} {E : XK} (hlen : g.ι.length = S.length) (q : Post c (Rep c) g Z (finN S.length d S') Q E) : ∀ g' v H, g.le g' → SimH c g' S' Z H → Rep c g' d v → Q v H := by
  cases d with
  | loc n =>
    intro g' v H le s r
    unfold finN at q
    simp only at q
    split at q
    · rename_i hS
      obtain ⟨le1, s1⟩ := s.cut le hlen hS
      split at q
      · exact q.elim
      · rename_i hn
        split at q
        · rename_i o hx
          rw [Rep] at r
          obtain ⟨a, rfl, e⟩ := r
          obtain ⟨h1, h2, hc⟩ := s.cell n a _ e hx
          have na : a ∉ g.ι := fun h => by
            obtain ⟨m, hm, em⟩ := List.getElem_of_mem h
            have e2 : g'.ι[m]? = some a := pre_get le.i (by simp [hm, em])
            have := nodup_at s.nd e e2
            omega
          have hl : S.length ≤ S'.length := hS
          have lt : (S'.take S.length).length = g.ι.length := by rw [List.length_take, hlen]; omega
          refine q ⟨g'.G, g.ι ++ [a]⟩ _ H ⟨le.g, ⟨[a], rfl⟩⟩ ⟨s1.gk, s1.zk, s1.zg, by simp [lt], ?_, fun m b o' e1 e2 => ?_⟩ ?_
          · rw [List.nodup_append]
            exact ⟨s1.nd, by simp, fun x hx y hy => by simp at hy; subst hy; exact fun z => na (z ▸ hx)⟩
          · by_cases hm : m < g.ι.length
            · have e1' : g.ι[m]? = some b := by
                have : (g.ι ++ [a])[m]? = some b := e1
                rwa [List.getElem?_append_left hm] at this
              rw [List.getElem?_append_left (by rw [lt]; exact hm)] at e2
              obtain ⟨k1, k2, k3⟩ := s1.cell m b o' e1' e2
              exact ⟨k1, k2, CellRep.clean (ι := g.ι) k3⟩
            · have e0 : m = g.ι.length := by
                have := (List.getElem?_eq_some_iff.mp e1).1
                simp at this
                omega
              subst e0
              have e1' : (g.ι ++ [a])[g.ι.length]? = some b := e1
              simp at e1'
              rw [← lt] at e2
              simp at e2
              subst e1' e2
              exact ⟨h1, h2, CellRep.clean (ι := g'.ι) hc⟩
          · rw [Rep]
            refine ⟨a, rfl, ?_⟩
            show (g.ι ++ [a])[S.length]? = some a
            rw [← hlen]
            simp
        · exact q.elim
    · exact q.elim
  | _ => exact fin_keep hlen q
end
end DL

end
section
/-! DL, part w: own special methods: instances called, len, truth, in, ==. -/
namespace DL
open PySem PySem.Spec PyProof.Rows L2
structure DunM (P : Program) (w : World) (K : PySem.W.Frag) (mg : Str → Option Value) (base : Heap) (c : RC) (j k : Nat) (m : Str) (n : Nat) (fm : MF) : Prop where
  ex : ∃ f fd ps, PySem.W.findIn K (.ref (c.cl k)) m = some (some (.ref f)) ∧ PySem.W.isFn K (.ref f) = true ∧ PySem.W.fnIn K f = true ∧ FnG P w K mg base j f fd ps (spM c n fm) ∧ Binds K fd ps []
theorem DunM.mono {P : Program} {w : World} {K : PySem.W.Frag} {mg : Str → Option Value} {base : Heap} {c : RC} {i j k : Nat} {m : Str} {n : Nat} {fm : MF} (h : DunM P w K mg base c i k m n fm) (l : i ≤ j) : DunM P w K mg base c j k m n fm := by
  obtain ⟨f, fd, ps, h1, h2, h3, F, hb⟩ := h.ex
  exact ⟨f, fd, ps, h1, h2, h3, F.mono l, hb⟩
section
variable {X : Cx} {c : RC} {W : WX} {j : Nat} {pos p1 : Pos} {fe e : Expr} {es : List Expr} {mf mo ma mb : ME} {ms : MA}
theorem run_Gc {k : Nat} {f : Addr} {fd : FuncData} {ps : List Str} {sp : Sp} {pins : List (Addr × Obj)} {σ : L2.St} {H : Hp} {s : Shared} {Q : VK} {us : List Value} {vs : List V} {ds : List Value} {dvs : List V} (cf : Cf k X c) (tk : Takes X W) (F : FnG X.prog X.w X.K X.mg X.base k f fd ps sp) (hb : Binds X.K fd ps ds) (hd : Vals dvs ds)
    (I : Inv X pins σ H s) (r : Vals vs us) (h : sp (vs ++ dvs) H Q fun cls d H' => W cls d σ H') : codeAny (model X.prog X.w) X.A (Code.call (Value.ref f) { pos := us }) (fun r s' => match r with
      | Except.ok (Flow.ret v) => EP X pins σ Q v s'
      | Except.ok a => False
      | Except.error e => X.xe e s') s := by
  have r2 : Vals (vs ++ dvs) (us ++ ds) := r.append hd
  have hl : (us ++ ds).length = ps.length := by rw [← r2.length, F.len _ _ _ _ h]
  refine codeAny_mono (F.run X.A X.stack s H ⟨us, []⟩ (us ++ ds) (vs ++ dvs) Q _ cf.gd cf.hr I.env0 (hb s us I.kIn hl) r2 h) ?_
  rintro (err | (_ | _ | _ | u)) s' hq
  · exact passAt tk σ pins H s err s' I hq
  · exact hq.elim
  · exact hq.elim
  · exact hq.elim
  · exact I.after hq
def isObj : D → Bool
  | .ins _ _ => true
  | .loc _ => true
  | _ => false
theorem isObj_ref {g : Wd} {x : D} {v : V} (h : isObj x = true) (r : Rep c g x v) : ∃ a, v = .ref a := by
  cases x with
  | ins k ds => rw [Rep] at r; obtain ⟨a, dx, fs, vs, e, _⟩ := r; exact ⟨a, e⟩
  | loc n => rw [Rep] at r; obtain ⟨a, e, _⟩ := r; exact ⟨a, e⟩
  | _ => cases h
/-- o(e, ..), o an instance -/
def mInst (tab : Tab) (mo : ME) (ma : MA) : ME := fun δ S => (mo δ S).bind fun x S1 => if isObj x = true then (ma δ S1).bind fun xs S2 => (match pick tab S2 x with
  | some (n, fm) => runT n fm x xs S2
  | none => .bad) else .bad
theorem ce_inst {tab : Tab} (cf : Cf j X c) (tk : Takes X W) (ht : ∀ k n fm, tab k = some (n, fm) → DunM X.prog X.w X.K X.mg X.base c j k "__call__" n fm) (ho : CE X c W fe mf) (ha : CA X c W (e :: es) ms)
    (hev : eval (.Call fe (e :: es) [] pos) X.env = (do callWith pos (← eval fe X.env) [] (backTo pos (starEach (e :: es) X.env)) (backToKw pos (keywordEach [] X.env))) := by rfl)
    (hst : starEach (e :: es) X.env = (false, eval e X.env) :: starEach es X.env := by rfl) (hpl : (backTo pos (starEach es X.env)).any (·.1) = false := by rfl) :
    CE X c W (.Call fe (e :: es) [] pos) (mInst tab mf ms) := by
  refine ⟨fun pins s σ H Q I ⟨g, Z, δ, S, sm, sl, q⟩ => ?_⟩
  refine Call_ (thn (ho.run pins s σ H _ I ⟨g, Z, δ, S, sm, sl, Post.bind (Q := fun v H1 => ∃ g1 S1 x, SimH c g1 S1 Z H1 ∧ Slots c g1 δ σ ∧ Rep c g1 x v ∧ isObj x = true ∧ Post c (Rep c) g1 Z ((ms δ S1).bind fun xs S2 => (match pick tab S2 x with
      | some (n, fm) => runT n fm x xs S2
      | none => .bad)) Q fun cls d H' => W cls d σ H') q
    fun x S1 g1 v H1 _ le1 s1 r1 q1 => ?_⟩) fun u s1 hx => ?_) hev
  · by_cases hk : isObj x = true
    · rw [if_pos hk] at q1
      exact ⟨g1, S1, x, s1, sl.up le1, r1, hk, q1⟩
    · rw [if_neg hk] at q1
      exact q1.elim
  · obtain ⟨v, H1, I1, rv, g1, S1, x, s1', sl1, r1, hk, q1⟩ := hx
    obtain ⟨a, rfl⟩ := isObj_ref hk r1
    obtain rfl : u = Value.ref a := rv
    refine StX.callO_with (thn (ha.run pos pins s1 σ H1 _ I1 ⟨g1, Z, δ, S1, s1', sl1, Post.bind (Q := fun vs H2 => ∃ k n fm dx fs, tab k = some (n, fm) ∧ H2 a = some (.ins (c.cl k) dx fs) ∧ spM c n fm (.ref a :: vs) H2 Q fun cls d H' => W cls d σ H') q1 fun xs S2 g2 vs H2 _ le2 s2 r2 q2 => ?_⟩) fun us s2 ⟨vs, H2, I2, r, hi, q2⟩ => ?_) hst hpl
    · cases ep : pick tab S2 x with
      | none => rw [ep] at q2; exact q2.elim
      | some nf =>
        obtain ⟨n, fm⟩ := nf
        rw [ep] at q2
        simp only at q2
        unfold runT at q2
        by_cases hn : xs.length + 1 = n
        · rw [if_pos hn] at q2
          obtain ⟨k, ds, ei, et⟩ := pick_at ep
          have rx := Rep.up le2 r1
          obtain ⟨a', dx, fs, vs0, ea, hH, _, _⟩ := ins_at s2 rx ei
          cases ea
          exact ⟨k, n, fm, dx, fs, et, hH, spM_of s2 (RepL.cons rx r2) (by rw [List.length_cons]; exact hn) q2⟩
        · rw [if_neg hn] at q2
          exact q2.elim
    · obtain ⟨n, fm, dx, fs, et, hH2, q2⟩ := q2
      obtain ⟨f, fd, ps, h1, h2, h3, F, hb⟩ := (ht hi n fm et).ex
      obtain ⟨mA, O, _⟩ := ins_get I2.hok hH2
      obtain ⟨od, J, _⟩ := O.look
      refine ⟨⟨_, _, od, J, rfl⟩, ?_⟩
      refine wpAny_call (PySem.W.kco_code I2.kIn J rfl h1 h2 h3 ?_)
      exact run_Gc (us := .ref a :: us) (vs := .ref a :: vs) (dvs := []) cf tk F hb .nil I2 (.cons rfl r) (by rw [List.append_nil]; exact q2)
end
end DL

end
section
/-! DL, part x: loops over lists that change; what the head tells of special methods. -/
namespace DL
open PySem PySem.Spec PyProof.Rows L2
def dunB (K : PySem.W.Frag) (C : Addr) (m : Str) : Bool := decide (PySem.W.findIn K (.ref C) m = some (some (.ref (He.ma K C m)))) && (PySem.W.isFn K (.ref (He.ma K C m)) && PySem.W.fnIn K (He.ma K C m))
theorem dunB_ok {K : PySem.W.Frag} {C : Addr} {m : Str} (h : dunB K C m = true) : PySem.W.findIn K (.ref C) m = some (some (.ref (He.ma K C m))) ∧ PySem.W.isFn K (.ref (He.ma K C m)) = true ∧ PySem.W.fnIn K (He.ma K C m) = true := by
  unfold dunB at h
  obtain ⟨h1, h⟩ := band h
  obtain ⟨h2, h3⟩ := band h
  exact ⟨of_decide_eq_true h1, h2, h3⟩
/-- the cell n, of N things, is walked from the thing N - fuel on, as it stands then -/
def forGoC (gm : MG) (body : MS) (n N : Nat) : Nat → Sl → Sto → F
  | 0, δ, S => match S[n]? with
    | some (.lst xs) => if xs.length = N then .nx δ S else .bad
    | _ => .bad
  | k + 1, δ, S => match S[n]? with
    | some (.lst xs) => if xs.length = N then (match xs[N - (k + 1)]? with
      | some d => (match gm.f d δ with
        | none => .bad
        | some δ1 => match body δ1 S with
          | .nx δ2 S2 => forGoC gm body n N k δ2 S2
          | .cnt δ2 S2 => forGoC gm body n N k δ2 S2
          | .brk δ2 S2 => .nx δ2 S2
          | r => r)
      | none => .bad) else .bad
    | _ => .bad
def sForC (mo : ME) (gm : MG) (body : MS) : MS := fun δ S => (mo δ S).flow δ fun d S1 => match d with
  | .loc n => (match S1[n]? with
    | some (.lst xs) => forGoC gm body n xs.length xs.length δ S1
    | _ => .bad)
  | _ => .bad
section
variable {X : Cx} {c : RC} {W : WX} {k : Nat} {pos : Pos}
theorem for_okC {g1 : Wd} {Z : Hp} {gm : MG} {body : MS} {n N : Nat} {a : Addr} {δ : Sl} {S : Sto} {H : Hp} {σ : L2.St} {Dn : Ends} (ha : g1.ι[n]? = some a) (s : SimH c g1 S Z H) (sl : Slots c g1 δ σ) (q : PostF c g1 Z (forGoC gm body n N N δ S) Dn W) :
    ∃ V : Nat → Nat → L2.St → Hp → Prop, (∃ m, V 0 m σ H) ∧ ∀ i m σ H, V i m σ H → ((Itl c.K a).stop i H ∧ Dn.nx σ H) ∨ ((Itl c.K a).go i H ∧ ∃ N : L2.St → Hp → Prop, (∀ σ' H', N σ' H' → ∃ m', m' < m ∧ V (i + 1) m' σ' H') ∧
      ∀ x H', (Itl c.K a).yld i H x H' → gM c gm x σ H' fun σ2 H2 => sM c W body { Dn with nx := N, ct := N, bk := Dn.nx } σ2 H2) := by
  refine ⟨fun i m σ' H' => m = N - i ∧ i ≤ N ∧ ∃ g' δ' S', g1.le g' ∧ SimH c g' S' Z H' ∧ Slots c g' δ' σ' ∧ PostF c g' Z (forGoC gm body n N (N - i) δ' S') Dn W, ⟨N, by simp, Nat.zero_le _, g1, δ, S, .refl g1, s, sl, q⟩, ?_⟩
  rintro i m σ' H' ⟨rfl, hi, g', δ', S', le, s', sl', q'⟩
  have ha' : g'.ι[n]? = some a := pre_get le.i ha
  have hx : ∃ xs, S'[n]? = some (.lst xs) ∧ xs.length = N := by
    cases e : N - i with
    | zero =>
      rw [e] at q'
      unfold forGoC at q'
      split at q'
      · rename_i xs hx
        split at q'
        · rename_i hl
          exact ⟨xs, hx, hl⟩
        · exact q'.elim
      · exact q'.elim
    | succ k =>
      rw [e] at q'
      unfold forGoC at q'
      split at q'
      · rename_i xs hx
        split at q'
        · rename_i hl
          exact ⟨xs, hx, hl⟩
        · exact q'.elim
      · exact q'.elim
  obtain ⟨xs, hx, hl⟩ := hx
  obtain ⟨_, _, hc, vs, hH, rs⟩ := s'.cell n a _ ha' hx
  have l' : SqL c.K H' a vs := .inl (.inl hH)
  by_cases hlt : i < N
  · right
    have e : N - i = (N - (i + 1)) + 1 := by omega
    have hix : N - (N - (i + 1) + 1) = i := by omega
    rw [e] at q'
    unfold forGoC at q'
    simp only [hx, hl, if_true, hix] at q'
    have hd : xs[i]? = some (xs[i]'(by omega)) := by simp
    obtain ⟨v, h1, h2⟩ := rs.get hd
    rw [hd] at q'
    simp only at q'
    refine ⟨⟨vs, v, l', h1⟩, fun σ2 H2 => ∃ g2 δ2 S2, g1.le g2 ∧ SimH c g2 S2 Z H2 ∧ Slots c g2 δ2 σ2 ∧ PostF c g2 Z (forGoC gm body n N (N - (i + 1)) δ2 S2) Dn W, fun σ2 H2 h => ⟨N - (i + 1), by omega, rfl, by omega, h⟩, fun x H2 y => ?_⟩
    obtain ⟨rfl, y2⟩ := y
    have y3 := y2 vs l'
    rw [h1] at y3
    cases y3
    split at q'
    · exact q'.elim
    · rename_i δ1 hg
      refine ⟨g', Z, δ', S', xs[i]'(by omega), s', sl', h2, δ1, hg, fun σ3 sl3 _ => ⟨g', Z, δ1, S', s', sl3, ?_⟩⟩
      cases e : body δ1 S' with
      | nx δ2 S2 => rw [e] at q'; exact fun g3 σ4 H4 le3 s3 sl4 => ⟨g3, δ2, S2, le.trans le3, s3, sl4, PostF.up le3 q'⟩
      | cnt δ2 S2 => rw [e] at q'; exact fun g3 σ4 H4 le3 s3 sl4 => ⟨g3, δ2, S2, le.trans le3, s3, sl4, PostF.up le3 q'⟩
      | brk δ2 S2 => rw [e] at q'; exact q'
      | ret d S2 => rw [e] at q'; exact q'
      | exc kk vs δ2 S2 => rw [e] at q'; exact q'
      | bad => rw [e] at q'; exact q'
  · left
    have e0 : i = N := by omega
    subst e0
    rw [Nat.sub_self] at q'
    unfold forGoC at q'
    simp only [hx, hl, if_true] at q'
    exact ⟨⟨vs, l', by rw [rs.length, hl]; exact Nat.le_refl _⟩, q' g' σ' H' (.refl g') s' sl'⟩
theorem cs_forC {tg iter : Expr} {body : List Stmt} {mo : ME} {gm : MG} {mb : MS} (cf : Cf k X c) (hp : PassesOwn (model X.prog X.w) X.A X.env X.xe) (hi : CE X c W iter mo) (hg : CG X c tg gm) (hb : CSs X c W body mb) (hs : ∀ x, foldedSetIterable iter X.env x = pure x := by intro _; rfl) : CS X c W (.For tg iter body [] pos) (sForC mo gm mb) :=
  weakS (ps_for hp cf.calm (pi_list hi) hg hb hs) fun Dn σ H ⟨g, Z, δ, S, s, sl, q⟩ => ⟨g, Z, δ, S, s, sl, Post.flow sl q fun d S1 g1 v H1 le1 s1 r1 q1 => by
    split at q1
    · rename_i n
      split at q1
      · rename_i xs hx
        rw [Rep] at r1
        obtain ⟨a, rfl, ea⟩ := r1
        obtain ⟨_, _, hc, vs, hH, rs⟩ := s1.cell n a _ ea hx
        refine ⟨a, rfl, ⟨vs, .inl (.inl hH)⟩, ?_⟩
        rw [← cf.kk]
        exact for_okC ea s1 (sl.up le1) q1
      · exact q1.elim
    · exact q1.elim⟩
end
end DL

end
section
/-! DL, part y: repr in the plain: data that can be shown, and how long that gets. -/
namespace DL
open PySem PySem.Spec PyProof.Rows L2
theorem listText_le (ts : List Str) : (listText ts).length ≤ piled ts + 2 := by
  cases ts with
  | nil => decide
  | cons t r =>
    have h := textFrom_length_pos r 1 (("[" : Str) ++ (if (0 : Nat) > 0 then ", " else "" : String) ++ t) (Nat.succ_pos 0)
    have e : ((("[" : Str) ++ (if (0 : Nat) > 0 then ", " else "" : String) ++ t)).length = 1 + t.length := by
      rw [strLen_append, strLen_append]
      rfl
    have e2 : (listText (t :: r)).length = (textFrom 1 (("[" : Str) ++ (if (0 : Nat) > 0 then ", " else "" : String) ++ t) r).length + 1 := by
      show (textFrom 1 _ r ++ "]").length = _
      rw [strLen_append]
      rfl
    rw [e2, h, e, piled_cons]
    omega
theorem tupleText_le (ts : List Str) : (tupleText ts).length ≤ piled ts + 3 := by
  unfold tupleText
  rw [strLen_append, strLen_append]
  have e1 : ((("(" : String) : Str)).length = 1 := rfl
  have e3 : (((if ts.length == 1 then ",)" else ")" : String) : Str)).length ≤ 2 := by split <;> decide
  rw [e1]
  by_cases h : ts = []
  · subst h
    have : (Str.join ", " []).length = 0 := rfl
    rw [this]
    omega
  · have := join_length_add ts h
    omega
theorem dictText_le (ts : List Str) : (dictText ts).length ≤ piled ts + 2 := by
  unfold dictText
  rw [strLen_append, strLen_append]
  have e1 : ((("{" : String) : Str)).length = 1 := rfl
  have e2 : ((("}" : String) : Str)).length = 1 := rfl
  rw [e1, e2]
  by_cases h : ts = []
  · subst h
    have : (Str.join ", " []).length = 0 := rfl
    rw [this]
    omega
  · have := join_length_add ts h
    omega
theorem int_len {i : Int} {k : Nat} (hk : 0 < k) (h1 : -(10 ^ k : Int) < i) (h2 : i < 10 ^ k) : (Str.ofString (toString i)).length ≤ k + 1 := by
  cases i with
  | ofNat n =>
    have := toString_length_le (v := Int.ofNat n) (Int.natCast_nonneg n) hk h2
    omega
  | negSucc m =>
    have e : toString (Int.negSucc m) = "-" ++ toString ((m + 1 : Nat) : Int) := rfl
    have hb : ((m + 1 : Nat) : Int) < 10 ^ k := by
      have : Int.negSucc m = -((m + 1 : Nat) : Int) := rfl
      omega
    have := toString_length_le (v := ((m + 1 : Nat) : Int)) (Int.natCast_nonneg _) hk hb
    rw [PyProof.Rows.ofString_length] at this
    rw [e, PyProof.Rows.ofString_length, String.toList_append, List.length_append]
    have z : "-".toList.length = 1 := rfl
    omega
/-- data whose repr is known: no cells, so deep, so long -/
def Rp (d : D) (n w : Nat) : Prop := d.clean = true ∧ ∃ p, d.pyr = some p ∧ p.showable = true ∧ p.depth ≤ n ∧ p.shown.length ≤ w
theorem Rp.mono {d : D} {n n' w w' : Nat} (h : Rp d n w) (hn : n ≤ n') (hw : w ≤ w') : Rp d n' w' := by
  obtain ⟨h1, p, h2, h3, h4, h5⟩ := h
  exact ⟨h1, p, h2, h3, Nat.le_trans h4 hn, Nat.le_trans h5 hw⟩
theorem Rp.non : Rp .non 0 4 := ⟨rfl, _, rfl, rfl, Nat.le_refl _, by decide⟩
theorem Rp.bl {b : Bool} : Rp (.bl b) 0 5 := ⟨rfl, _, rfl, rfl, Nat.le_refl _, by cases b <;> decide⟩
theorem Rp.str {x : Str} (hx : ∀ c ∈ x.cps.toList, c < 16 ^ 8) : Rp (.str x) 0 (10 * x.length + 2) := ⟨rfl, _, rfl, rfl, Nat.le_refl _, StrLaws.reprText_len x hx⟩
theorem Rp.int {i : Int} (h1 : -(10 ^ 40 : Int) < i) (h2 : i < 10 ^ 40) : Rp (.int i) 0 41 := by
  refine ⟨rfl, _, rfl, ?_, Nat.le_refl _, int_len (by decide) h1 h2⟩
  show decide (i.natAbs.log2 < 1920) = true
  refine decide_eq_true ?_
  have hn : i.natAbs < 2 ^ 1920 := by
    have e : (10 : Int) ^ 40 = ((10 ^ 40 : Nat) : Int) := by decide
    rw [e] at h1 h2
    have h3 : i.natAbs < 10 ^ 40 := by omega
    exact Nat.lt_of_lt_of_le h3 (Nat.le_trans (show 10 ^ 40 ≤ 2 ^ 200 by decide) (Nat.pow_le_pow_right (by decide) (by decide)))
  by_cases z : i.natAbs = 0
  · rw [z]
    decide
  · exact (Nat.log2_lt z).mpr hn
theorem rpL {n w : Nat} : ∀ {ds : List D}, (∀ d ∈ ds, Rp d n w) → D.cleanL ds = true ∧ ∃ ps, D.pyrL ds = some ps ∧ PyData.showableAll ps = true ∧ PyData.depthAll ps ≤ n ∧ piled (PyData.shownAll ps) ≤ ds.length * (w + 2) ∧ ps.length = ds.length
  | [], _ => ⟨rfl, [], rfl, rfl, Nat.zero_le _, Nat.zero_le _, rfl⟩
  | d :: r, h => by
    obtain ⟨h1, p, h2, h3, h4, h5⟩ := h d List.mem_cons_self
    obtain ⟨k1, ps, k2, k3, k4, k5, k6⟩ := rpL (n := n) (w := w) (ds := r) fun d hd => h d (List.mem_cons_of_mem _ hd)
    refine ⟨by rw [D.cleanL, h1, k1]; rfl, p :: ps, by rw [D.pyrL, h2, k2], by rw [PyData.showableAll, h3, k3]; rfl, ?_, ?_, by simp [k6]⟩
    · rw [PyData.depthAll]
      exact Nat.max_le.mpr ⟨h4, k4⟩
    · rw [PyData.shownAll, piled_cons, List.length_cons, Nat.succ_mul]
      omega
theorem Rp.tup {ds : List D} {n w : Nat} (h : ∀ d ∈ ds, Rp d n w) : Rp (.tup ds) (n + 1) (ds.length * (w + 2) + 3) := by
  obtain ⟨k1, ps, k2, k3, k4, k5, k6⟩ := rpL h
  refine ⟨by rw [D.clean]; exact k1, .tuple ps, by rw [D.pyr, k2]; rfl, by rw [PyData.showable]; exact k3, by rw [PyData.depth]; omega, ?_⟩
  rw [PyData.shown]
  have := tupleText_le (PyData.shownAll ps)
  omega
theorem Rp.lst {ds : List D} {n w : Nat} (h : ∀ d ∈ ds, Rp d n w) : Rp (.lst ds) (n + 1) (ds.length * (w + 2) + 3) := by
  obtain ⟨k1, ps, k2, k3, k4, k5, k6⟩ := rpL h
  refine ⟨by rw [D.clean]; exact k1, .list ps, by rw [D.pyr, k2]; rfl, by rw [PyData.showable]; exact k3, by rw [PyData.depth]; omega, ?_⟩
  rw [PyData.shown]
  have := listText_le (PyData.shownAll ps)
  omega
theorem kv_le {w : Nat} : ∀ {ks : List Key} {ps : List PyData}, ks.length = ps.length → (∀ k ∈ ks, (keyPy k).showable = true ∧ (keyPy k).shown.length ≤ w ∧ (keyPy k).depth = 0) → PyData.showableAll ps = true →
    PyData.showableKv ((ks.map keyPy).zip ps) = true ∧ PyData.depthKv ((ks.map keyPy).zip ps) ≤ PyData.depthAll ps ∧ piled (PyData.shownKv ((ks.map keyPy).zip ps)) ≤ ks.length * (w + 2) + piled (PyData.shownAll ps)
  | [], [], _, _, _ => ⟨rfl, Nat.le_refl _, Nat.zero_le _⟩
  | k :: ks, p :: ps, hl, hk, hs => by
    rw [PyData.showableAll, Bool.and_eq_true] at hs
    obtain ⟨a1, a2, a3⟩ := hk k List.mem_cons_self
    obtain ⟨b1, b2, b3⟩ := kv_le (w := w) (ks := ks) (ps := ps) (by simpa using hl) (fun k hk' => hk k (List.mem_cons_of_mem _ hk')) hs.2
    rw [List.map_cons, List.zip_cons_cons]
    refine ⟨by rw [PyData.showableKv, a1, hs.1, b1]; rfl, ?_, ?_⟩
    · rw [PyData.depthKv, PyData.depthAll, a3]
      omega
    · rw [PyData.shownKv, PyData.shownAll, piled_cons, piled_cons, List.length_cons, Nat.succ_mul, strLen_append, strLen_append]
      have e : ((": " : String) : Str).length = 2 := rfl
      rw [e]
      omega
theorem Rp.dic {ks : List Key} {ds : List D} {n w v : Nat} (hl : ks.length = ds.length) (hk : ∀ k ∈ ks, (keyPy k).showable = true ∧ (keyPy k).shown.length ≤ v ∧ (keyPy k).depth = 0) (h : ∀ d ∈ ds, Rp d n w) : Rp (.dic ks ds) (n + 1) (ds.length * (v + 2) + ds.length * (w + 2) + 3) := by
  obtain ⟨k1, ps, k2, k3, k4, k5, k6⟩ := rpL h
  obtain ⟨b1, b2, b3⟩ := kv_le (w := v) (ks := ks) (ps := ps) (hl.trans k6.symm) hk k3
  refine ⟨by rw [D.clean]; exact k1, .dict ((ks.map keyPy).zip ps), by rw [D.pyr, k2]; show (if ks.length = ps.length then _ else _) = _; rw [if_pos (hl.trans k6.symm)], by rw [PyData.showable]; exact b1, by rw [PyData.depth]; omega, ?_⟩
  rw [PyData.shown]
  have := dictText_le (PyData.shownKv ((ks.map keyPy).zip ps))
  rw [hl] at b3
  omega
def txt (d : D) : Str := match d.pyr with
  | some p => p.shown
  | none => ""
theorem reprR_ok {m : ME} {δ : Sl} {S S1 : Sto} {d : D} (h : m δ S = .ok d S1) {n w : Nat} (hr : Rp (d.res S1) n w) (hn : n ≤ 60) (hw : w ≤ 16777216) : mCall fReprR (mCons m mNil) δ S = .ok (.str (txt (d.res S1))) S1 := by
  obtain ⟨h1, p, h2, h3, h4, h5⟩ := hr
  have e : mCall fReprR (mCons m mNil) δ S = fReprR [d] S1 := by
    unfold mCall mCons mNil
    rw [h]
    rfl
  rw [e]
  unfold fReprR txt
  simp only [h1, if_true, h2]
  rw [if_pos ⟨h3, Nat.le_trans h4 hn, Nat.le_trans h5 hw⟩]
end DL

end
section
/-! DL, part z: more in the plain: tests, loops, draws, letters. -/
namespace DL
open PySem PySem.Spec L2
def isLet (x : Str) : Prop := x.length ≤ 8 ∧ 1 ≤ x.length ∧ ∀ k ∈ x.cps.toList, k ∈ ("abcdefghijklmnopqrstuvwxyz" : Str).cps.toList
theorem sortS_congr {xs ys : List Str} (h : xs.Perm ys) : sortS xs = sortS ys := List.Perm.eq_of_pairwise (fun _ _ _ _ a b => LeS.anti a b) (sortS_rises xs) (sortS_rises ys) ((sortS_perm xs).trans (h.trans (sortS_perm ys).symm))
theorem mem_sortS {x : Str} {l : List Str} : x ∈ sortS l ↔ x ∈ l := (sortS_perm l).mem_iff
theorem or_ff {t u : MT} {δ : Sl} {S S1 S2 : Sto} (h : t δ S = .ok false S1) (k : u δ S1 = .ok false S2) : mOr t u δ S = .ok false S2 := by
  unfold mOr
  rw [h]
  simpa using k
theorem or_t {t u : MT} {δ : Sl} {S S1 : Sto} (h : t δ S = .ok true S1) : mOr t u δ S = .ok true S1 := by
  unfold mOr
  rw [h]
  simp
theorem or_f {t u : MT} {δ : Sl} {S S1 S2 : Sto} {b : Bool} (h : t δ S = .ok false S1) (k : u δ S1 = .ok b S2) : mOr t u δ S = .ok b S2 := by
  unfold mOr
  rw [h]
  simpa using k
theorem and_f {t u : MT} {δ : Sl} {S S1 : Sto} (h : t δ S = .ok false S1) : mAnd t u δ S = .ok false S1 := by
  unfold mAnd
  rw [h]
  simp
theorem and_t {t u : MT} {δ : Sl} {S S1 S2 : Sto} {b : Bool} (h : t δ S = .ok true S1) (k : u δ S1 = .ok b S2) : mAnd t u δ S = .ok b S2 := by
  unfold mAnd
  rw [h]
  simpa using k
theorem not_t {t : MT} {δ : Sl} {S S1 : Sto} {b : Bool} (h : t δ S = .ok b S1) : mNot t δ S = .ok (!b) S1 := by
  unfold mNot
  rw [h]
  simp
theorem val_ok {t : MT} {δ : Sl} {S S1 : Sto} {b : Bool} (h : t δ S = .ok b S1) : mVal t δ S = .ok (.bl b) S1 := by
  unfold mVal
  rw [h]
  simp
theorem isi_ok {m : ME} {δ : Sl} {S : Sto} {d : D} {sub : TD → Option Bool} {t : TD} {b : Bool} (h : m δ S = .ok d S) (e1 : tyD d S = some t) (e2 : sub t = some b) : mUn (fIsi sub) m δ S = .ok (.bl b) S := by
  rw [un_ok h]
  unfold fIsi
  rw [e1]
  simp only [e2]
theorem eq_bl (a : Bool) (S : Sto) : fEq (.bl a) (.bl a) S = .ok (.bl true) S := by cases a <;> rfl
theorem ret_exc {m : ME} {δ : Sl} {S1 : Sto} {k : Nat} {vs : List D} (h : m δ S = .exc k vs S1) : sRet m δ S = .exc k vs δ S1 := by
  unfold sRet
  rw [h]
  rfl
theorem for_keepN {gm : MG} {b : MS} {P : Nat → Sl → Sto → Prop} : ∀ {ds : List D} {k : Nat}, (∀ i d, ds[i]? = some d → ∀ δ S, P (k + i) δ S → ∃ δ0 δ' S', gm.f d δ = some δ0 ∧ b δ0 S = .nx δ' S' ∧ P (k + i + 1) δ' S') → ∀ δ S, P k δ S → ∃ δ' S', forGo gm b ds δ S = .nx δ' S' ∧ P (k + ds.length) δ' S'
  | [], k, _, δ, S, h => ⟨δ, S, rfl, h⟩
  | d :: r, k, hb, δ, S, h => by
    obtain ⟨δ0, δ1, S1, e1, e2, h1⟩ := hb 0 d rfl δ S h
    obtain ⟨δ', S', e, h'⟩ := for_keepN (gm := gm) (b := b) (P := P) (ds := r) (k := k + 1) (fun i d hd δ S hP => by
      have z : k + 1 + i = k + (i + 1) := by omega
      rw [z] at hP ⊢
      exact hb (i + 1) d (by simpa using hd) δ S hP) δ1 S1 h1
    refine ⟨δ', S', ?_, ?_⟩
    · unfold forGo
      rw [e1]
      simp only [e2]
      exact e
    · have z : k + (d :: r).length = k + 1 + r.length := by
        rw [List.length_cons]
        omega
      rw [z]
      exact h'
theorem lc_keep {gm : MG} {e : ME} {δ : Sl} {Q : Sto → Prop} {T : D → Prop} : ∀ {items : List D}, (∀ d ∈ items, ∀ S, Q S → ∃ δ1 v S', gm.f d δ = some δ1 ∧ e δ1 S = .ok v S' ∧ Q S' ∧ T v) → ∀ acc S, Q S → ∃ vs S', lcGo gm tOk e δ items acc S = .ok (acc ++ vs) S' ∧ Q S' ∧ vs.length = items.length ∧ ∀ v ∈ vs, T v
  | [], _, acc, S, h => ⟨[], S, by simp [lcGo], h, rfl, fun v hv => by cases hv⟩
  | d :: r, hb, acc, S, h => by
    obtain ⟨δ1, v, S1, e1, e2, h1, hv⟩ := hb d List.mem_cons_self S h
    obtain ⟨vs, S', e3, h', hl, hR⟩ := lc_keep (gm := gm) (e := e) (δ := δ) (Q := Q) (T := T) (items := r) (fun d hd => hb d (List.mem_cons_of_mem _ hd)) (acc ++ [v]) S1 h1
    refine ⟨v :: vs, S', ?_, h', by simp [hl], fun w hw => ?_⟩
    · unfold lcGo
      rw [e1]
      simp only [tOk, R.bind_ok, if_true, e2]
      rw [e3]
      simp
    · rcases List.mem_cons.mp hw with rfl | hw
      · exact hv
      · exact hR w hw
theorem set_at {o : O} {S : Sto} {n : Nat} (h : S[n]? = some o) : S.set n o = S := by
  obtain ⟨hn, e⟩ := List.getElem?_eq_some_iff.mp h
  rw [← e]
  exact List.set_getElem_self hn
theorem bagAt {S r : Sto} {n : Nat} {o : O} (h : n < S.length) : (S.set n o ++ r)[n]? = some o := by
  rw [List.getElem?_append_left (by simpa using h)]
  simp [h]
theorem bagSet {S r : Sto} {n : Nat} {o o' : O} (h : n < S.length) : (S.set n o ++ r).set n o' = S.set n o' ++ r := by
  rw [List.set_append_left _ _ (by simpa using h), List.set_set]
theorem bagAt0 {S : Sto} {n : Nat} {o : O} (h : n < S.length) : (S.set n o)[n]? = some o := by simp [h]
def letters : Str := "abcdefghijklmnopqrstuvwxyz"
theorem letters_len : letters.length = 26 := by decide +kernel
theorem letters_list : letters.cps.toList.length = 26 := by
  rw [← letters_len]
  simp [Str.length]
abbrev one (k : Nat) : Str := ⟨#[k]⟩
theorem one_inj {a b : Nat} (h : one a = one b) : a = b := by
  have := congrArg (fun s : Str => s.cps.toList) h
  simpa [one] using this
def oneL (d : D) : Prop := ∃ k, k ∈ letters.cps.toList ∧ d = .str (one k)
theorem isLet_one {k : Nat} (h : k ∈ letters.cps.toList) : isLet (one k) := ⟨by decide +revert, by decide +revert, fun j hj => by
  have : j = k := by simpa [one] using hj
  subst this
  exact h⟩
theorem join_one : ∀ ks : List Nat, (Txt.join "" (ks.map one)).cps.toList = ks := by
  intro ks
  have e : Txt.join "" (ks.map one) = Str.join "" (ks.map one) := StrLaws.glued_eq_join _ _
  rw [e]
  have z : ("" : Str).cps.toList = [] := by decide +kernel
  induction ks with
  | nil => rfl
  | cons k r ih =>
    cases r with
    | nil => rfl
    | cons k' r' =>
      have ih' := ih (StrLaws.glued_eq_join _ _)
      have s : Str.join "" ((k :: k' :: r').map one) = one k ++ "" ++ Str.join "" ((k' :: r').map one) := rfl
      rw [s]
      simp only [Str.cps_append, Array.toList_append, ih', z]
      rfl
theorem ones_of : ∀ {vs : List D}, (∀ v ∈ vs, oneL v) → ∃ ks : List Nat, vs = ks.map (fun k => D.str (one k)) ∧ ∀ k ∈ ks, k ∈ letters.cps.toList
  | [], _ => ⟨[], rfl, fun k hk => by cases hk⟩
  | v :: r, h => by
    obtain ⟨k, hk, rfl⟩ := h v List.mem_cons_self
    obtain ⟨ks, rfl, hks⟩ := ones_of (vs := r) fun v hv => h v (List.mem_cons_of_mem _ hv)
    exact ⟨k :: ks, rfl, fun j hj => by
      rcases List.mem_cons.mp hj with rfl | hj
      · exact hk
      · exact hks j hj⟩
theorem sum_ones (ks : List Nat) : ((ks.map one).map (·.length)).sum = ks.length := by
  induction ks with
  | nil => rfl
  | cons k r ih =>
    simp only [List.map_cons, List.sum_cons, ih, List.length_cons]
    have : (one k).length = 1 := rfl
    omega
theorem nodup_len {α : Type} [BEq α] [LawfulBEq α] : ∀ {l m : List α}, l.Nodup → (∀ x ∈ l, x ∈ m) → l.length ≤ m.length
  | [], _, _, _ => Nat.zero_le _
  | x :: l, m, hn, h => by
    have hx := h x List.mem_cons_self
    obtain ⟨h1, h2⟩ := List.nodup_cons.mp hn
    have ih := nodup_len (l := l) (m := m.erase x) h2 fun y hy => (List.mem_erase_of_ne (fun e => h1 (by rw [← e]; exact hy))).mpr (h y (List.mem_cons_of_mem _ hy))
    have el := List.length_erase_of_mem hx
    have pos := List.length_pos_of_mem hx
    rw [List.length_cons]
    omega
theorem letters_nodup : letters.cps.toList.Nodup := by decide +kernel
theorem left_over (found banned : List Str) (h : found.length + banned.length < 26) : ∃ k ∈ letters.cps.toList, one k ∉ found ∧ one k ∉ banned := by
  apply Classical.byContradiction
  intro hc
  have hs : ∀ x ∈ letters.cps.toList.map one, x ∈ found ++ banned := fun x hx => by
    obtain ⟨k, hk, rfl⟩ := List.mem_map.mp hx
    apply Classical.byContradiction
    intro hm
    exact hc ⟨k, hk, fun hf => hm (List.mem_append_left _ hf), fun hb => hm (List.mem_append_right _ hb)⟩
  have hn : (letters.cps.toList.map one).Nodup := by
    refine List.pairwise_map.mpr (letters_nodup.imp fun {a b} hab e => hab (one_inj e))
  have := nodup_len hn hs
  rw [List.length_map, letters_list, List.length_append] at this
  omega
theorem nodup_set {α : Type} {l : List α} {i : Nat} {x : α} (h : l.Nodup) (hx : x ∉ l) : (l.set i x).Nodup := by
  induction l generalizing i with
  | nil => simpa using h
  | cons y r ih =>
    obtain ⟨h1, h2⟩ := List.nodup_cons.mp h
    cases i with
    | zero =>
      rw [List.set_cons_zero]
      exact List.nodup_cons.mpr ⟨fun hm => hx (List.mem_cons_of_mem _ hm), h2⟩
    | succ i =>
      rw [List.set_cons_succ]
      refine List.nodup_cons.mpr ⟨fun hm => ?_, ih h2 fun hm => hx (List.mem_cons_of_mem _ hm)⟩
      rcases List.mem_or_eq_of_mem_set hm with hm | e
      · exact h1 hm
      · exact hx (e ▸ List.mem_cons_self)
theorem pyL_strs : ∀ l : List Str, D.pyL (l.map D.str) = some (l.map PyData.str)
  | [] => rfl
  | b :: r => by
    rw [List.map_cons, D.pyL, pyL_strs r]
    rfl
theorem eqv_strs : ∀ l : List Str, PyData.eqvAll (l.map PyData.str) (l.map PyData.str) = true
  | [] => rfl
  | b :: r => by
    rw [List.map_cons, PyData.eqvAll, eqv_strs r, PyData.eqv]
    simp
theorem depth_strs : ∀ l : List Str, PyData.depthAll (l.map PyData.str) = 0
  | [] => rfl
  | b :: r => by
    rw [List.map_cons, PyData.depthAll, depth_strs r]
    rfl
theorem lay_strs : ∀ {l : List Str}, (∀ x ∈ l, isLet x) → PyData.canLayAll0 (l.map PyData.str) = true
  | [], _ => rfl
  | b :: r, h => by
    have hb : PyData.strOk b = true := by
      have h3 := (h b List.mem_cons_self).2.2
      have hall : ∀ k ∈ ("abcdefghijklmnopqrstuvwxyz" : Str).cps.toList, k < 0x110000 := by decide +kernel
      unfold PyData.strOk
      rw [Array.all_eq_true_iff_forall_mem]
      intro k hk
      exact decide_eq_true (hall k (h3 k (Array.mem_toList_iff.mpr hk)))
    rw [List.map_cons, PyData.canLayAll0, lay_strs (l := r) fun x hx => h x (List.mem_cons_of_mem _ hx), PyData.canLay0, hb]
    rfl
theorem ne_strs {l : List Str} (h : ∀ x ∈ l, isLet x) (S : Sto) : fNe (.lst (l.map D.str)) (.lst (l.map D.str)) S = .ok (.bl false) S := by
  have e : fNe (.lst (l.map D.str)) (.lst (l.map D.str)) S = fNeT (.lst (l.map D.str)) (.lst (l.map D.str)) S := rfl
  have sh : SeqAt.shaped (.list (l.map PyData.str)) = true := by
    unfold SeqAt.shaped
    rw [PyData.canLay0, PyData.depth, lay_strs h, depth_strs]
    rfl
  rw [e, fNeT]
  simp only [D.pyS, D.py, pyL_strs, Option.map_some, sh, and_self, if_true, PyData.eqv, eqv_strs, Bool.not_true]
theorem clean_strs (ss : List Str) : D.cleanL (ss.map D.str) = true := cleanL_iff.mpr fun d hd => by
  obtain ⟨x, _, rfl⟩ := List.mem_map.mp hd
  rfl
theorem finK_ok {A : Sto} {xs : List D} {n : Nat} (h : n = A.length) : finK n (.loc n) (A ++ [.lst xs]) = .ok (.loc n) (A ++ [.lst xs]) := by
  subst h
  unfold finK
  rw [if_pos (by simp)]
  simp
theorem attr_exc {fl : Nat → List Str} {f : Str} {mv mo : ME} {δ : Sl} {S S1 : Sto} {k : Nat} {vs : List D} (hv : mv δ S = .exc k vs S1) : sAttr fl f mv mo δ S = .exc k vs δ S1 := by
  unfold sAttr
  rw [hv]
  rfl
theorem attr_step {fl : Nat → List Str} {f : Str} {mv mo : ME} {δ : Sl} {A : Sto} {k : Nat} {ds : List D} {v : D} (hv : mv δ (A ++ [.ins k ds]) = .ok v (A ++ [.ins k ds])) (ho : mo δ (A ++ [.ins k ds]) = .ok (.loc A.length) (A ++ [.ins k ds])) (hk : 100 ≤ k) (hc : v.clean = true)
    (hl : ds.length < 900) (hi : (fl k).idxOf? f = some ds.length) : sAttr fl f mv mo δ (A ++ [.ins k ds]) = .nx δ (A ++ [.ins k (ds ++ [v])]) := by
  unfold sAttr
  rw [hv]
  simp only [R.flow_ok]
  rw [ho]
  simp [hk, hc, hl, hi]
theorem sorted_ok {m : ME} {δ : Sl} {S : Sto} {xs : List Str} (h : m δ S = .ok (.lst (xs.map D.str)) S) (hl : xs.length ≤ 8) : mCall fSorted (mCons m mNil) δ S = .ok (.lst ((sortS xs).map D.str)) S := by
  rw [call_ok (cons_ok h nil_ok)]
  have : xs.length < 64 := by omega
  simp [fSorted, D.seq, strsOf_map, this]
theorem list_of {xs : List Str} {mx : ME} {δ : Sl} (hx : mx δ S = .ok (.tup (xs.map D.str)) S) : mCall fListT (mCons mx mNil) δ S = .ok (.lst (xs.map D.str)) S := by
  rw [call_ok (cons_ok hx nil_ok)]
  rfl
theorem add_lists {xs ys : List Str} {mx my : ME} {δ : Sl} (hx : mx δ S = .ok (.lst (xs.map D.str)) S) (hy : my δ S = .ok (.lst (ys.map D.str)) S) (hl : xs.length + ys.length ≤ 1000) : mBin fAdd mx my δ S = .ok (.lst ((xs ++ ys).map D.str)) S := by
  rw [bin_ok hx hy]
  have : xs.length + ys.length ≤ 16777216 := by omega
  simp [fAdd, D.seq, this]
theorem cut_take (xs : List D) (i : Nat) (h : i ≤ xs.length) : cutD xs none (some (i : Int)) = xs.take i := by
  unfold cutD
  rw [HT.sIx_none, HT.sIx_nat, Nat.min_eq_left h]
  simp
theorem enum_shape {ns : List Int} {lo hi : Option Int} : ∀ d ∈ (cutD (ns.map D.int) lo hi).mapIdx (fun i x => D.tup [.int (i : Int), x]), ∃ k x, d = .tup [.int k, .int x] := by
  intro d hd
  obtain ⟨i, hi', e⟩ := List.mem_mapIdx.mp hd
  have hm : (cutD (ns.map D.int) lo hi)[i] ∈ ns.map D.int := List.mem_of_mem_drop (List.mem_of_mem_take (List.getElem_mem hi'))
  obtain ⟨x, _, ex⟩ := List.mem_map.mp hm
  exact ⟨i, x, by rw [← e, ← ex]⟩
section
variable {δ : Sl} {S S1 S2 S3 S4 S5 : Sto} {f : MF} {m1 m2 m3 m4 m5 : ME} {x1 x2 x3 x4 x5 : D}
theorem call4 (h1 : m1 δ S = .ok x1 S1) (h2 : m2 δ S1 = .ok x2 S2) (h3 : m3 δ S2 = .ok x3 S3) (h4 : m4 δ S3 = .ok x4 S4) :
    mCall (cut 4 f []) (mCons m1 (mCons m2 (mCons m3 (mCons m4 mNil)))) δ S = f [x1, x2, x3, x4] S4 := (call_ok (cons_ok h1 (cons_ok h2 (cons_ok h3 (cons_ok h4 nil_ok))))).trans rfl
theorem call5 (h1 : m1 δ S = .ok x1 S1) (h2 : m2 δ S1 = .ok x2 S2) (h3 : m3 δ S2 = .ok x3 S3) (h4 : m4 δ S3 = .ok x4 S4) (h5 : m5 δ S4 = .ok x5 S5) :
    mCall (cut 5 f []) (mCons m1 (mCons m2 (mCons m3 (mCons m4 (mCons m5 mNil))))) δ S = f [x1, x2, x3, x4, x5] S5 := (call_ok (cons_ok h1 (cons_ok h2 (cons_ok h3 (cons_ok h4 (cons_ok h5 nil_ok)))))).trans rfl
end
/-- [d for d in items if t(d)], t drawing: some of the items, in their order -/
theorem lc_sub {gm : MG} {t : MT} {e : ME} {δ : Sl} {Q : Sto → Prop} : ∀ {items : List D}, (∀ d ∈ items, ∀ S, Q S → ∃ δ1 b S', gm.f d δ = some δ1 ∧ t δ1 S = .ok b S' ∧ Q S' ∧ e δ1 S' = .ok d S') → ∀ acc S, Q S → ∃ vs S', lcGo gm t e δ items acc S = .ok (acc ++ vs) S' ∧ Q S' ∧ vs.Sublist items
  | [], _, acc, S, h => ⟨[], S, by simp [lcGo], h, List.Sublist.refl _⟩
  | d :: r, hb, acc, S, h => by
    obtain ⟨δ1, b, S1, e1, e2, h1, e3⟩ := hb d List.mem_cons_self S h
    have hr := fun d hd => hb d (List.mem_cons_of_mem _ hd)
    cases b with
    | true =>
      obtain ⟨vs, S', e4, h', hs⟩ := lc_sub (gm := gm) (t := t) (e := e) (δ := δ) (Q := Q) (items := r) hr (acc ++ [d]) S1 h1
      refine ⟨d :: vs, S', ?_, h', hs.cons_cons d⟩
      unfold lcGo
      rw [e1]
      simp only [e2, R.bind_ok, if_true, e3]
      rw [e4]
      simp
    | false =>
      obtain ⟨vs, S', e4, h', hs⟩ := lc_sub (gm := gm) (t := t) (e := e) (δ := δ) (Q := Q) (items := r) hr acc S1 h1
      refine ⟨vs, S', ?_, h', hs.cons d⟩
      unfold lcGo
      rw [e1]
      simp only [e2, R.bind_ok, Bool.false_eq_true, if_false]
      exact e4
theorem letters_lt : ∀ k ∈ letters.cps.toList, k < 16 ^ 8 := by decide +kernel
theorem isLet.lt {x : Str} (h : isLet x) : ∀ c ∈ x.cps.toList, c < 16 ^ 8 := fun c hc => letters_lt c (h.2.2 c hc)
theorem rp_let {x : Str} (h : isLet x) : Rp (.str x) 0 82 := (Rp.str h.lt).mono (Nat.le_refl _) (by have := h.1; omega)
theorem finD_ok {A : Sto} {xs : List D} {n : Nat} (h : n = A.length) : finD n (.loc n) (A ++ [.lst xs]) = .ok (.lst xs) A := by
  subst h
  unfold finD
  rw [if_neg (by simp), if_pos (by simp)]
  simp
section
variable {tab : Tab} {mo m : ME} {ma : MA} {δ : Sl} {S S1 S2 : Sto} {x : D} {xs vs : List D} {n i k : Nat} {fm : MF}
theorem set_exc (h : m δ S = .exc k vs S1) : sSet i m δ S = .exc k vs δ S1 := by
  unfold sSet
  rw [h]
  rfl
theorem meth_ok (h : mo δ S = .ok x S1) (hp : pick tab S1 x = some (n, fm)) (ha : ma δ S1 = .ok xs S2) (hn : xs.length + 1 = n) : mMeth tab mo ma δ S = fm (x :: xs) S2 := by
  unfold mMeth
  rw [h]
  simp only [R.bind_ok, hp, ha]
  unfold runT
  rw [if_pos hn]
theorem inst_ok (h : mo δ S = .ok x S1) (ho : isObj x = true) (ha : ma δ S1 = .ok xs S2) (hp : pick tab S2 x = some (n, fm)) (hn : xs.length + 1 = n) : mInst tab mo ma δ S = fm (x :: xs) S2 := by
  unfold mInst
  rw [h]
  simp only [R.bind_ok, ho, if_true, ha, hp]
  unfold runT
  rw [if_pos hn]
theorem forGo_nx {gm : MG} {b : MS} {d : D} {ds : List D} {δ1 δ2 : Sl} (hg : gm.f d δ = some δ1) (hb : b δ1 S = .nx δ2 S1) : forGo gm b (d :: ds) δ S = forGo gm b ds δ2 S1 := by
  rw [forGo, hg]
  simp only [hb]
theorem forGo_ret {gm : MG} {b : MS} {d r : D} {ds : List D} {δ1 : Sl} (hg : gm.f d δ = some δ1) (hb : b δ1 S = .ret r S1) : forGo gm b (d :: ds) δ S = .ret r S1 := by
  rw [forGo, hg]
  simp only [hb]
theorem mdef_ret {m : MS} {ds : List D} {δ0 : Sl} {d : D} {n : Nat} (fin : Nat → D → Sto → R D) (hd : ds.map some ++ List.replicate (n - ds.length) none = δ0) (h : m δ0 S = .ret d S1) : mDef fin n m ds S = fin S.length d S1 := by
  unfold mDef
  rw [hd, h]
theorem mdef_exc {m : MS} {ds : List D} {δ0 δ1 : Sl} {n : Nat} (fin : Nat → D → Sto → R D) (hd : ds.map some ++ List.replicate (n - ds.length) none = δ0) (h : m δ0 S = .exc k vs δ1 S1) : mDef fin n m ds S = finX S.length k vs S1 := by
  unfold mDef
  rw [hd, h]
theorem mdef_nx {m : MS} {ds : List D} {δ0 δ1 : Sl} {n : Nat} (fin : Nat → D → Sto → R D) (hd : ds.map some ++ List.replicate (n - ds.length) none = δ0) (h : m δ0 S = .nx δ1 S1) : mDef fin n m ds S = fin S.length .non S1 := by
  unfold mDef
  rw [hd, h]
theorem finD_eq {d : D} (h : S1.length = n) : finD n d S1 = .ok d S1 := by
  unfold finD
  rw [if_pos h]
theorem finX_eq (h : S1.length = n) : finX n k vs S1 = .exc k vs S1 := by
  unfold finX
  rw [if_pos h]
end
end DL

end
section
/-! DM, part a: own ==, in, len; max and min of texts; in, deep. -/
namespace DL
open PySem PySem.Spec PyProof.Rows L2
/-- an operator that a def of the program may do -/
def OpW (X : Cx) (c : RC) (W : WX) (op : Value → Value → Sem Value) (f : D → D → Sto → R D) : Prop :=
  ∀ (pins : List (Addr × Obj)) (s : Shared) (σ : L2.St) (H : Hp) (x y : V) (v u : Value) (Q : VK) (g : Wd) (Z : Hp) (S : Sto) (dx dy : D), Inv X pins σ H s → RelV x v → RelV y u → SimH c g S Z H → Rep c g dx x → Rep c g dy y →
    Post c (Rep c) g Z (f dx dy S) Q (fun cls d H' => W cls d σ H') → wpAny (model X.prog X.w) X.A (op v u) (EP X pins σ Q) X.xe s
section
variable {X : Cx} {c : RC} {W : WX} {j k : Nat} {pos p : Pos} {a b e : Expr} {ma mb m : ME} {ma' : MA} {f : D → D → Sto → R D}
theorem ce_cmpW {op : CmpOp} (ho : OpW X c W (compareOp op) f) (ha : CE X c W a ma) (hb : CE X c W b mb) (hm : behindInMarks op b = false := by rfl) : CE X c W (.Compare a [op] [b] pos) (mBin f ma mb) := by
  refine ⟨fun pins s σ H Q I ⟨g, Z, δ, S, sm, sl, q⟩ => ?_⟩
  exact wpAny_Compare1 (binT ha hb (R := fun x y H2 => ∃ g2 S2 dx dy, SimH c g2 S2 Z H2 ∧ Rep c g2 dx x ∧ Rep c g2 dy y ∧ Post c (Rep c) g2 Z (f dx dy S2) Q fun cls d H' => W cls d σ H') I
    ⟨g, Z, δ, S, sm, sl, Post.bind q fun dx S1 g1 v H1 _ le1 s1 r1 q1 => ⟨g1, Z, δ, S1, s1, sl.up le1, Post.bind q1 fun dy S2 g2 w H2 _ le2 s2 r2 q2 => ⟨g2, S2, dx, dy, s2, Rep.up le2 r1, r2, q2⟩⟩⟩
    fun v u s2 x y H2 I2 rx ry ⟨g2, S2, dx, dy, sm2, r1, r2, q2⟩ => ho pins s2 σ H2 x y v u Q g2 Z S2 dx dy I2 rx ry sm2 r1 r2 q2) hm
theorem ct_cmpW {op : CmpOp} (ho : OpW X c W (compareOp op) f) (ha : CE X c W a ma) (hb : CE X c W b mb) (hm : behindInMarks op b = false := by rfl) : CT X c W (.Compare a [op] [b] pos) (mTest (mBin f ma mb)) := by
  refine ⟨fun pins s σ H Q I ⟨g, Z, δ, S, sm, sl, q⟩ => ?_⟩
  have q' : Post c (fun _ a b => a = b) g Z ((mBin f ma mb δ S).bind fun x S1 => match x with | .bl k => .ok k S1 | _ => .bad) Q (fun k d H' => W k d σ H') := q
  have qb : Post c (Rep c) g Z (mBin f ma mb δ S) (fun v H' => ∃ k, v = .bl k ∧ Q k H') (fun k d H' => W k d σ H') := Post.bind q' fun x S1 g1 v H1 _ le1 s1 r1 q1 => by
    cases x with
    | bl k => exact ⟨k, r1.bl_inv, q1 g1 k H1 (.refl g1) s1 rfl⟩
    | _ => exact q1.elim
  refine wpAny_isTrue_Compare1 (thn (ha.run pins s σ H _ I ⟨g, Z, δ, S, sm, sl, Post.bind (Q := fun x H1 => ∃ g1 S1 dx, SimH c g1 S1 Z H1 ∧ Slots c g1 δ σ ∧ Rep c g1 dx x ∧ Post c (Rep c) g1 Z ((mb δ S1).bind fun y S2 => f dx y S2) (fun v H' => ∃ k, v = .bl k ∧ Q k H') fun cls d H' => W cls d σ H') qb fun dx S1 g1 v H1 _ le1 s1 r1 q1 => ⟨g1, S1, dx, s1, sl.up le1, r1, q1⟩⟩) fun v s1 ⟨x, H1, I1, rx, g1, S1, dx, sm1, sl1, r1, q1⟩ =>
    thn (hb.run pins s1 σ H1 _ I1 ⟨g1, Z, δ, S1, sm1, sl1, Post.bind (Q := fun y H2 => ∃ g2 S2 dy, SimH c g2 S2 Z H2 ∧ Rep c g2 dx x ∧ Rep c g2 dy y ∧ Post c (Rep c) g2 Z (f dx dy S2) (fun v H' => ∃ k, v = .bl k ∧ Q k H') fun cls d H' => W cls d σ H') q1 fun dy S2 g2 w H2 _ le2 s2 r2 q2 => ⟨g2, S2, dy, s2, Rep.up le2 r1, r2, q2⟩⟩) fun u s2 ⟨y, H2, I2, ry, g2, S2, dy, sm2, r1', r2, q2⟩ =>
      thn (ho pins s2 σ H2 x y v u _ g2 Z S2 dx dy I2 rx ry sm2 r1' r2 q2) fun cc s3 ⟨z, H3, I3, r3, kk, ee, q3⟩ => ?_) hm
  subst ee
  cases r3
  exact wpAny_truthy_bool ⟨H3, I3, q3⟩
/-! ### own == -/
/-- x == y, both instances of the same class -/
def fEqO (tab : Tab) (x y : D) (S : Sto) : R D := match insOf S x, insOf S y with
  | some (k, _), some (k', _) => if k = k' then (match tab k with
    | some (n, fm) => if n = 2 then fm [x, y] S else .bad
    | none => .bad) else .bad
  | _, _ => .bad
theorem ow_eq {tab : Tab} (cf : Cf j X c) (tk : Takes X W) (ht : ∀ k n fm, tab k = some (n, fm) → DunM X.prog X.w X.K X.mg X.base c j k "__eq__" n fm) : OpW X c W (compareOp .Eq) (fEqO tab) := by
  intro pins s σ H x y v u Q g Z S dx dy I rx ry sm r1 r2 q2
  unfold fEqO at q2
  cases e1 : insOf S dx with
  | none => rw [e1] at q2; exact q2.elim
  | some kd =>
    obtain ⟨k, ds⟩ := kd
    cases e2 : insOf S dy with
    | none => rw [e1, e2] at q2; exact q2.elim
    | some kd' =>
      obtain ⟨k', ds'⟩ := kd'
      rw [e1, e2] at q2
      simp only at q2
      by_cases hk : k = k'
      · subst hk
        rw [if_pos rfl] at q2
        cases et : tab k with
        | none => rw [et] at q2; exact q2.elim
        | some nf =>
          obtain ⟨n, fm⟩ := nf
          rw [et] at q2
          simp only at q2
          by_cases hn : n = 2
          · subst hn
            rw [if_pos rfl] at q2
            obtain ⟨f, fd, ps, hs, hf, _, F, hb⟩ := (ht k 2 fm et).ex
            obtain ⟨a, ax, fs, vs, rfl, hH, _, _⟩ := ins_at sm r1 e1
            obtain ⟨b, bx, fs', vs', rfl, hH', _, _⟩ := ins_at sm r2 e2
            obtain rfl : v = Value.ref a := rx
            obtain rfl : u = Value.ref b := ry
            obtain ⟨m, fr⟩ := I.fr
            obtain ⟨mA, OA, _⟩ := ins_get I.hok hH
            obtain ⟨mB, OB, _⟩ := ins_get I.hok hH'
            obtain ⟨oda, JA, _⟩ := OA.look
            obtain ⟨odb, JB, _⟩ := OB.look
            refine PySem.W.cmp_ofEq (PySem.W.cmp_K (op := .Eq) (tb := .ref (c.cl k)) cf.hr.units0 fr I.ok.mod.kin JA JB.type ?_ hs hf ?_)
            · unfold PySem.W.notFirst
              simp
            · refine wpAny_mono (run_G (us := [.ref a, .ref b]) (vs := [.ref a, .ref b]) (dvs := []) cf tk F hb .nil I (.cons rfl (.cons rfl .nil)) (spM_of sm (RepL.cons r1 (RepL.cons r2 RepL.nil)) rfl q2)) (fun u' s' h' => back_of h') fun _ _ h' => h'
          · rw [if_neg hn] at q2
            exact q2.elim
      · rw [if_neg hk] at q2
        exact q2.elim
/-! ### len of an instance -/
def fLenO (tab : Tab) (xs : List D) (S : Sto) : R D := match xs with
  | [x] => (match pick tab S x with
    | some (n, fm) => if n = 1 then (fm [x] S).bind fun r S' => (match r with
      | .int i => if 0 ≤ i ∧ i < 1000000 then .ok (.int i) S' else .bad
      | _ => .bad) else .bad
    | none => .bad)
  | _ => .bad
theorem run_G1 {kf : Nat} {f : Addr} {fd : FuncData} {ps : List Str} {sp : Sp} {pins : List (Addr × Obj)} {σ : L2.St} {H : Hp} {s : Shared} {Q : VK} {us : List Value} {vs : List V} (cf : Cf (kf + 1) X c) (tk : Takes X W) (F : FnG X.prog X.w X.K X.mg X.base kf f fd ps sp) (hb : Binds X.K fd ps [])
    (I : Inv X pins σ H s) (r : Vals vs us) (h : sp vs H Q fun cls d H' => W cls d σ H') : wpAny (model X.prog X.w) X.A.in1 (call (.ref f) us) (EP X pins σ Q) X.xe s := by
  have r2 : Vals (vs ++ []) (us ++ []) := r.append .nil
  have h2 : sp (vs ++ []) H Q fun cls d H' => W cls d σ H' := by rw [List.append_nil]; exact h
  have hl : (us ++ ([] : List Value)).length = ps.length := by rw [← r2.length, F.len _ _ _ _ h2]
  refine wpAny_call (codeAny_mono (F.run X.A.in1 X.stack s H ⟨us, []⟩ (us ++ []) (vs ++ []) Q _ cf.gd cf.hr.in1 I.env0.in1 (hb s us I.kIn hl) r2 h2) ?_)
  rintro (err | (_ | _ | _ | u)) s' hq
  · exact passAt tk σ pins H s err s' I hq
  · exact hq.elim
  · exact hq.elim
  · exact hq.elim
  · exact I.after hq
theorem ce_lenO {tab : Tab} {x : Str} (cf : Cf (j + 1) X c) (tk : Takes X W) (ht : ∀ k n fm, tab k = some (n, fm) → DunM X.prog X.w X.K X.mg X.base c j k "__len__" n fm) (ha : CA X c W [e] ma') (hg : Gl X x) (hm : X.mg x = none) (hv : bootBuiltins x = some (.builtin "len"))
    (hn : x ≠ "__name__" := by decide) (hdb : (x == ("__debug__" : Str)) = false := by decide) (he : starEach [e] X.env = (false, eval e X.env) :: starEach [] X.env := by rfl) (hpl : (backTo pos (starEach [] X.env)).any (·.1) = false := by rfl) : CE X c W (.Call (.Name x p) [e] [] pos) (mCall (fLenO tab) ma') := by
  refine ⟨fun pins s σ H Q I ⟨g, Z, δ, S, sm, sl, q⟩ => ?_⟩
  refine wpAny_Call_Name_kw (ld_blt I hg hm hv ?_ hn hdb)
  refine PyProof.Rows.callWith_builtin1 (thn (ha.run pos pins s σ H _ I ⟨g, Z, δ, S, sm, sl, Post.bind (Q := fun vs H1 => ∃ g1 S1 ds, SimH c g1 S1 Z H1 ∧ RepL c g1 ds vs ∧ Post c (Rep c) g1 Z (fLenO tab ds S1) Q fun cls d H' => W cls d σ H') q fun ds S1 g1 vs H1 _ le1 s1 r1 q1 => ⟨g1, S1, ds, s1, r1, q1⟩⟩) fun us s1 ⟨vs, H1, I1, r1, g1, S1, ds, sm1, rs, q1⟩ => ?_) he hpl
  unfold fLenO at q1
  split at q1
  · rename_i y
    split at q1
    · rename_i n fm ep
      split at q1
      · rename_i hn1
        subst hn1
        obtain ⟨v, rfl, ry⟩ := vals_one rs
        obtain ⟨k, ds', ei, et⟩ := pick_at ep
        obtain ⟨f, fd, ps, hs, hf, _, F, hb⟩ := (ht k 1 fm et).ex
        obtain ⟨a, ax, fs, vs', rfl, hH, _, _⟩ := ins_at sm1 ry ei
        obtain ⟨u, rfl, ru⟩ := vals1 r1
        obtain rfl : u = Value.ref a := ru
        obtain ⟨m, fr⟩ := I1.fr
        obtain ⟨mA, OA, _⟩ := ins_get I1.hok hH
        obtain ⟨oda, JA, _⟩ := OA.look
        refine PySem.W.len_K fr I1.ok.mod.kin JA hs hf ?_
        have qn : Post c (Rep c) g1 Z (fm [y] S1) (fun v H' => ∃ i : Int, v = .int i ∧ 0 ≤ i ∧ i < 1000000 ∧ Q (.int i) H') (fun cls d H' => W cls d σ H') := Post.bind q1 fun r S2 g2 v H2 _ le2 s2 r2 q2 => by
          split at q2
          · rename_i i e0
            split at q2
            · rename_i hi
              exact ⟨i, r2.int_inv, hi.1, hi.2, q2 g2 _ H2 (.refl g2) s2 (by rw [Rep])⟩
            · exact q2.elim
          · exact q2.elim
        refine wpAny_mono (run_G1 (us := [.ref a]) (vs := [.ref a]) cf tk F hb I1 (.cons rfl .nil) (spM_of sm1 (RepL.cons ry RepL.nil) rfl qn)) (fun u' s' ⟨v', H', I', rv', i, ev, h0, h1, q'⟩ => ?_) fun _ _ z => z
        subst ev
        obtain ⟨t, rfl⟩ := rv'
        exact ⟨⟨h0, by omega⟩, .int i, H', I'.tok _, ⟨_, rfl⟩, q'⟩
      · exact q1.elim
    · exact q1.elim
  · exact q1.elim
/-! ### in, deep -/
def fInDp (neg : Bool) (x y : D) (S : Sto) : R D := match x.py, (y.res S).py with
  | some p, some (.list qs) => if (y.res S).clean = true ∧ SeqAt.shaped p = true ∧ SeqAt.shaped (.list qs) = true then .ok (.bl (if neg then !qs.any (fun z => PyData.eqv z p) else qs.any (fun z => PyData.eqv z p))) S else .bad
  | _, _ => .bad
def rInDN (K : PySem.W.Frag) (neg : Bool) : R2 := fun x y H Q => ∃ d ds, Dp K H x d ∧ Dp K H y (.list ds) ∧ SeqAt.shaped d = true ∧ SeqAt.shaped (.list ds) = true ∧ Q (.bl (if neg then !ds.any (fun z => PyData.eqv z d) else ds.any (fun z => PyData.eqv z d))) H
theorem or_inDp (cf : Cf (j + 1) X c) : OpR X (compareOp .In) (rInDN X.K false) := op_inD (by have := cf.hr.un; omega)
theorem or_ninDp (cf : Cf (j + 1) X c) : OpR X (compareOp .NotIn) (rInDN X.K true) := op_notInD (by have := cf.hr.un; omega)
theorem od_inDp (hK : c.K = X.K) (neg : Bool) : OpD c (rInDN X.K neg) (fInDp neg) := by
  intro g Z S H x y v w Q E s rx ry q
  unfold fInDp at q
  split at q
  · rename_i p qs e1 e2
    split at q
    · rename_i h
      have D1 := py_ok s rx e1
      have D2 := py_ok (thaw_sim (H := H)) (res_up s h.1 ry) e2
      rw [hK] at D1 D2
      exact ⟨p, qs, D1, D2, h.2.1, h.2.2, q g _ H (.refl g) s rfl⟩
    · exact q.elim
  · exact q.elim
end
/-! ### max, min of two texts -/
section
variable {prog : Program} {w : World} {A : Around} {E : Value → Shared → Prop} {s : Shared}
def txtOf (x y : Str) (i : Nat) : Str := if i = 0 then x else y
theorem cmp_strs_gt {P : Nat → Value → Prop} (val : Nat → Str) (hval : ∀ i v, P i v → ∃ t, v = .str (val i) t) : CmpOf prog w A .Gt P (fun i j => decide ((val j).cps.toList < (val i).cps.toList)) := fun i j vi vj s Q E hi hj h => by
  obtain ⟨t, rfl⟩ := hval i vi hi
  obtain ⟨u, rfl⟩ := hval j vj hj
  exact richCompare_gives (op := .Gt) (typeIs_str s _ t) (typeIs_str s _ u) PySem.F.slot_str_gt PySem.F.entry_str_gt (PySem.F.args_str_gt_2 _ _) (gives_str_gt _ _ t u) (fun x => nomatch x) h
theorem cmp_strs_lt {P : Nat → Value → Prop} (val : Nat → Str) (hval : ∀ i v, P i v → ∃ t, v = .str (val i) t) : CmpOf prog w A .Lt P (fun i j => decide ((val i).cps.toList < (val j).cps.toList)) := fun i j vi vj s Q E hi hj h => by
  obtain ⟨t, rfl⟩ := hval i vi hi
  obtain ⟨u, rfl⟩ := hval j vj hj
  exact richCompare_gives (op := .Lt) (typeIs_str s _ t) (typeIs_str s _ u) PySem.F.slot_str_lt PySem.F.entry_str_lt (PySem.F.args_str_lt_2 _ _) (gives_str_lt _ _ t u) (fun x => nomatch x) h
theorem two_at {a b : Str} {t u : Tok} (i : Nat) (v : Value) (h : (#[Value.str a t, Value.str b u] : Array Value)[i]? = some v) : ∃ t', v = .str (txtOf a b i) t' := by
  match i, h with
  | 0, h => cases h; exact ⟨t, rfl⟩
  | 1, h => cases h; exact ⟨u, rfl⟩
  | n + 2, h => simp at h
theorem max_two_strs {a b : Str} {t u : Tok} {Q : Value → Shared → Prop} (hh : A.handled = none)
    (h : ∀ h' tk, (∀ c o, s.heap.get? c = some o → h'.get? c = some o) → Q (if a.cps.toList < b.cps.toList then .str b u else .str a t) { s with heap := h', toks := tk }) :
    wpAny (model prog w) A (call (.builtin "max") [.str a t, .str b u]) Q E s := by
  have hT : (s.heap.push { cls := .type "tuple", data := .seq #[.str a t, .str b u] }).IsTuple s.heap.objs.size #[.str a t, .str b u] := ⟨_, Heap.get?_push_size _ rfl, rfl, 0, rfl⟩
  refine call_max_two (wpAny_pyIter_tuple hT ?_)
  have hsz : (s.heap.push { cls := .type "tuple", data := .seq #[.str a t, .str b u] }).objs.size = s.heap.objs.size + 1 := Heap.size_push ..
  refine ⟨_, [_, s.heap.objs.size], [_], _, _, _, _, rfl, Walks.tuple (A := A.in1) hh _ s.heap.objs.size (by rw [hsz]; exact Nat.ne_of_lt (Nat.lt_succ_self _)) #[.str a t, .str b u],
    ⟨⟨_, Heap.get?_push_size _ rfl, rfl, rfl⟩, hT.push _⟩, fun c hc => ?_, by simp, cmp_strs_gt (txtOf a b) (fun i v hv => two_at i v hv), fun v h' tk hP hk => ?_⟩
  · show c < ((s.heap.push _).push _).objs.size
    rw [Heap.size_push, hsz]
    rcases List.mem_cons.mp hc with rfl | hc
    · rw [hsz]; exact Nat.lt_succ_self _
    · rcases List.mem_cons.mp hc with rfl | hc
      · exact Nat.lt_succ_of_lt (Nat.lt_succ_self _)
      · cases hc
  · have hold : ∀ c o, s.heap.get? c = some o → h'.get? c = some o := fun c o e => by
      refine hk c o (fun hm => ?_) (Heap.get?_push_of_some _ (Heap.get?_push_of_some _ e))
      rcases List.mem_cons.mp hm with e1 | hm
      · have := Heap.lt_size e; rw [e1, hsz] at this; exact Nat.lt_irrefl _ (Nat.lt_of_succ_lt this)
      · cases hm
    have := h h' tk hold
    have hv : v = if a.cps.toList < b.cps.toList then Value.str b u else Value.str a t := by
      have hP' : (#[Value.str a t, Value.str b u] : Array Value)[argBest (fun i j => decide ((txtOf a b j).cps.toList < (txtOf a b i).cps.toList)) 1]? = some v := hP
      by_cases hba : a.cps.toList < b.cps.toList
      · have e : argBest (fun i j => decide ((txtOf a b j).cps.toList < (txtOf a b i).cps.toList)) 1 = 1 := by simp [argBest, txtOf, hba]
        rw [e] at hP'
        rw [if_pos hba]
        simpa using hP'.symm
      · have e : argBest (fun i j => decide ((txtOf a b j).cps.toList < (txtOf a b i).cps.toList)) 1 = 0 := by simp [argBest, txtOf, hba]
        rw [e] at hP'
        rw [if_neg hba]
        simpa using hP'.symm
    rw [hv]; exact this
theorem min_two_strs {a b : Str} {t u : Tok} {Q : Value → Shared → Prop} (hh : A.handled = none)
    (h : ∀ h' tk, (∀ c o, s.heap.get? c = some o → h'.get? c = some o) → Q (if b.cps.toList < a.cps.toList then .str b u else .str a t) { s with heap := h', toks := tk }) :
    wpAny (model prog w) A (call (.builtin "min") [.str a t, .str b u]) Q E s := by
  have hT : (s.heap.push { cls := .type "tuple", data := .seq #[.str a t, .str b u] }).IsTuple s.heap.objs.size #[.str a t, .str b u] := ⟨_, Heap.get?_push_size _ rfl, rfl, 0, rfl⟩
  refine call_min_two (wpAny_pyIter_tuple hT ?_)
  have hsz : (s.heap.push { cls := .type "tuple", data := .seq #[.str a t, .str b u] }).objs.size = s.heap.objs.size + 1 := Heap.size_push ..
  refine ⟨_, [_, s.heap.objs.size], [_], _, _, _, _, rfl, Walks.tuple (A := A.in1) hh _ s.heap.objs.size (by rw [hsz]; exact Nat.ne_of_lt (Nat.lt_succ_self _)) #[.str a t, .str b u],
    ⟨⟨_, Heap.get?_push_size _ rfl, rfl, rfl⟩, hT.push _⟩, fun c hc => ?_, by simp, cmp_strs_lt (txtOf a b) (fun i v hv => two_at i v hv), fun v h' tk hP hk => ?_⟩
  · show c < ((s.heap.push _).push _).objs.size
    rw [Heap.size_push, hsz]
    rcases List.mem_cons.mp hc with rfl | hc
    · rw [hsz]; exact Nat.lt_succ_self _
    · rcases List.mem_cons.mp hc with rfl | hc
      · exact Nat.lt_succ_of_lt (Nat.lt_succ_self _)
      · cases hc
  · have hold : ∀ c o, s.heap.get? c = some o → h'.get? c = some o := fun c o e => by
      refine hk c o (fun hm => ?_) (Heap.get?_push_of_some _ (Heap.get?_push_of_some _ e))
      rcases List.mem_cons.mp hm with e1 | hm
      · have := Heap.lt_size e; rw [e1, hsz] at this; exact Nat.lt_irrefl _ (Nat.lt_of_succ_lt this)
      · cases hm
    have := h h' tk hold
    have hv : v = if b.cps.toList < a.cps.toList then Value.str b u else Value.str a t := by
      have hP' : (#[Value.str a t, Value.str b u] : Array Value)[argBest (fun i j => decide ((txtOf a b i).cps.toList < (txtOf a b j).cps.toList)) 1]? = some v := hP
      by_cases hba : b.cps.toList < a.cps.toList
      · have e : argBest (fun i j => decide ((txtOf a b i).cps.toList < (txtOf a b j).cps.toList)) 1 = 1 := by simp [argBest, txtOf, hba]
        rw [e] at hP'
        rw [if_pos hba]
        simpa using hP'.symm
      · have e : argBest (fun i j => decide ((txtOf a b i).cps.toList < (txtOf a b j).cps.toList)) 1 = 0 := by simp [argBest, txtOf, hba]
        rw [e] at hP'
        rw [if_neg hba]
        simpa using hP'.symm
    rw [hv]; exact this
end
def fMaxT (xs : List D) (S : Sto) : R D := match xs with
  | [.str a, .str b] => .ok (.str (if a.cps.toList < b.cps.toList then b else a)) S
  | _ => .bad
def fMinT (xs : List D) (S : Sto) : R D := match xs with
  | [.str a, .str b] => .ok (.str (if b.cps.toList < a.cps.toList then b else a)) S
  | _ => .bad
def rMaxT : List V → Hp → VK → Prop := fun xs H Q => ∃ a b, xs = [.str a, .str b] ∧ Q (.str (if a.cps.toList < b.cps.toList then b else a)) H
def rMinT : List V → Hp → VK → Prop := fun xs H Q => ∃ a b, xs = [.str a, .str b] ∧ Q (.str (if b.cps.toList < a.cps.toList then b else a)) H
theorem cr_maxT {X : Cx} (hc : X.calm = true) : CallR X (.builtin "max") rMaxT := by
  intro pins s σ H xs us Q I r h
  obtain ⟨i, j, rfl, q⟩ := h
  obtain ⟨u, w', rfl, ⟨t, rfl⟩, ⟨t', rfl⟩⟩ := vals2 r
  refine max_two_strs (I.ok.hd hc) fun h' tk k => ⟨_, H, I.kept k, ?_, q⟩
  by_cases hj : i.cps.toList < j.cps.toList
  · rw [if_pos hj, if_pos hj]; exact ⟨_, rfl⟩
  · rw [if_neg hj, if_neg hj]; exact ⟨_, rfl⟩
theorem cr_minT {X : Cx} (hc : X.calm = true) : CallR X (.builtin "min") rMinT := by
  intro pins s σ H xs us Q I r h
  obtain ⟨i, j, rfl, q⟩ := h
  obtain ⟨u, w', rfl, ⟨t, rfl⟩, ⟨t', rfl⟩⟩ := vals2 r
  refine min_two_strs (I.ok.hd hc) fun h' tk k => ⟨_, H, I.kept k, ?_, q⟩
  by_cases hj : j.cps.toList < i.cps.toList
  · rw [if_pos hj, if_pos hj]; exact ⟨_, rfl⟩
  · rw [if_neg hj, if_neg hj]; exact ⟨_, rfl⟩
theorem cl_maxT {c : RC} : ClD c rMaxT fMaxT := fun g Z S H x v Q E sm rp q => by
  unfold fMaxT at q
  split at q
  · rename_i a b
    obtain ⟨u, w, rfl, r1, r2⟩ := RepL.cons_inv rp
    obtain ⟨u2, w2, rfl, r3, r4⟩ := RepL.cons_inv r2
    cases RepL.nil_inv r4
    refine ⟨a, b, by rw [r1.str_inv, r3.str_inv], q g _ H (.refl g) sm (by rw [Rep])⟩
  · exact q.elim
theorem cl_minT {c : RC} : ClD c rMinT fMinT := fun g Z S H x v Q E sm rp q => by
  unfold fMinT at q
  split at q
  · rename_i a b
    obtain ⟨u, w, rfl, r1, r2⟩ := RepL.cons_inv rp
    obtain ⟨u2, w2, rfl, r3, r4⟩ := RepL.cons_inv r2
    cases RepL.nil_inv r4
    refine ⟨a, b, by rw [r1.str_inv, r3.str_inv], q g _ H (.refl g) sm (by rw [Rep])⟩
  · exact q.elim
end DL

end
section
/-! DM, part b: a, b, c = .., .., .. -/
namespace DL
open PySem PySem.Spec PyProof.Rows L2
def sPar3 (i j l : Nat) (m : MA) : MS := fun δ S => (m δ S).flow δ fun xs S1 => match xs with
  | [x, y, z] => .nx (((δ.set i (some x)).set j (some y)).set l (some z)) S1
  | _ => .bad
theorem par3_ok {i j l : Nat} {m : MA} {δ : Sl} {S S1 : Sto} {x y z : D} (h : m δ S = .ok [x, y, z] S1) : sPar3 i j l m δ S = .nx (((δ.set i (some x)).set j (some y)).set l (some z)) S1 := by
  unfold sPar3
  rw [h]
  rfl
theorem lenO_ok {tab : Tab} {x : D} {fm : MF} {S S' : Sto} {i : Int} (hp : pick tab S x = some (1, fm)) (e : fm [x] S = .ok (.int i) S') (h0 : 0 ≤ i) (h1 : i < 1000000) : fLenO tab [x] S = .ok (.int i) S' := by
  simp only [fLenO, hp]
  refine (if_pos trivial).trans ?_
  rw [e]
  exact if_pos ⟨h0, h1⟩
section
variable {X : Cx} {c : RC} {W : WX} {k : Nat} {pos : Pos}
theorem cs_par3 {i j l : Nat} {x y z : Str} {a b e : Expr} {m : MA} {px py pz pt : Pos} {kt k2 pt2} (cf : Cf k X c) (hN : X.N.Nodup) (ha : CA X c W [a, b, e] m) (hi : X.N[i]? = some x := by rfl) (hj : X.N[j]? = some y := by rfl) (hl : X.N[l]? = some z := by rfl) (hij : i ≠ j := by decide) (hil : i ≠ l := by decide) (hjl : j ≠ l := by decide)
    (h1 : X.env.scope.names.lookup x = some .local := by rfl) (h2 : X.env.scope.names.lookup y = some .local := by rfl) (h3 : X.env.scope.names.lookup z = some .local := by rfl) (hw : swappedStores [.Tuple [.Name x px, .Name y py, .Name z pz] kt pt] (.Tuple [a, b, e] k2 pt2) X.env = pure (some [x, y, z]) := by rfl)
    (hs : swapsWithSole [.Tuple [.Name x px, .Name y py, .Name z pz] kt pt] (.Tuple [a, b, e] k2 pt2) pos.line X.env = pure false := by rfl) :
    CS X c W (.Assign [.Tuple [.Name x px, .Name y py, .Name z pz] kt pt] (.Tuple [a, b, e] k2 pt2) pos) (sPar3 i j l m) :=
  weakS (ps_par3 cf.calm hN hi hj hl hij hil hjl h1 h2 h3 ha hw hs) fun Dn σ H ⟨g, Z, δ, S, s, sl, q⟩ => ⟨g, Z, δ, S, s, sl, Post.flow sl q fun xs S1 g1 vs H1 le1 s1 r1 q1 => by
    split at q1
    · rename_i u w t
      obtain ⟨v1, r, rfl, ra, rr⟩ := RepL.cons_inv r1
      obtain ⟨v2, r', rfl, rb, rr'⟩ := RepL.cons_inv rr
      obtain ⟨v3, r'', rfl, rc, rr''⟩ := RepL.cons_inv rr'
      cases RepL.nil_inv rr''
      exact ⟨v1, v2, v3, rfl, q1 g1 _ H1 (.refl g1) s1 ((((sl.up le1).set i ra).set j rb).set l rc)⟩
    · exact q1.elim⟩
end
end DL

end
section
/-! DM, part c: isinstance with both answers and of several classes; upper; defs with *args; classmethods. -/
namespace DL
open PySem PySem.Spec PyProof.Rows L2

/-! ### isinstance -/
def basic : List String := ["NoneType", "bool", "int", "str", "list", "tuple", "dict"]
def isT (n T : String) : Bool := n == T || (n == "bool" && T == "int")
def subV (T : String) : TD → Option Bool
  | .b n => if basic.contains n = true then some (isT n T) else none
  | .c _ => none
theorem basic_all : (basic.all fun n => basic.all fun T => decide (kitB n T = some (isT n T))) = true := by decide +kernel
/-- what an answer must be: ok, and the library's -/
def SubOk (c : RC) (sub : TD → Option Bool) (u : Value) : Prop := ∀ t b, sub t = some b → t.ok c ∧ PySem.W.kitOne c.K (t.v c) u = some b
theorem subV_ok {c : RC} {T : String} (hT : basic.contains T = true) : SubOk c (subV T) (.type T) := fun t b h => by
  cases t with
  | c k => cases h
  | b n =>
    have h : (if basic.contains n = true then some (isT n T) else none) = some b := h
    by_cases hn : basic.contains n = true
    · rw [if_pos hn] at h
      cases h
      refine ⟨trivial, kit_ty ?_⟩
      have h1 := List.all_eq_true.mp basic_all n (List.contains_iff_mem.mp hn)
      exact of_decide_eq_true (List.all_eq_true.mp h1 T (List.contains_iff_mem.mp hT))
    · rw [if_neg hn] at h
      cases h
/-- one of several classes -/
def subAny : List (TD → Option Bool) → TD → Option Bool
  | [], _ => some false
  | s :: r, t => match s t with
    | some true => some true
    | some false => subAny r t
    | none => none
theorem subAny_kit {c : RC} {t : TD} : ∀ (l : List ((TD → Option Bool) × Value)), (∀ p ∈ l, SubOk c p.1 p.2) → ∀ b, subAny (l.map (·.1)) t = some b → PySem.W.kitAny c.K (t.v c) (l.map (·.2)) = some b
  | [], _, b, h => by
    have e : some false = some b := h
    cases e
    rfl
  | p :: r, hl, b, h => by
    have h1 : (match p.1 t with
      | some true => some true
      | some false => subAny (r.map (·.1)) t
      | none => none) = some b := h
    cases e : p.1 t with
    | none => rw [e] at h1; cases h1
    | some b1 =>
      rw [e] at h1
      have k := (hl p (List.mem_cons_self ..) t b1 e).2
      show PySem.W.kitAny c.K (t.v c) (p.2 :: r.map (·.2)) = some b
      refine kitAny_cons k (fun hb => ?_) fun hb => ?_
      · subst hb
        exact subAny_kit r (fun q hq => hl q (List.mem_cons_of_mem _ hq)) b h1
      · subst hb
        cases h1
        rfl
theorem subAny_ok {c : RC} {t : TD} {b : Bool} {p : (TD → Option Bool) × Value} {l : List ((TD → Option Bool) × Value)} (hl : ∀ q ∈ p :: l, SubOk c q.1 q.2) (h : subAny ((p :: l).map (·.1)) t = some b) : t.ok c ∧ PySem.W.kitAny c.K (t.v c) ((p :: l).map (·.2)) = some b := by
  refine ⟨?_, subAny_kit _ hl b h⟩
  have h1 : (match p.1 t with
    | some true => some true
    | some false => subAny (l.map (·.1)) t
    | none => none) = some b := h
  cases e : p.1 t with
  | none => rw [e] at h1; cases h1
  | some b1 => exact (hl p (List.mem_cons_self ..) t b1 e).1
def rIsTD (c : RC) : List V → Hp → VK → Prop := fun xs H Q => ∃ (x : V) (tp : Addr) (cs : List V) (t : Value) (us : List Value) (b : Bool), xs = [x, .ref tp] ∧ H tp = some (.tup cs) ∧ Paired ClsV cs us ∧ KitD c H x t ∧ PySem.W.kitAny c.K t us = some b ∧ Q (.bl b) H
section
variable {X : Cx} {c : RC} {W : WX} {j k n : Nat} {p pos p2 apos : Pos} {e o : Expr} {es : List Expr} {m mo : ME} {ms : MA}
theorem call_isTD (cf : Cq X c) : CallR X (.builtin "isinstance") (rIsTD c) := by
  intro pins s σ H xs us Q I r h
  obtain ⟨x, tp, cs, t, ws, b, rfl, hT, k, kit, e, q⟩ := h
  obtain ⟨u1, u2, rfl, r1, r2⟩ := vals2 r
  cases (show u2 = Value.ref tp from r2)
  obtain ⟨P, Z, p, hx⟩ := kit cf.kk.symm cf.px I r1
  obtain ⟨_, its, rv, o, h1, h2, n, h3⟩ := (show ObjOk X.prog X.w H s.heap tp (.tup cs) from I.hok tp _ hT)
  have e3 := ClsV.all k rv
  subst e3
  obtain ⟨oc, od, dt, sl⟩ := o
  simp only at h2 h3
  subst h2 h3
  rw [cf.kk] at e
  exact PySem.W.kia_tup Z I.kIn p h1 e hx fun tk => ⟨.bl b, H, I.tok tk, rfl, q⟩
theorem ce_isiT {x1} {q : (TD → Option Bool) × Value} {l : List ((TD → Option Bool) × Value)} {cs : List V} (cf : Cq X c) (kv : Paired ClsV cs ((q :: l).map (·.2))) (hs : ∀ r ∈ q :: l, SubOk c r.1 r.2) (he : CE X c W e m) (hx : PA X es (fun _ H Q => Q cs H)) (hz : decide (cs.length ≤ 1000) = true)
    (hm : X.mg "isinstance" = none) (hg : Gl X "isinstance" := by rfl) (hn : starEach (e :: [.Tuple es x1 p2]) X.env = (false, eval e X.env) :: starEach [.Tuple es x1 p2] X.env := by rfl) (hn2 : starEach [.Tuple es x1 p2] X.env = (false, eval (.Tuple es x1 p2) X.env) :: starEach [] X.env := by rfl)
    (hpl : (backTo pos (starEach [.Tuple es x1 p2] X.env)).any (·.1) = false := by rfl) :
    CE X c W (.Call (.Name "isinstance" p) [e, .Tuple es x1 p2] [] pos) (mUn (fIsi (subAny ((q :: l).map (·.1)))) m) := by
  refine weakE (pe_callB (call_isTD cf) hg hm PyProof.Rows.boot_isinstance (pa_cons he (pa_cons (pe_tup hx) pa_nil hn2) hn) (he := hn) (hpl := hpl)) fun σ H Q ⟨g, Z, δ, S, sm, sl, q0⟩ => ⟨g, Z, δ, S, sm, sl, Post.bind q0 fun d S1 g1 v H1 _ le1 s1 r1 q1 => ?_⟩
  have hz' := of_decide_eq_true hz
  refine ⟨by rw [sizeLine_eq]; omega, fun tp htp => ?_⟩
  unfold fIsi at q1
  cases e1 : tyD d S1 with
  | none => rw [e1] at q1; exact q1.elim
  | some t =>
    rw [e1] at q1
    simp only at q1
    cases e2 : subAny ((q :: l).map (·.1)) t with
    | none => rw [e2] at q1; exact q1.elim
    | some b =>
      rw [e2] at q1
      obtain ⟨h1, h2⟩ := subAny_ok hs e2
      have s2 := s1.beside htp (.tup cs)
      exact ⟨v, tp, cs, t.v c, _, b, rfl, upd_same, kv, kit_D s2 r1 e1 h1, h2, q1 g1 (.bl b) _ (.refl g1) s2 Rep.bl⟩

/-! ### upper -/
def fUpper (x : D) (S : Sto) : R D := match x with
  | .str z => if z.length ≤ 1000 then .ok (.str (Txt.upper z)) S else .bad
  | _ => .bad
theorem ce_upper (ho : CE X c W o mo) (hbase : attributeBase o "upper" X.env (eval o X.env) = eval o X.env := by rfl) (hline : (apos.endLine == pos.line) = true := by rfl) :
    CE X c W (.Call (.Attribute o "upper" apos) [] [] pos) (mUn fUpper mo) := by
  refine weakE (pe_upper ho hbase hline) fun σ H Q ⟨g, Z, δ, S, sm, sl, q⟩ => ⟨g, Z, δ, S, sm, sl, Post.bind q fun x S1 g1 v H1 _ le1 s1 r1 q1 => ?_⟩
  cases x with
  | str z =>
    unfold fUpper at q1
    simp only at q1
    by_cases hz : z.length ≤ 1000
    · rw [if_pos hz] at q1
      exact ⟨⟨z, r1.str_inv⟩, z, r1.str_inv, rfl, by omega, q1 g1 _ H1 (.refl g1) s1 Rep.str⟩
    · rw [if_neg hz] at q1
      exact q1.elim
  | _ => exact q1.elim
end

/-! ### defs with *args -/
/-- a def that is called with values alone -/
structure FnC (P : Program) (w : World) (K : PySem.W.Frag) (mg : Str → Option Value) (base : Heap) (k : Nat) (f : Addr) (sp : Sp) : Prop where
  run : ∀ (A : Around) (outer : List Env) (s : Shared) (H : Hp) (us : List Value) (vs : List V) (Q : VK) (E : XK), A.guards = some [] → Room k A → Env0 P w K mg base A outer s H → Vals vs us → sp vs H Q E →
    codeAny (model P w) A (.call (.ref f) ⟨us, []⟩) (CR (L2.CX P w) outer P w H s Q E) s
theorem FnC.mono {P : Program} {w : World} {K : PySem.W.Frag} {mg : Str → Option Value} {base : Heap} {i j : Nat} {f : Addr} {sp : Sp} (F : FnC P w K mg base i f sp) (h : i ≤ j) : FnC P w K mg base j f sp := ⟨fun A outer s H us vs Q E hg hr => F.run A outer s H us vs Q E hg (hr.mono h)⟩
/-- the first np by their places, all others in a tuple -/
def starS (np : Nat) (ds : List D) : List D := ds.take np ++ [.tup (ds.drop np)]
def spS (c : RC) (np : Nat) (fm : MF) : Sp := fun vs H Q E => ∃ g Z S ds, SimH c g S Z H ∧ RepL c g ds vs ∧ np ≤ ds.length ∧ ds.length ≤ 100000 ∧ Post c (Rep c) g Z (fm (starS np ds) S) Q E
theorem vals_take {vs : List V} {us : List Value} (r : Vals vs us) (n : Nat) : Vals (vs.take n) (us.take n) ∧ Vals (vs.drop n) (us.drop n) := by
  induction r generalizing n with
  | nil => simp only [List.take_nil, List.drop_nil]; exact ⟨.nil, .nil⟩
  | cons a b ih =>
    cases n with
    | zero => exact ⟨.nil, .cons a b⟩
    | succ n => exact ⟨.cons a (ih n).1, (ih n).2⟩
theorem def_okS {P : Program} {w : World} {K : PySem.W.Frag} {mg : Str → Option Value} {base : Heap} {k : Nat} {f : Addr} {x qual : Str} {params : Arguments} {body : List Stmt} {scope : Scope} {kws : List (Str × V)} {fd : FuncData} {N ps : List Str} {pv : Str} {c : RC} {fin : Nat → D → Sto → R D} {m : MS}
    (hK : c.K = K) (hnx : c.ex = none) (F : FunD K x qual params body scope [] kws f fd) (S : FnScope N (ps ++ [pv]) scope) (hfin : FinD c fin)
    (hb : ∀ (kV doc pm : Value) (an : Option Addr) (cdv ct : Value) (us rest : List Value), us.length = ps.length → bindArgs (PySem.W.fnOf x qual params body scope .none kV doc pm an cdv ct) ⟨us ++ rest, []⟩ = (newTuple rest >>= fun t => pure (ps.zip us ++ [(pv, t)])))
    (hbody : ∀ (cdv : Value) (A : Around) (outer : List Env) (s : Shared) (H : Hp) (E : XK), Cf k (cxOf (L2.CX P w) P w K mg base N qual scope f cdv A outer s H E) c → CSs (cxOf (L2.CX P w) P w K mg base N qual scope f cdv A outer s H E) c (fun cls d _ H => E cls d H) body m) :
    FnC P w K mg base (k + 1) f (spS c ps.length (mDef fin N.length m)) := by
  obtain ⟨oc, od, dV, kV, doc, pm, an, cdv, ct, osl, rfl, lk, hcd, hD, _⟩ := F.ex
  obtain rfl : dV = Value.none := by
    rcases hD with h | ⟨h, _⟩
    · exact h.2
    · exact absurd rfl h
  refine ⟨fun A outer s H us vs Q E hg hr e0 r hsp => ?_⟩
  obtain ⟨g, Z, St, ds, sm, rl, h1, h2, q⟩ := hsp
  have hlv : vs.length = ds.length := rl.length
  obtain ⟨r1, r2⟩ := vals_take r ps.length
  have hn : H s.heap.objs.size = Option.none := e0.hok.fresh (Nat.le_refl _)
  have hlu : us.length = vs.length := (Paired.length r).symm
  have hl1 : (us.take ps.length).length = ps.length := by rw [List.length_take]; omega
  have hlvs : (vs.take ps.length).length = ps.length := by rw [List.length_take]; omega
  have hz : (vs.drop ps.length).length ≤ sizeLine := by rw [List.length_drop, sizeLine_eq]; omega
  have hl2 : (us.drop ps.length).length ≤ sizeLine := by rw [List.length_drop, sizeLine_eq]; omega
  have eu : us = us.take ps.length ++ us.drop ps.length := (List.take_append_drop _ _).symm
  rw [eu]
  refine StX.run_bnd lk hcd S hr e0 (G := fun xs H2 => ∃ p, H p = Option.none ∧ xs = vs.take ps.length ++ [V.ref p] ∧ H2 = upd H p (.tup (vs.drop ps.length))) (fun A' Ex Q' h => ?_) fun s2 H2 xs ⟨p, hp, ex, eH⟩ hr' => ?_
  · rw [hb _ _ _ _ _ _ _ _ hl1]
    refine wpAny_bind (wpAny_newTuple (wpAny_pure ?_) hl2)
    have new : ObjOk P w (upd H s.heap.objs.size (.tup (vs.drop ps.length))) (s.heap.push ({ cls := .type "tuple", data := .seq (us.drop ps.length).toArray } : Obj)) s.heap.objs.size (.tup (vs.drop ps.length)) := ⟨hz, us.drop ps.length, r2, ⟨_, Heap.get?_push_size _ rfl, rfl, _, rfl⟩⟩
    have un := StX.un_laid (fs := frs outer) (s := s) (o := ({ cls := .type "tuple", data := .seq (us.drop ps.length).toArray } : Obj)) (u := .tup (vs.drop ps.length)) hn
    have z := h _ _ (vs.take ps.length ++ [V.ref s.heap.objs.size]) (us.take ps.length ++ [Value.ref s.heap.objs.size]) (StX.env0_laid e0 new) un rfl (fun e s' => StX.cxUp outer s H _ _ E e s' un (fun b o q => Heap.get?_push_of_some _ q) rfl) (r1.append (.cons rfl .nil))
      (by rw [List.length_append, List.length_append, hlvs]; rfl) ⟨_, hn, rfl, rfl⟩
    rw [List.zip_append hl1.symm] at z
    exact z
  · subst ex eH
    obtain ⟨le, sm2⟩ := sm.new hp (.tup (vs.drop ps.length))
    have rs : RepL c ⟨upd g.G p (.tup (vs.drop ps.length)), g.ι⟩ (starS ps.length ds) (vs.take ps.length ++ [V.ref p]) := by
      refine RepL.app ((rl.take _).up le) (RepL.cons ?_ RepL.nil)
      rw [Rep]
      exact ⟨p, _, rfl, .inl (.inl upd_same), (rl.drop _).up le⟩
    refine ⟨sM c (fun cls d _ H => E cls d H) m, hbody _ _ _ _ _ _ ⟨hK, hg, hr', rfl, hnx⟩, _, Z, _, St, sm2, slots_start rs, ?_⟩
    have q := Post.up le q
    unfold mDef at q
    split at q
    · rename_i e
      rw [e]
      exact fun g' σ H' le s' sl => hfin sm2.len q g' .non H' le s' Rep.non
    · rename_i e
      rw [e]
      exact fun g' v H' le s' rv => hfin sm2.len q g' v H' le s' rv
    · rename_i e
      rw [e]
      exact fun g' dd σ H' le s' sl x => fin_exc sm2.len q g' dd H' le s' x
    · exact q.elim

/-! ### classmethods, called through the class -/
structure CmM (P : Program) (w : World) (K : PySem.W.Frag) (mg : Str → Option Value) (base : Heap) (c : RC) (j k : Nat) (m : Str) (np : Nat) (fm : MF) : Prop where
  ex : ∃ mc p g, ClX.CRead K (c.cl k) mc ∧ ClX.CMet K (c.cl k) mc m p g ∧ FnC P w K mg base j g (spS c np fm)
theorem CmM.mono {P : Program} {w : World} {K : PySem.W.Frag} {mg : Str → Option Value} {base : Heap} {c : RC} {i j k : Nat} {m : Str} {np : Nat} {fm : MF} (h : CmM P w K mg base c i k m np fm) (l : i ≤ j) : CmM P w K mg base c j k m np fm :=
  let ⟨mc, p, g, h1, h2, h3⟩ := h.ex
  ⟨mc, p, g, h1, h2, h3.mono l⟩
def runS (np : Nat) (fm : MF) (ds : List D) (S : Sto) : R D := if np ≤ ds.length ∧ ds.length ≤ 100000 then fm (starS np ds) S else .bad
def mCm (k np : Nat) (fm : MF) (ms : MA) : ME := fun δ S => (ms δ S).bind fun xs S1 => runS np fm (.cls k :: xs) S1
section
variable {X : Cx} {c : RC} {W : WX} {j k np : Nat} {m x : Str} {p pos p2 apos : Pos} {e o : Expr} {es : List Expr} {fm : MF} {ms : MA}
theorem run_C {sp : Sp} {g : Addr} {pins : List (Addr × Obj)} {σ : L2.St} {H : Hp} {s : Shared} {Q : VK} {us : List Value} {vs : List V} (cf : Cf k X c) (tk : Takes X W) (F : FnC X.prog X.w X.K X.mg X.base k g sp) (I : Inv X pins σ H s) (r : Vals vs us) (h : sp vs H Q fun cls d H' => W cls d σ H') :
    wpAny (model X.prog X.w) X.A (call (.ref g) us) (EP X pins σ Q) X.xe s := by
  refine wpAny_call (codeAny_mono (F.run X.A X.stack s H us vs Q _ cf.gd cf.hr I.env0 r h) ?_)
  rintro (err | (_ | _ | _ | u)) s' hq
  · exact passAt tk σ pins H s err s' I hq
  · exact hq.elim
  · exact hq.elim
  · exact hq.elim
  · exact I.after hq
theorem run_Cc {sp : Sp} {g : Addr} {pins : List (Addr × Obj)} {σ : L2.St} {H : Hp} {s : Shared} {Q : VK} {us : List Value} {vs : List V} (cf : Cf k X c) (tk : Takes X W) (F : FnC X.prog X.w X.K X.mg X.base k g sp) (I : Inv X pins σ H s) (r : Vals vs us) (h : sp vs H Q fun cls d H' => W cls d σ H') :
    codeAny (model X.prog X.w) X.A (Code.call (Value.ref g) { pos := us }) (fun r s' => match r with
      | Except.ok (Flow.ret v) => EP X pins σ Q v s'
      | Except.ok a => False
      | Except.error e => X.xe e s') s := by
  refine codeAny_mono (F.run X.A X.stack s H us vs Q _ cf.gd cf.hr I.env0 r h) ?_
  rintro (err | (_ | _ | _ | u)) s' hq
  · exact passAt tk σ pins H s err s' I hq
  · exact hq.elim
  · exact hq.elim
  · exact hq.elim
  · exact I.after hq
theorem run_cmG {g q C : Addr} {sp : Sp} {pins : List (Addr × Obj)} {σ : L2.St} {H : Hp} {s : Shared} {Q : VK} {us : List Value} {vs : List V} (cf : Cf k X c) (tk : Takes X W) (F : FnC X.prog X.w X.K X.mg X.base k g sp) (I : Inv X ((q, PySem.W.methodObj (.ref g) (.ref C)) :: pins) σ H s) (r : Vals vs us)
    (h : sp (.ref C :: vs) H Q fun cls d H' => W cls d σ H') : wpAny (model X.prog X.w) X.A (call (.ref q) us) (EP X pins σ Q) X.xe s := by
  have z : wpAny (model X.prog X.w) X.A (call (.ref q) us) (EP X ((q, PySem.W.methodObj (.ref g) (.ref C)) :: pins) σ Q) X.xe s :=
    wpAny_call (PySem.W.method_call (ClX.pin_at I) (run_Cc (us := .ref C :: us) (vs := .ref C :: vs) cf tk F I (.cons rfl r) h))
  exact thn z fun _ _ y => ClX.unpinE y
theorem ce_cm {pl : Sem Bool} (cf : Cf j X c) (tk : Takes X W) (M : CmM X.prog X.w X.K X.mg X.base c j k m np fm) (hx : PE X o (tC (.ref (c.cl k)))) (ha : CA X c W (e :: es) ms)
    (hst : starEach (e :: es) X.env = (false, eval e X.env) :: starEach es X.env := by rfl) (hpl : (backTo pos (starEach es X.env)).any (·.1) = false := by rfl)
    (hev : eval (.Call (.Attribute o m apos) (e :: es) [] pos) X.env = (do
      let ov ← eval o X.env
      standAt apos.atName
      let (f, first) ← holding [ov] (getMethod ov m pl)
      callWith pos f first (backTo pos (starEach (e :: es) X.env)) (backToKw pos (keywordEach [] X.env))) := by rfl) :
    CE X c W (.Call (.Attribute o m apos) (e :: es) [] pos) (mCm k np fm ms) := by
  obtain ⟨mc, pr, gf, rd, cm, F⟩ := M.ex
  refine ⟨fun pins s σ H Q I ⟨g, Z, δ, S, sm, sl, q⟩ => ?_⟩
  refine PySem.W.methodCall_KW (pl := pl) (thn (hx.run pins s σ H (fun v H1 => v = .ref (c.cl k) ∧ H1 = H) I ⟨rfl, rfl⟩) fun u s1 ⟨v, H1, I1, rv, ev, eH⟩ => ?_) hev
  subst ev eH
  obtain rfl : u = Value.ref (c.cl k) := rv
  refine ClX.getmethcm_ok I1 rd cm fun s2 I2 => ?_
  refine ClX.callwith_cm I2 (ClX.base_none I1 (Nat.le_refl _)) cm.fi (thn (ha.run pos _ s2 σ H1 _ I2 ⟨g, Z, δ, S, sm, sl, Post.bind (Q := fun vs H2 => spS c np fm (.ref (c.cl k) :: vs) H2 Q fun cls d H' => W cls d σ H') q fun xs S1 g1 vs H2 _ le1 s1' r1 q1 => ?_⟩)
    fun us s3 ⟨vs, H2, I3, rv, q2⟩ => ⟨⟨ClX.pin_at I3, I3.kIn⟩, run_cmG cf tk F I3 rv q2⟩) hst hpl
  unfold runS at q1
  split at q1
  · rename_i hn
    exact ⟨g1, Z, S1, _, s1', RepL.cons (by rw [Rep]) r1, hn.1, hn.2, q1⟩
  · exact q1.elim
theorem ce_cm0 {pl : Sem Bool} (cf : Cf j X c) (tk : Takes X W) (M : CmM X.prog X.w X.K X.mg X.base c j k m np fm) (hx : PE X o (tC (.ref (c.cl k))))
    (hev : eval (.Call (.Attribute o m apos) [] [] pos) X.env = (do
      let ov ← eval o X.env
      standAt apos.atName
      let (f, first) ← holding [ov] (getMethod ov m pl)
      callWith pos f first (backTo pos (starEach [] X.env)) (backToKw pos (keywordEach [] X.env))) := by rfl) :
    CE X c W (.Call (.Attribute o m apos) [] [] pos) (mCm k np fm mNil) := by
  obtain ⟨mc, pr, gf, rd, cm, F⟩ := M.ex
  refine ⟨fun pins s σ H Q I ⟨g, Z, δ, S, sm, sl, q⟩ => ?_⟩
  refine PySem.W.methodCall_KW (pl := pl) (thn (hx.run pins s σ H (fun v H1 => v = .ref (c.cl k) ∧ H1 = H) I ⟨rfl, rfl⟩) fun u s1 ⟨v, H1, I1, rv, ev, eH⟩ => ?_) hev
  subst ev eH
  obtain rfl : u = Value.ref (c.cl k) := rv
  refine ClX.getmethcm_ok I1 rd cm fun s2 I2 => ?_
  refine PySem.W.callWith_M0 ⟨ClX.pin_at I2, I2.kIn⟩ cm.fi (run_cmG (us := []) (vs := []) cf tk F I2 .nil ?_)
  have q1 : Post c (Rep c) g Z (runS np fm [.cls k] S) Q fun cls d H' => W cls d σ H' := q
  unfold runS at q1
  split at q1
  · rename_i hn
    exact ⟨g, Z, S, _, sm, RepL.cons (by rw [Rep]) RepL.nil, hn.1, hn.2, q1⟩
  · exact q1.elim

/-! ### an instance made by a class that a name of the def holds -/
def mMkL (k n nk : Nat) (codes : List (Nat ⊕ Nat)) (more : List D) (fm : MF) (mo : ME) (mk : MA) : ME := fun δ S => (mo δ S).bind fun x S1 => match x with
  | .cls k' => if k' = k then (mk δ S1).bind fun zs S2 => if zs.length = nk then fMk k n fm (sel codes more ([] ++ zs)) S2 else .bad else .bad
  | _ => .bad
theorem ce_mkL {i n : Nat} {ks : List Str} {codes : List (Nat ⊕ Nat)} {more : List D} {kws : List Keyword} {mo : ME} {mk : MA} (cf : Cf (j + 1) X c) (tk : Takes X W) (M : MkM X.prog X.w X.K X.mg X.base c i k n 0 ks codes more fm) (hij : i ≤ j) (ho : CE X c W (.Name x p) mo) (hkw : CK X c W kws mk)
    (hall : (backToKw pos (keywordEach kws X.env)).all (·.1.isSome) = true := by rfl) (hks : (backToKw pos (keywordEach kws X.env)).filterMap (·.1) = ks := by rfl)
    (hpl : ((backTo pos (starEach [] X.env)).any (·.1) || (backToKw pos (keywordEach kws X.env)).any (·.1.isNone)) = false := by rfl) :
    CE X c W (.Call (.Name x p) [] kws pos) (mMkL k n ks.length codes more fm mo mk) := by
  obtain ⟨f, fd, ps, mz, mv, h1, h2, hb, hmore⟩ := M.ex
  have F := h2.mono hij
  refine ⟨fun pins s σ H Q I ⟨g, Z, δ, S, sm, sl, q⟩ => ?_⟩
  refine wpAny_Call_Name_kw (thn (ho.run pins s σ H _ I ⟨g, Z, δ, S, sm, sl, Post.bind (Q := fun v H1 => ∃ g1 S1, SimH c g1 S1 Z H1 ∧ Slots c g1 δ σ ∧ v = .ref (c.cl k) ∧
    Post c (Rep c) g1 Z ((mk δ S1).bind fun zs S2 => if zs.length = ks.length then fMk k n fm (sel codes more ([] ++ zs)) S2 else .bad) Q fun cls d H' => W cls d σ H') q fun y S1 g1 v H1 _ le1 s1 r1 q1 => ?_⟩) fun u s1 hx => ?_)
  · cases y with
    | cls k' =>
      simp only at q1
      by_cases hk : k' = k
      · subst hk
        rw [if_pos rfl] at q1
        rw [Rep] at r1
        exact ⟨g1, S1, s1, sl.up le1, r1, q1⟩
      · rw [if_neg hk] at q1
        exact q1.elim
    | _ => exact q1.elim
  · obtain ⟨v, H1, I1, rv, g1, S1, s1', sl1, rfl, q1⟩ := hx
    obtain rfl : u = Value.ref (c.cl k) := rv
    refine PySem.W.callWith_KW0 (h₀ := X.base) I.ok.mod.kin h1.kp hall ?_ hpl
    refine thn (hkw.run pos pins s1 σ H1 _ I1 ⟨g1, Z, δ, S1, s1', sl1, Post.bind (Q := fun vz H2 => ∃ g2 S2 zs, SimH c g2 S2 Z H2 ∧ RepL c g2 zs vz ∧ zs.length = ks.length ∧ Post c (Rep c) g2 Z (fMk k n fm (sel codes more ([] ++ zs)) S2) Q fun cls d H' => W cls d σ H') q1 fun zs S2 g2 vz H2 _ le2 s2 r2 q2 => ?_⟩) fun ws s2 hy => ?_
    · by_cases hz : zs.length = ks.length
      · rw [if_pos hz] at q2
        exact ⟨g2, S2, zs, s2, r2, hz, q2⟩
      · rw [if_neg hz] at q2
        exact q2.elim
    · obtain ⟨vz, H2, I2, rw2, g2, S2, zs, s2', r2, hz, q2⟩ := hy
      refine ⟨I2.kIn, ?_⟩
      rw [hks]
      exact mkK_end (us := []) (xs := []) (vs := []) cf tk h1 F hb hmore I2 s2' RepL.nil r2 .nil rw2 rfl hz q2
end
end DL

end
section
/-! DM, part e: what may be a list or a tuple: for, enumerate, sorted. -/
namespace DL
open PySem PySem.Spec PyProof.Rows L2

/-! ### enumerate(tuple) -/
section
open AutoSeq1 (wpAny_loadPart')
theorem meets_enumT (l : Addr) (items : Array Value) (n : Nat) (dct : Option Addr) (sl : Array (Option Value)) :
    Meets (Builtin.«enumerate.__new__» ⟨[.type "enumerate", .ref l], []⟩) (fun _ R s => s.heap.get? l = some { cls := .type "tuple", dict := dct, data := .seq items n, slots := sl } ∧
      R (.ok (.ret (.ref (s.heap.push { cls := .type "tuple_iterator", data := .fields #[.ref l, .int 0 0] }).objs.size)))
        { s with heap := (s.heap.push { cls := .type "tuple_iterator", data := .fields #[.ref l, .int 0 0] }).push { cls := .type "enumerate", data := .fields #[.none, .bool false, .ref s.heap.objs.size, rawInt 0, .none, .none] } }) :=
  .of_wp fun prog w A R s h => by
    obtain ⟨hp, g, d, tk, os⟩ := s; obtain ⟨hl, h⟩ := h
    have hsub := sub_enumerate
    have hL : Heap.IsTuple (Shared.heap ⟨hp, g, d, tk, os⟩) l items := ⟨_, hl, rfl, n, rfl⟩
    wp_walk using wpAny_loadPart' hl
    refine wpAny_stack_any fun st => wpAny_pure ?_
    split
    · rename_i c _ _ _ _ _
      cases (c == Value.type "enumerate")
      · wp_walk using wpAny_loadPart' hl, wpAny_pyIter_tuple hL
        exact ⟨_, rfl, h⟩
      · wp_walk using wpAny_loadPart' hl, wpAny_pyIter_tuple hL
        exact ⟨_, rfl, h⟩
    · wp_walk using wpAny_loadPart' hl, wpAny_pyIter_tuple hL
      exact ⟨_, rfl, h⟩
variable {prog : Program} {w : World} {A : Around} {E : Value → Shared → Prop} {s : Shared}
theorem call_enumT {l : Addr} {items : Array Value} {Q : Value → Shared → Prop} (hL : s.heap.IsTuple l items)
    (h : ∀ h', IsEnum h' (s.heap.objs.size + 1) s.heap.objs.size 0 .none → h'.IsTupleIter s.heap.objs.size l 0 → h'.objs.size = s.heap.objs.size + 2 →
      (∀ b o, s.heap.get? b = some o → h'.get? b = some o) → Q (.ref (s.heap.objs.size + 1)) { s with heap := h' }) :
    wpAny (model prog w) A (call (.type "enumerate") [.ref l]) Q E s := by
  obtain ⟨⟨c, dct, dt, sl⟩, hl, hc, n, hd⟩ := hL
  replace hc : c = .type "tuple" := hc
  replace hd : dt = .seq items n := hd
  subst hc hd
  refine callType_new F.called_enumerate (by decide) (F.typeCall_enumerate_1 _) (F.newCall_enumerate_1 _) (fun obj => F.args_object_init_2 obj _) F.entry_enumerate_new
    (meets_enumT l items n dct sl) ⟨hl, ?_⟩
  have hz : (s.heap.push { cls := .type "tuple_iterator", data := .fields #[.ref l, .int 0 0] }).objs.size = s.heap.objs.size + 1 := Heap.size_push ..
  show _ ∧ _
  rw [hz]
  have he : IsEnum ((s.heap.push { cls := .type "tuple_iterator", data := .fields #[.ref l, .int 0 0] }).push
      { cls := .type "enumerate", data := .fields #[.none, .bool false, .ref s.heap.objs.size, rawInt 0, .none, .none] }) (s.heap.objs.size + 1) s.heap.objs.size 0 .none := by
    have := Heap.get?_push_size (s.heap.push { cls := .type "tuple_iterator", data := .fields #[.ref l, .int 0 0] }) (o := { cls := .type "enumerate", data := .fields #[.none, .bool false, .ref s.heap.objs.size, rawInt 0, .none, .none] }) rfl
    rw [hz] at this; exact this
  refine ⟨⟨_, he, rfl⟩, h _ he ⟨_, Heap.get?_push_of_some _ (Heap.get?_push_size _ rfl), rfl, rfl⟩ (by rw [Heap.size_push, hz]) fun b o x => Heap.get?_push_of_some _ (Heap.get?_push_of_some _ x)⟩
end
/-- the tuple at a, each item in a new pair -/
def Iet (K : PySem.W.Frag) (a : Addr) : It :=
  ⟨fun i H => ∃ (xs : List V) (x : V), SqT K H a xs ∧ xs[i]? = some x, fun i H v H' => ∃ T x, v = .ref T ∧ H T = none ∧ H' = upd H T (.tup [.int (i : Nat), x]) ∧ ∀ xs, SqT K H a xs → xs[i]? = some x, fun i H => ∃ xs : List V, SqT K H a xs ∧ xs.length ≤ i⟩
theorem turn_enumT {P : Program} {w : World} {K : PySem.W.Frag} {elts : List Expr} {kk : Nat} {tpos : Pos} (a e it : Addr) :
    Turn P w K (.Tuple elts kk tpos) (Iet K a) [e, it] e (fun i h => (∃ old, IsEnum h e it ((i : Nat) : Int) old) ∧ h.IsTupleIter it a i ∧ e ≠ it) where
  mem := by simp
  obj := fun i h st b hb => by
    obtain ⟨⟨old, he⟩, ⟨o, ho, hc, hd⟩, _⟩ := st
    have e' : b = e ∨ b = it := by simpa using hb
    rcases e' with z | z
    · rw [z]; exact ⟨_, he, fun v q => nomatch q⟩
    · rw [z]; exact ⟨o, ho, fun v q => by rw [hd] at q; cases q⟩
  keep := fun i h h' st k => let ⟨⟨old, he⟩, hi, hne⟩ := st; ⟨⟨old, k e (by simp) _ he⟩, hi.at fun o q => k it (by simp) o q, hne⟩
  item := by
    intro X hP hw hK hc i pins s σ H E I hf st hg
    subst hP hw hK
    obtain ⟨⟨old, he⟩, hit, hne⟩ := st
    obtain ⟨xs, x, hq, hx⟩ := hg
    obtain ⟨its, rv, p, hz⟩ := I.tuple hq
    obtain ⟨u, hu, ru⟩ := rv.get hx
    have hel : e < s.heap.objs.size := Heap.lt_size he
    have hil : it < s.heap.objs.size := by obtain ⟨_, q, _⟩ := hit; exact Heap.lt_size q
    have p' : s.heap.IsTuple a its.toArray := p
    have hae : a ≠ e := fun z => by
      obtain ⟨o, ho, hcl, _⟩ := p'
      rw [z, he] at ho
      cases ho
      have h1 : Value.type "enumerate" = Value.type "tuple" := hcl
      exact absurd (Value.type.inj h1) (by decide)
    have hai : a ≠ it := fun z => by
      obtain ⟨o, ho, hcl, _⟩ := p'
      obtain ⟨o', ho', hcl', _⟩ := id hit
      rw [z, ho'] at ho
      cases ho
      have h1 := hcl'.symm.trans hcl
      exact absurd (Value.type.inj h1) (by decide)
    have hxl : i < its.toArray.size := by
      have := (List.getElem?_eq_some_iff.mp hu).1
      simpa using this
    refine wpAny_pyNext_enum_itemD (Draws.tuple (A := X.A.in1) (I.ok.hd hc) it a hai its.toArray) he ⟨hit, p'⟩ hxl hne (by simp [hne, Ne.symm hae]) fun x' h' tk hPx ho hSt hT hsz hk => ?_
    have hxu : x' = u := by
      have h1 : its.toArray[i]? = some x' := hPx
      have h2 : its.toArray[i]? = some u := by simpa using hu
      rw [h1] at h2
      exact Option.some.inj h2
    subst hxu
    obtain ⟨hit', _⟩ := hSt
    refine ⟨_, rfl, wpAny_letOwnedTupleGo_enum (s := { s with heap := h', toks := tk + 1 }) ho fun h'' he' sb => ?_⟩
    have hT2 : h''.get? s.heap.objs.size = some { cls := .type "tuple", data := .seq #[.int i tk, x'] } := (sb.2 _ (Nat.ne_of_gt hel)).trans hT
    have new : ObjOk X.prog X.w (upd H s.heap.objs.size (.tup [.int (i : Nat), x])) h'' s.heap.objs.size (.tup [.int (i : Nat), x]) :=
      ⟨by show 2 ≤ sizeLine; decide, [.int i tk, x'], .cons ⟨_, rfl⟩ (.cons ru .nil), ⟨_, hT2, rfl, _, rfl⟩⟩
    have I1 : Inv X pins σ (upd H s.heap.objs.size (.tup [.int (i : Nat), x])) { s with heap := h'', toks := tk + 1 } :=
      I.turnedNew (ch := [e, it]) (fun b ob hb q => (sb.2 b (fun z => hb (by simp [z]))).trans (hk b ob (fun z => hb (by simp [z])) (fun z => hb (by simp [z])) q)) hf (Nat.le_refl _) new
    refine ⟨.ref s.heap.objs.size, _, I1, rfl, ⟨_, x, rfl, I.hok.fresh (Nat.le_refl _), rfl, fun ys hy => by rw [I.tuple_inj hy hq]; exact hx⟩, ⟨⟨x', ?_⟩, hit'.at fun o q => (sb.2 it (Ne.symm hne)).trans q, hne⟩, fun b hb => ?_⟩
    · have e1 : ((i + 1 : Nat) : Int) = (i : Int) + 1 := by omega
      rw [e1]; exact he'
    · have hb' : b < s.heap.objs.size := by
        have e' : b = e ∨ b = it := by simpa using hb
        rcases e' with z | z
        · rw [z]; exact hel
        · rw [z]; exact hil
      rw [upd_ne (Nat.ne_of_lt hb')]
      exact (hf b hb).1
  done := by
    intro X hP hw hK hc i pins s σ H E I hf st hg
    subst hP hw hK
    obtain ⟨⟨old, he⟩, hit, hne⟩ := st
    obtain ⟨xs, hq, hx⟩ := hg
    obtain ⟨its, rv, p, hz⟩ := I.tuple hq
    obtain ⟨f0, f1, f2, f3, f4, f5⟩ := hf it (by simp)
    have hl := rv.length
    have p' : s.heap.IsTuple a its.toArray := p
    have hT : s.TypeIs (.ref e) "enumerate" := ⟨_, he, rfl⟩
    unfold pyNext
    refine wpAny_bind (wpAny_attempt (wpAny_callSpecial?_slot (name := Str.ofString "__next__") hT PySem.F.slot_enumerate_next
      (wpAny_call_entry PySem.F.slot_enumerate_next hT PySem.F.entry_enumerate_next ?_ (PySem.F.args_enumerate_next_1 _))))
    show wpAny _ _ (field (.ref e) 2 >>= _) _ _ _
    refine wpAny_bind (wpAny_field he rfl (x := .ref it) rfl ?_)
    refine wpAny_bind (wpAny_nextOf_tuple_end (A := X.A.in1) (I.ok.hd hc) hit p' (by simp; omega) fun h' x he' hx' => ?_)
    obtain ⟨o, ho, hc⟩ := hx'
    refine wpAny_bind (wpAny_isInstance (T := "StopIteration") (b := true) ⟨o, ho, hc⟩ isSubtype_stop ?_)
    exact wpAny_pure ⟨rfl, I.turned (t' := s.toks) (fun b o hb q => he' b o hb q) f0 f1 f3 f4 f5⟩
  self := fun A i s Q E st h => let ⟨⟨_, he⟩, _⟩ := st; wpAny_pyIter_enum he h

section
variable {X : Cx} {tg : Expr}
def iSq (K : PySem.W.Frag) (tl : TE) : TI := fun σ H R => tl σ H fun x H1 => ∃ a, x = .ref a ∧ (((∃ xs, SqL K H1 a xs) ∧ R (Itl K a) H1) ∨ ((∃ xs, SqT K H1 a xs) ∧ R (Itt K a) H1))
theorem pi_sq {l : Expr} {tl : TE} (hl : PE X l tl) : PI X tg l (iSq X.K tl) := by
  refine ⟨fun pins s σ H R I h => ?_⟩
  refine thn (hl.run pins s σ H _ I h) fun v s1 ⟨x, H1, I1, r1, q1⟩ => ?_
  obtain ⟨a, e, q1⟩ := q1
  subst e
  cases r1
  have fp : ∀ b ∈ [s1.heap.objs.size], FpOk X pins H1 b := fun b hb => by
    have e : b = s1.heap.objs.size := by simpa using hb
    subst e
    exact I1.fpOk (Nat.le_refl _) (I1.hok.fresh (Nat.le_refl _))
  rcases q1 with ⟨⟨xs, hq⟩, q⟩ | ⟨⟨xs, hq⟩, q⟩
  · obtain ⟨its, rv, p, hz⟩ := I1.list hq
    refine wpAny_pyIter_list p.isList ?_
    exact ⟨s1.heap.objs.size, [s1.heap.objs.size], _, _, H1, rfl, I1.kept (t' := s1.toks) fun b o e => Heap.get?_push_of_some _ e, turn_list a _, ⟨_, Heap.get?_push_size _ rfl, rfl, rfl⟩, fp, q⟩
  · obtain ⟨its, rv, p, hz⟩ := I1.tuple hq
    refine wpAny_pyIter_tuple (show s1.heap.IsTuple a its.toArray from p) ?_
    exact ⟨s1.heap.objs.size, [s1.heap.objs.size], _, _, H1, rfl, I1.kept (t' := s1.toks) fun b o e => Heap.get?_push_of_some _ e, turn_tuple a _, ⟨_, Heap.get?_push_size _ rfl, rfl, rfl⟩, fp, q⟩
def iEnSq (K : PySem.W.Frag) (ta : TA) : TI := fun σ H R => ta σ H fun vs H1 => ∃ a, vs = [.ref a] ∧ (((∃ xs, SqL K H1 a xs) ∧ R (Ite K a) H1) ∨ ((∃ xs, SqT K H1 a xs) ∧ R (Iet K a) H1))
theorem pi_enSq {e : Expr} {ta : TA} {p pos tpos : Pos} {elts : List Expr} {kk : Nat} (hg : Gl X "enumerate") (hm : X.mg "enumerate" = none) (ha : PA X [e] ta) (hs : starEach [e] X.env = [(false, eval e X.env)] := by rfl) :
    PI X (.Tuple elts kk tpos) (.Call (.Name "enumerate" p) [e] [] pos) (iEnSq X.K ta) := by
  refine ⟨fun pins s σ H R I h => ?_⟩
  refine Call_ (ld_blt I hg hm boot_enumerate (PyProof.Rows.callWith_type1 (thn (ha.run pos pins s σ H _ I h) fun us s1 ⟨vs, H1, I1, r1, q1⟩ => ?_) hs rfl))
  obtain ⟨a, ex, q1⟩ := q1
  subst ex
  cases r1 with
  | cons r rr =>
    cases rr
    cases r
    have fp : ∀ b ∈ [s1.heap.objs.size + 1, s1.heap.objs.size], FpOk X pins H1 b := fun b hb => by
      have e' : b = s1.heap.objs.size + 1 ∨ b = s1.heap.objs.size := by simpa using hb
      have hle : s1.heap.objs.size ≤ b := by
        rcases e' with z | z
        · rw [z]; exact Nat.le_add_right _ _
        · rw [z]; exact Nat.le_refl _
      exact I1.fpOk hle (I1.hok.fresh hle)
    rcases q1 with ⟨⟨xs, hq⟩, q⟩ | ⟨⟨xs, hq⟩, q⟩
    · obtain ⟨its, rv, p', hz⟩ := I1.list hq
      refine call_enumerate_list p'.isList fun h' he hit hsz hk => wpAny_pyIter_enum he ?_
      have I2 : Inv X pins σ H1 { s1 with heap := h' } := I1.kept (t' := s1.toks) hk
      exact ⟨s1.heap.objs.size + 1, [s1.heap.objs.size + 1, s1.heap.objs.size], _, _, H1, rfl, I2, turn_enum a (s1.heap.objs.size + 1) s1.heap.objs.size, ⟨⟨.none, he⟩, hit, Nat.succ_ne_self _⟩, fp, q⟩
    · obtain ⟨its, rv, p', hz⟩ := I1.tuple hq
      refine call_enumT (show s1.heap.IsTuple a its.toArray from p') fun h' he hit hsz hk => wpAny_pyIter_enum he ?_
      have I2 : Inv X pins σ H1 { s1 with heap := h' } := I1.kept (t' := s1.toks) hk
      exact ⟨s1.heap.objs.size + 1, [s1.heap.objs.size + 1, s1.heap.objs.size], _, _, H1, rfl, I2, turn_enumT a (s1.heap.objs.size + 1) s1.heap.objs.size, ⟨⟨.none, he⟩, hit, Nat.succ_ne_self _⟩, fp, q⟩
end

/-! ### mirrors -/
def mSqI (m : ME) : MA := fun δ S => (m δ S).bind fun d S1 => match d with
  | .lst xs => .ok xs S1
  | .tup xs => .ok xs S1
  | _ => .bad
def mEnS (m : ME) : MA := fun δ S => (m δ S).bind fun d S1 => match d with
  | .lst xs => .ok (xs.mapIdx fun i x => .tup [.int (i : Int), x]) S1
  | .tup xs => .ok (xs.mapIdx fun i x => .tup [.int (i : Int), x]) S1
  | _ => .bad
section
variable {X : Cx} {c : RC} {W : WX} {k : Nat}
theorem ci_sq {tg e : Expr} {m : ME} (cf : Cf k X c) (he : CE X c W e m) : CI X c W tg e (mSqI m) :=
  weakI (pi_sq he) fun σ H Q ⟨g, Z, δ, S, s, sl, q⟩ => ⟨g, Z, δ, S, s, sl, Post.bind q fun d S1 g1 v H1 eS le1 s1 r1 q1 => by
    split at q1
    · rename_i xs
      rw [Rep] at r1
      obtain ⟨a, vs, rfl, l, rs⟩ := r1
      exact ⟨a, rfl, .inl ⟨⟨vs, by rw [← cf.kk]; exact s1.gk.lst l⟩, q1 g1 _ H1 (.refl g1) s1 (it_list cf.kk l rs)⟩⟩
    · rename_i xs
      rw [Rep] at r1
      obtain ⟨a, vs, rfl, l, rs⟩ := r1
      exact ⟨a, rfl, .inr ⟨⟨vs, by rw [← cf.kk]; exact s1.gk.tup l⟩, q1 g1 _ H1 (.refl g1) s1 (it_tup cf.kk l rs)⟩⟩
    · exact q1.elim⟩
theorem it_enum {K : PySem.W.Frag} {g : Wd} {Z : Hp} {a : Addr} {xs : List D} {us : List V} (hK : c.K = K) (l : SqL c.K g.G a us) (rs : RepL c g xs us) : ItOk c g Z (Ite K a) (xs.mapIdx fun (i : Nat) x => D.tup [.int (i : Int), x]) := by
  intro g' Z' S' H' i le _ s'
  have l' : SqL K H' a us := by rw [← hK]; exact s'.gk.lst (SqL.up l le)
  refine ⟨fun h => ⟨us, l', by rw [List.length_mapIdx] at h; rw [rs.length]; exact h⟩, fun d hd => ?_⟩
  rw [List.getElem?_mapIdx] at hd
  obtain ⟨y, hy, rfl⟩ := Option.map_eq_some_iff.mp hd
  obtain ⟨v, h1, h2⟩ := rs.get hy
  refine ⟨⟨us, v, l', h1⟩, fun x H2 yl => ?_⟩
  obtain ⟨T, x2, rfl, hT, rfl, h3⟩ := yl
  have h4 := h3 us l'
  rw [h1] at h4
  cases h4
  obtain ⟨le2, s2⟩ := s'.new hT (.tup [.int (i : Nat), v])
  refine ⟨_, le2, s2, ?_⟩
  rw [Rep]
  exact ⟨T, _, rfl, .inl (.inl upd_same), RepL.cons Rep.int (RepL.cons (Rep.up le2 (Rep.up le h2)) RepL.nil)⟩
theorem it_enumT {K : PySem.W.Frag} {g : Wd} {Z : Hp} {a : Addr} {xs : List D} {us : List V} (hK : c.K = K) (l : SqT c.K g.G a us) (rs : RepL c g xs us) : ItOk c g Z (Iet K a) (xs.mapIdx fun (i : Nat) x => D.tup [.int (i : Int), x]) := by
  intro g' Z' S' H' i le _ s'
  have l' : SqT K H' a us := by rw [← hK]; exact s'.gk.tup (SqT.up l le)
  refine ⟨fun h => ⟨us, l', by rw [List.length_mapIdx] at h; rw [rs.length]; exact h⟩, fun d hd => ?_⟩
  rw [List.getElem?_mapIdx] at hd
  obtain ⟨y, hy, rfl⟩ := Option.map_eq_some_iff.mp hd
  obtain ⟨v, h1, h2⟩ := rs.get hy
  refine ⟨⟨us, v, l', h1⟩, fun x H2 yl => ?_⟩
  obtain ⟨T, x2, rfl, hT, rfl, h3⟩ := yl
  have h4 := h3 us l'
  rw [h1] at h4
  cases h4
  obtain ⟨le2, s2⟩ := s'.new hT (.tup [.int (i : Nat), v])
  refine ⟨_, le2, s2, ?_⟩
  rw [Rep]
  exact ⟨T, _, rfl, .inl (.inl upd_same), RepL.cons Rep.int (RepL.cons (Rep.up le2 (Rep.up le h2)) RepL.nil)⟩
theorem ci_enumS {e : Expr} {elts : List Expr} {kk : Nat} {tpos p pos : Pos} {m : ME} (cf : Cf k X c) (he : CE X c W e m) (hm : X.mg "enumerate" = none) (hg : Gl X "enumerate" := by rfl) (hs : starEach [e] X.env = [(false, eval e X.env)] := by rfl)
    (hs2 : starEach [e] X.env = (false, eval e X.env) :: starEach [] X.env := by rfl) : CI X c W (.Tuple elts kk tpos) (.Call (.Name "enumerate" p) [e] [] pos) (mEnS m) :=
  weakI (pi_enSq hg hm (pa_cons he pa_nil hs2) hs) fun σ H Q ⟨g, Z, δ, S, s, sl, q⟩ => ⟨g, Z, δ, S, s, sl, Post.bind q fun d S1 g1 v H1 eS le1 s1 r1 q1 => by
    show ∃ a, [v] = [V.ref a] ∧ _
    split at q1
    · rename_i xs
      rw [Rep] at r1
      obtain ⟨a, vs, rfl, l, rs⟩ := r1
      exact ⟨a, rfl, .inl ⟨⟨vs, by rw [← cf.kk]; exact s1.gk.lst l⟩, q1 g1 _ H1 (.refl g1) s1 (it_enum cf.kk l rs)⟩⟩
    · rename_i xs
      rw [Rep] at r1
      obtain ⟨a, vs, rfl, l, rs⟩ := r1
      exact ⟨a, rfl, .inr ⟨⟨vs, by rw [← cf.kk]; exact s1.gk.tup l⟩, q1 g1 _ H1 (.refl g1) s1 (it_enumT cf.kk l rs)⟩⟩
    · exact q1.elim⟩
end

/-! ### sorted(tuple) -/
section
variable {prog : Program} {w : World} {A : Around} {E : Value → Shared → Prop} {s : Shared}
theorem collect_tup {l : Addr} {vs : List Value} {Q : List Value → Shared → Prop} (hl : s.heap.IsTuple l vs.toArray)
    (h : Q vs { s with heap := (s.heap.push (seqObj "list" #[] 0)).update s.heap.objs.size (Obj.mapSeq (· ++ vs.toArray)) }) (hsz : vs.length ≤ sizeLine) :
    wpAny (model prog w) A (collect (.ref l)) Q E s := by
  obtain ⟨o, ho, hc, n, hd⟩ := id hl
  unfold collect
  refine wpAny_bind (wpAny_runValue (codeAny_builtin entry_proto_collect' ?_))
  show wpAny _ _ (do again (.builtin "list.__iadd__" ⟨[← newList [], .ref l], []⟩)) _ _ s
  refine wpAny_bind (wpAny_newList (wpAny_pure ⟨Code.quiet_builtin _ (by decide +kernel), codeAny_builtin entry_list_iadd' ?_⟩))
  show wpAny _ _ (Builtin.List.listExtendWith (.ref s.heap.objs.size) (.ref l) (.ref s.heap.objs.size)) _ _ { s with heap := s.heap.push (seqObj "list" #[] 0) }
  unfold Builtin.List.listExtendWith
  have ho' : (s.heap.push (seqObj "list" #[] 0)).get? l = some o := Heap.get?_push_of_some _ ho
  refine wpAny_bind (wpAny_typeOf (T := "tuple") ⟨o, ho', hc⟩ ?_)
  have ht : (Value.type "tuple" == Value.type "tuple") = true := by rfl
  rw [if_pos (by rw [ht]; simp)]
  refine wpAny_bind (listItems_at ho' hd ?_)
  refine wpAny_bind (listItems_at (xs := #[]) (n := 0) (Heap.get?_push_size _ rfl) rfl ?_)
  rw [if_neg (by simp)]
  refine wpAny_bind (listUpdate_at (xs := #[]) (n := 0) (Heap.get?_push_size _ rfl) rfl ?_ (Nat.zero_le _) (by show (#[] ++ vs.toArray).size ≤ sizeLine + 1; simp only [Array.size_append, List.size_toArray, List.length_nil]; omega))
  refine wpAny_pure ?_
  show wpAny (model prog w) A (do
      let o ← load s.heap.objs.size
      match o.data with
      | .seq xs _ => pure xs.toList
      | _ => unsupported "internal:collect") Q E { s with heap := (s.heap.push (seqObj "list" #[] 0)).update s.heap.objs.size (Obj.mapSeq (· ++ vs.toArray)) }
  refine wpAny_bind (wpAny_load (get?_update_seq (Heap.get?_push_size _ rfl) _) ?_)
  show wpAny _ _ (pure ((#[] : Array Value) ++ vs.toArray).toList) Q E _
  rw [show ((#[] : Array Value) ++ vs.toArray).toList = vs by simp]
  exact wpAny_pure h
theorem sortedT {l : Addr} {vs : List Value} {ss : List Str} {Q : Value → Shared → Prop} (hl : s.heap.IsTuple l vs.toArray) (hS : StrsAre vs ss) (h64 : vs.length < 64)
    (h : ∀ (out : Array Value) (ss' : List Str), StrsAre out.toList ss' → ss'.Perm ss → sortedS ss' = true → Q (.ref (s.heap.objs.size + 1)) { s with heap := sortedAll s.heap vs out }) :
    wpAny (model prog w) A (call (.builtin "sorted") [.ref l]) Q E s := by
  have hz : vs.length ≤ sizeLine := by rw [sizeLine_eq]; omega
  refine Calls.call_function_entry kind_sorted plain_sorted entry_sorted (args_sorted1 _) ?_
  unfold Builtin.«sorted»
  refine wpAny_bind (m := checkCount "sorted" 1 1 _) (wpAny_pure ?_)
  refine wpAny_bind (collect_tup hl ?_ hz)
  refine wpAny_bind (wpAny_newList ?_ hz)
  have hsz : ((s.heap.push (seqObj "list" #[] 0)).update s.heap.objs.size (Obj.mapSeq (· ++ vs.toArray))).objs.size = s.heap.objs.size + 1 := by
    rw [Heap.size_update, size_push']
  have hoL : (((s.heap.push (seqObj "list" #[] 0)).update s.heap.objs.size (Obj.mapSeq (· ++ vs.toArray))).push (seqObj "list" vs.toArray 0)).get? (s.heap.objs.size + 1) = some (seqObj "list" vs.toArray 0) := by
    rw [← hsz]; exact Heap.get?_push_size _ rfl
  show wpAny _ _ _ _ _ { s with heap := ((s.heap.push (seqObj "list" #[] 0)).update s.heap.objs.size (Obj.mapSeq (· ++ vs.toArray))).push (seqObj "list" vs.toArray 0) }
  rw [hsz]
  refine wpAny_bind (wpAny_holding (wpAny_call_entry slot_list_sort ⟨_, hoL, rfl⟩ entry_list_sort (list_sort_treeK strKind_oneLt hoL hS.keysOf (fun v₁ v₂ rest e => keyKind_strs (by rw [← e]; exact hS)) h64 fun st' hp hs => ⟨_, rfl, ?_⟩) (args_list_sort _)))
  obtain ⟨ss', h1, h2, h3⟩ := sorted_out_str hS hp hs
  exact wpAny_pure ⟨_, rfl, h _ ss' h1 h2 h3⟩
end
def rSortedQ (K : PySem.W.Frag) : List V → Hp → VK → Prop := fun vs H Q => ∃ (a : Addr) (xs : List Str), vs = [V.ref a] ∧ (SqL K H a (xs.map V.str) ∨ SqT K H a (xs.map V.str)) ∧ xs.length < 64 ∧
  ∀ (ys : List Str) (p : Addr), ys.Perm xs → sortedS ys = true → H p = none → Q (.ref p) (upd H p (.lst (ys.map V.str)))
theorem cr_sortedQ {X : Cx} : CallR X (.builtin "sorted") (rSortedQ X.K) := by
  intro pins s σ H vs us Q I r h
  obtain ⟨a, xs, rfl, hs, h64, q⟩ := h
  rw [Vals.ref1 r]
  have fin : ∀ (its : List Value) (out : Array Value) (ys : List Str), StrsAre out.toList ys → ys.Perm xs → sortedS ys = true → EP X pins σ Q (.ref (s.heap.objs.size + 1)) { s with heap := sortedAll s.heap its out } := fun its out ys h1 h2 h3 => by
    obtain ⟨ep, he'⟩ := PyProof.Rows.sortedAll_at s.heap its out
    have hlen : (ys.map V.str).length ≤ sizeLine := by rw [List.length_map, h2.length_eq]; exact small64 h64
    exact ⟨.ref _, upd H (s.heap.objs.size + 1) (.lst (ys.map V.str)), I.laid (t' := s.toks) (fun _ _ => PyProof.Rows.sortedAll_old) (Nat.le_succ _) ⟨hlen, out.toList, ep, vals_of_strs h1, he'⟩, rfl, q ys _ h2 h3 (I.hok.fresh (Nat.le_succ _))⟩
  rcases hs with hs | hs
  · obtain ⟨its, rv, hl, _⟩ := I.list hs
    have hlen0 := rv.length
    rw [List.length_map] at hlen0
    exact PyProof.Rows.sorted_strs hl.isList rv.strs (by rw [← hlen0]; exact h64) fun out ys h1 h2 h3 => fin its out ys h1 h2 h3
  · obtain ⟨its, rv, hl, _⟩ := I.tuple hs
    have hlen0 := rv.length
    rw [List.length_map] at hlen0
    exact sortedT (show s.heap.IsTuple a its.toArray from hl) rv.strs (by rw [← hlen0]; exact h64) fun out ys h1 h2 h3 => fin its out ys h1 h2 h3
def fSortQ (xs : List D) (S : Sto) : R D := match xs with
  | [x] => (match x.sq S with
    | some ys => (match strsOf ys with
      | some ss => if ss.length < 64 then .ok (.lst ((sortS ss).map D.str)) S else .bad
      | none => .bad)
    | none => .bad)
  | _ => .bad
theorem cl_sortQ {c : RC} : ClD c (rSortedQ c.K) fSortQ := by
  intro g Z S H xs vs Q E s r q
  unfold fSortQ at q
  split at q
  · rename_i x
    obtain ⟨v, rfl, r1⟩ := vals_one r
    cases e1 : x.sq S with
    | none => rw [e1] at q; exact q.elim
    | some ys =>
      rw [e1] at q
      simp only at q
      cases e2 : strsOf ys with
      | none => rw [e2] at q; exact q.elim
      | some ss =>
        rw [e2] at q
        simp only at q
        by_cases hl : ss.length < 64
        · rw [if_pos hl] at q
          have fin : ∀ (zs : List Str) (p : Addr), zs.Perm ss → sortedS zs = true → H p = none → Q (.ref p) (upd H p (.lst (zs.map V.str))) := fun zs p hp hz hn => by
            rw [sorted_uniq hp hz]
            exact lst_new s (strs_rep _) hn q
          by_cases ht : ∃ us, x = .tup us
          · obtain ⟨us, rfl⟩ := ht
            obtain ⟨a, ws, rfl, hs, rs⟩ := tup_ok s r1
            cases (show some us = some ys from e1)
            rw [strs_ok e2 rs] at hs
            exact ⟨a, ss, rfl, .inr hs, hl, fin⟩
          · have e3 : x.seq S = some ys := by
              rw [← e1]
              cases x <;> first | rfl | exact absurd ⟨_, rfl⟩ ht
            obtain ⟨a, ws, rfl, hs, rs⟩ := seq_ok s r1 e3
            rw [strs_ok e2 rs] at hs
            exact ⟨a, ss, rfl, .inl hs, hl, fin⟩
        · rw [if_neg hl] at q
          exact q.elim
  · exact q.elim
theorem cr_sortQ {X : Cx} {c : RC} {k : Nat} (cf : Cf k X c) : CallR X (.builtin "sorted") (rSortedQ c.K) := by
  rw [cf.kk]
  exact cr_sortedQ
end DL

end
section
/-! DM, part d: the hook with defs at any address; classmethods' facts; defaults that are tuples. -/
namespace DL
open PySem PySem.Spec PyProof.Rows L2

abbrev ZK2 (n : Nat) (g : Addr → Option Obj) : PySem.W.Frag := He.frG g (sysModules :: cStatics :: He.asD g n)
def zObs2 (n : Nat) (fa : List He.Fa) (fn : List He.DefD) (fb : List He5.DefA) (ex : PySem.W.Frag → Bool) (g : Addr → Option Obj) : (He.AlD × He.AlD) × Bool := ((He.obsD fa fn (ZK2 n g), He5.obsA [] fb (ZK2 n g)), ex (ZK2 n g))
def zHook2 (n : Nat) (fa : List He.Fa) (fn : List He.DefD) (fb : List He5.DefA) (ex : PySem.W.Frag → Bool) : PySem.W.Hook where
  α := (He.AlD × He.AlD) × Bool
  obs := fun s => zObs2 n fa fn fb ex s.heap.get?
  val := fun _ => ((He.valD fn, He5.valA fb), true)
  says := fun _ h => ∃ K : PySem.W.Frag, K.In h ∧ (He.SaysD fa fn K ∧ He5.SaysA [] fb K) ∧ ex K = true
  of := fun _ s e => ⟨ZK2 n s.heap.get?, He.frG_in, ⟨congrArg (fun z : (He.AlD × He.AlD) × Bool => z.1.1) e, congrArg (fun z : (He.AlD × He.AlD) × Bool => z.1.2) e⟩, congrArg Prod.snd e⟩
  keeps := fun _ _ _ ⟨K, h1, h2⟩ k => ⟨K, PySem.W.Frag.In.keeps h1 k, h2⟩
theorem zObs2_eq {n : Nat} {fa : List He.Fa} {fn : List He.DefD} {fb : List He5.DefA} {ex : PySem.W.Frag → Bool} {g : Addr → Option Obj} {s : Shared} (h : ∀ a, g a = s.heap.get? a) : zObs2 n fa fn fb ex g = (zHook2 n fa fn fb ex).obs s := by
  have e : g = s.heap.get? := funext h
  rw [e] <;> rfl
theorem saysA_defs {fb : List He5.DefA} {K : PySem.W.Frag} (c : He5.SaysA [] fb K) {d : He5.DefA} (h : d ∈ fb) : ∃ fd, FunD K d.name d.qual d.params d.body d.scope (d.dvs K) (d.kws K) (d.at_ K) fd := by
  obtain ⟨i, hi, e⟩ := List.getElem_of_mem h
  exact c.def_ i (by rw [List.getElem?_eq_getElem hi, e])
/-! ### classmethods -/
abbrev cmA (K : PySem.W.Frag) (C : Addr) (m : Str) : Addr := He5.wf K C "classmethod" m
def cmB (K : PySem.W.Frag) (C : Addr) (m : Str) : Bool := PySem.W.readsIn K C (.type "type") && (decide (PySem.W.specialIn K (.ref C) "__getattribute__" = some (some (.builtin "type.__getattribute__"))) && (He5.wrapB K C "classmethod" "classmethod.__get__" m && PySem.W.fnIn K (cmA K C m)))
theorem cmB_ok {K : PySem.W.Frag} {C : Addr} {m : Str} (h : cmB K C m = true) : ClX.CRead K C (.type "type") ∧ ClX.CMet K C (.type "type") m (He.ma K C m) (cmA K C m) := by
  unfold cmB at h
  obtain ⟨h1, h⟩ := band h
  obtain ⟨h2, h⟩ := band h
  obtain ⟨h3, h4⟩ := band h
  exact ⟨⟨h1, of_decide_eq_true h2⟩, He5.cmet_of h3 h4⟩
/-! ### a keyword default that is a tuple -/
def kwAt (f : Str × Option Str) (n : Str) (K : PySem.W.Frag) : Addr := match K.lookup (He.fAd K f) with
  | some ⟨_, _, .func fd, _⟩ => (match fd.kwdefaults with
    | .ref D => (match PySem.W.nsIn K D n with
      | some (some (.ref a)) => a
      | _ => 0)
    | _ => 0)
  | _ => 0
def emptB (K : PySem.W.Frag) (a : Addr) : Bool := match K.lookup a with
  | some ⟨.type c, _, .seq its _, _⟩ => decide (c = "tuple") && decide (its.size = 0)
  | _ => false
theorem empt_rep {c : RC} {g : Wd} {a : Addr} (h : emptB c.K a = true) : Rep c g (.tup []) (.ref a) := by
  unfold emptB at h
  cases q : c.K.lookup a with
  | none => rw [q] at h; cases h
  | some o =>
    obtain ⟨oc, od, dt, osl⟩ := o
    rw [q] at h
    cases oc with
    | type k =>
      cases dt with
      | seq its n =>
        obtain ⟨h1, h2⟩ := band (show (decide (k = "tuple") && decide (its.size = 0)) = true from h)
        have e0 : its = #[] := by
          have := of_decide_eq_true h2
          simpa using this
        rw [Rep]
        exact ⟨a, [], rfl, .inr ⟨_, its, n, q, congrArg Value.type (of_decide_eq_true h1), rfl, by rw [e0]; exact Nat.zero_le _, by rw [e0]; exact .nil⟩, RepL.nil⟩
      | _ => cases h
    | _ => cases dt <;> cases h
theorem pa_cls0 {X : Cx} : PA X [] (fun _ H Q => Q [] H) := pa_nil
theorem pa_cls {X : Cx} {e : Expr} {es : List Expr} {v : V} {cs : List V} (h : PE X e (tC v)) (t : PA X es (fun _ H Q => Q cs H)) (hst : starEach (e :: es) X.env = (false, eval e X.env) :: starEach es X.env := by rfl) : PA X (e :: es) (fun _ H Q => Q (v :: cs) H) := pa_cons h t hst
theorem sub_nil {c : RC} : ∀ r ∈ ([] : List ((TD → Option Bool) × Value)), SubOk c r.1 r.2 := fun _ h => nomatch h
theorem sub_cons {c : RC} {p : (TD → Option Bool) × Value} {l : List ((TD → Option Bool) × Value)} (h : SubOk c p.1 p.2) (t : ∀ r ∈ l, SubOk c r.1 r.2) : ∀ r ∈ p :: l, SubOk c r.1 r.2 := fun r hr => by
  rcases List.mem_cons.mp hr with rfl | hr
  · exact h
  · exact t r hr
end DL

end
section
/-! DM, part f: a list compared with an empty one. -/
namespace DL
open PySem PySem.Spec PyProof.Rows L2
def rNeE (K : PySem.W.Frag) : R2 := fun x y H Q => ∃ a b xs, x = .ref a ∧ y = .ref b ∧ SqL K H a xs ∧ SqL K H b [] ∧ Q (.bl (!xs.isEmpty)) H
def rEqE (K : PySem.W.Frag) : R2 := fun x y H Q => ∃ a b xs, x = .ref a ∧ y = .ref b ∧ SqL K H a xs ∧ SqL K H b [] ∧ Q (.bl xs.isEmpty) H
section
variable {X : Cx} {c : RC} {k : Nat}
theorem or_neE (cf : Cf k X c) : OpR X (compareOp .NotEq) (rNeE c.K) := by
  rw [cf.kk]
  intro pins s σ H x y v u Q I rx ry h
  obtain ⟨a, b, xs, rfl, rfl, ha, hb, q⟩ := h
  cases rx
  cases ry
  obtain ⟨its, rv, p, _⟩ := I.list ha
  obtain ⟨its2, rv2, p2, _⟩ := I.list hb
  cases rv2
  obtain ⟨⟨cls, dd, data, sl⟩, ho, hc, n, hd⟩ := id p.isList
  obtain ⟨⟨cls2, dd2, data2, sl2⟩, ho2, hc2, n2, hd2⟩ := id p2.isList
  simp only at hc hd hc2 hd2
  subst hc hd hc2 hd2
  have hu : X.A.units < cLine := by have := hu_of cf.hr; omega
  have hl := rv.length
  cases xs with
  | nil =>
    cases rv
    exact richCompare_meets_room (op := .NotEq) ⟨_, ho, rfl⟩ ⟨_, ho2, rfl⟩ PySem.F.slot_list_ne PySem.F.entry_list_ne (PySem.F.args_list_ne_2 _ _) (SeqAt.list_neAt a b #[] #[] n n2 dd dd2 sl sl2 rfl (fun _ => true))
      ⟨ho, ho2, fun j h1 _ => absurd h1 (by simp), show Value.bool false ≠ Value.notImplemented ∧ EP X pins σ Q (.bool false) s from ⟨(fun x => nomatch x), ⟨.bl false, H, I, rfl, q⟩⟩⟩ hu
  | cons x r =>
    have hsz : (its.toArray.size != ([] : List Value).toArray.size) = true := by
      have : its.length = (x :: r).length := hl.symm
      simp [this]
    exact richCompare_meets_room (op := .NotEq) ⟨_, ho, rfl⟩ ⟨_, ho2, rfl⟩ PySem.F.slot_list_ne PySem.F.entry_list_ne (PySem.F.args_list_ne_2 _ _) (SeqAt.list_ne_lengthsAt a b its.toArray [].toArray n n2 dd dd2 sl sl2 hsz)
      ⟨ho, ho2, show Value.bool true ≠ Value.notImplemented ∧ EP X pins σ Q (.bool true) s from ⟨(fun x => nomatch x), ⟨.bl true, H, I, rfl, q⟩⟩⟩ hu
theorem or_eqE (cf : Cf k X c) : OpR X (compareOp .Eq) (rEqE c.K) := by
  rw [cf.kk]
  intro pins s σ H x y v u Q I rx ry h
  obtain ⟨a, b, xs, rfl, rfl, ha, hb, q⟩ := h
  cases rx
  cases ry
  obtain ⟨its, rv, p, _⟩ := I.list ha
  obtain ⟨its2, rv2, p2, _⟩ := I.list hb
  cases rv2
  have hu : X.A.units < cLine := by have := hu_of cf.hr; omega
  have hl := rv.length
  cases xs with
  | nil =>
    cases rv
    exact SeqAt.RcAt.lists (e := fun _ => true) p.isList p2.isList rfl hu (fun j h1 _ => absurd h1 (by simp)) _ _ _ _ ⟨.bl true, H, I, rfl, q⟩
  | cons x r =>
    have hsz : (its.toArray.size != ([] : List Value).toArray.size) = true := by
      have : its.length = (x :: r).length := hl.symm
      simp [this]
    exact SeqAt.RcAt.lists_lengths p.isList p2.isList hsz hu _ _ _ _ ⟨.bl false, H, I, rfl, q⟩
end
def fNeE (neg : Bool) (x y : D) (S : Sto) : R D := match x.seq S, y with
  | some xs, .lst [] => .ok (.bl (if neg then !xs.isEmpty else xs.isEmpty)) S
  | _, _ => .bad
theorem emp_eq {c : RC} {g : Wd} {xs : List D} {vs : List V} (r : RepL c g xs vs) : vs.isEmpty = xs.isEmpty := by
  have := r.length
  cases xs <;> cases vs <;> simp_all
theorem od_neE {c : RC} : OpD c (rNeE c.K) (fNeE true) := by
  intro g Z S H x y v w Q E s rx ry q
  unfold fNeE at q
  split at q
  · rename_i xs e
    obtain ⟨a, vs, rfl, l, rs⟩ := seq_ok s rx e
    obtain ⟨b, ws, rfl, l2, rs2⟩ := seq_ok s ry (show (D.lst []).seq S = some [] from rfl)
    cases RepL.nil_inv rs2
    refine ⟨a, b, vs, rfl, rfl, l, l2, ?_⟩
    rw [emp_eq rs]
    exact q g _ H (.refl g) s Rep.bl
  · exact q.elim
theorem od_eqE {c : RC} : OpD c (rEqE c.K) (fNeE false) := by
  intro g Z S H x y v w Q E s rx ry q
  unfold fNeE at q
  split at q
  · rename_i xs e
    obtain ⟨a, vs, rfl, l, rs⟩ := seq_ok s rx e
    obtain ⟨b, ws, rfl, l2, rs2⟩ := seq_ok s ry (show (D.lst []).seq S = some [] from rfl)
    cases RepL.nil_inv rs2
    refine ⟨a, b, vs, rfl, rfl, l, l2, ?_⟩
    rw [emp_eq rs]
    exact q g _ H (.refl g) s Rep.bl
  · exact q.elim
/-! ### a text's slice -/
def mSliceS (a : ME) (lo hi : Option ME) : ME := fun δ S => (a δ S).bind fun x S1 => (mPart lo δ S1).bind fun l S2 => (mPart hi δ S2).bind fun h S3 => match x with
  | .str z => if z.length ≤ 1000 then .ok (.str (cutS z l h)) S3 else .bad
  | _ => .bad
theorem ce_sliceS {X : Cx} {c : RC} {W : WX} {a : Expr} {lo hi : Option Expr} {ma : ME} {ml mh : Option ME} {pos p2 : Pos} (ha : CE X c W a ma) (hl : PO X lo (oM c W ml)) (hh : PO X hi (oM c W mh)) : CE X c W (.Subscript a (.Slice lo hi none p2) pos) (mSliceS ma ml mh) :=
  weakE (pe_slice sl_str ha hl hh) fun σ H Q ⟨g, Z, δ, S, s, sl, q⟩ => ⟨g, Z, δ, S, s, sl, Post.bind q fun x S1 g1 v H1 _ le1 s1 r1 q1 => ⟨g1, Z, δ, S1, s1, sl.up le1, Post.bind q1 fun l S2 g2 l' H2 _ le2 s2 e2 q2 =>
    ⟨g2, Z, δ, S2, s2, (sl.up le1).up le2, Post.bind q2 fun h S3 g3 h' H3 _ le3 s3 e3 q3 => by
      subst e2
      subst e3
      have rx := Rep.up le3 (Rep.up le2 r1)
      cases x with
      | str z =>
        simp only at q3
        by_cases hz : z.length ≤ 1000
        · rw [if_pos hz] at q3
          exact ⟨z, rx.str_inv, by rw [sizeLine_eq]; omega, q3 g3 _ H3 (.refl g3) s3 Rep.str⟩
        · rw [if_neg hz] at q3
          exact q3.elim
      | _ => exact q3.elim⟩⟩⟩
end DL

end
section
/-! DM, part g: loops that end at the first wrong item; names told from other things; in the plain. -/
namespace DL
open PySem PySem.Spec L2
section
variable {gm : MG} {b : MS} {k : Nat} {vs : D → List D} {v : D → D} {bad : D → Bool} {I : Sl → Prop} {S : Sto}
theorem find_exc : ∀ {ds : List D}, (∀ d ∈ ds, bad d = false → ∀ δ, I δ → ∃ δ1 δ2, gm.f d δ = some δ1 ∧ b δ1 S = .nx δ2 S ∧ I δ2) → (∀ d ∈ ds, bad d = true → ∀ δ, I δ → ∃ δ1 δ2, gm.f d δ = some δ1 ∧ b δ1 S = .exc k (vs d) δ2 S) → ∀ δ, I δ →
    (∃ d, ds.find? bad = some d ∧ ∃ δ2, forGo gm b ds δ S = .exc k (vs d) δ2 S) ∨ (ds.find? bad = none ∧ ∃ δ2, forGo gm b ds δ S = .nx δ2 S ∧ I δ2)
  | [], _, _, δ, h => .inr ⟨rfl, δ, rfl, h⟩
  | d :: r, hg, hb, δ, h => by
    cases e : bad d with
    | true =>
      obtain ⟨δ1, δ2, e1, e2⟩ := hb d List.mem_cons_self e δ h
      refine .inl ⟨d, by simp [e], δ2, ?_⟩
      rw [forGo, e1]
      simp only [e2]
    | false =>
      obtain ⟨δ1, δ2, e1, e2, h2⟩ := hg d List.mem_cons_self e δ h
      have ih := find_exc (ds := r) (fun d hd => hg d (List.mem_cons_of_mem _ hd)) (fun d hd => hb d (List.mem_cons_of_mem _ hd)) δ2 h2
      have ef : (d :: r).find? bad = r.find? bad := by simp [e]
      rw [ef, forGo_nx e1 e2]
      exact ih
theorem find_ret : ∀ {ds : List D}, (∀ d ∈ ds, bad d = false → ∀ δ, I δ → ∃ δ1 δ2, gm.f d δ = some δ1 ∧ b δ1 S = .nx δ2 S ∧ I δ2) → (∀ d ∈ ds, bad d = true → ∀ δ, I δ → ∃ δ1, gm.f d δ = some δ1 ∧ b δ1 S = .ret (v d) S) → ∀ δ, I δ →
    (∃ d, ds.find? bad = some d ∧ forGo gm b ds δ S = .ret (v d) S) ∨ (ds.find? bad = none ∧ ∃ δ2, forGo gm b ds δ S = .nx δ2 S ∧ I δ2)
  | [], _, _, δ, h => .inr ⟨rfl, δ, rfl, h⟩
  | d :: r, hg, hb, δ, h => by
    cases e : bad d with
    | true =>
      obtain ⟨δ1, e1, e2⟩ := hb d List.mem_cons_self e δ h
      exact .inl ⟨d, by simp [e], forGo_ret e1 e2⟩
    | false =>
      obtain ⟨δ1, δ2, e1, e2, h2⟩ := hg d List.mem_cons_self e δ h
      have ih := find_ret (ds := r) (fun d hd => hg d (List.mem_cons_of_mem _ hd)) (fun d hd => hb d (List.mem_cons_of_mem _ hd)) δ2 h2
      have ef : (d :: r).find? bad = r.find? bad := by simp [e]
      rw [ef, forGo_nx e1 e2]
      exact ih
end
theorem mapIdx_range {α β : Type} (f : Nat → α → β) (d0 : α) (xs : List α) : xs.mapIdx f = (List.range xs.length).map fun i => f i (xs.getD i d0) := by
  refine List.ext_getElem (by simp) fun i h1 h2 => ?_
  have hi : i < xs.length := by simpa using h1
  simp [hi]
instance (x : Str) : Decidable (isLet x) := inferInstanceAs (Decidable (_ ∧ _ ∧ _))
/-- a name, of all things -/
def isName : D → Bool
  | .str x => decide (isLet x)
  | _ => false
/-- a thing that may stand where a name is wanted -/
structure Itm (d : D) : Prop where
  rp : Rp d 1 600
  ne : d.noE = true
  sh : (∃ x, d = .str x ∧ x.length ≤ 40) ∨ ((∀ x, d ≠ .str x) ∧ ∃ n, (∀ S, tyD d S = some (.b n)) ∧ basic.contains n = true ∧ isT n "str" = false)
theorem isT_str : isT "str" "str" = true := by decide
theorem sub_str {n : String} (h : basic.contains n = true) : subV "str" (.b n) = some (isT n "str") := by
  unfold subV
  exact if_pos h
theorem isi_str {x : Str} {m : ME} {δ : Sl} {S : Sto} (h : m δ S = .ok (.str x) S) : mUn (fIsi (subV "str")) m δ S = .ok (.bl true) S := isi_ok h rfl (by rw [sub_str (by decide), isT_str])
theorem Itm.let_ {x : Str} (h : isLet x) : Itm (.str x) := ⟨(rp_let h).mono (by decide) (by decide), rfl, .inl ⟨x, rfl, by have := h.1; omega⟩⟩
def strOf : D → Str
  | .str x => x
  | _ => ""
theorem strs_of {ds : List D} (h : ∀ d ∈ ds, isName d = true) : ds = (ds.map strOf).map D.str ∧ ∀ x ∈ ds.map strOf, isLet x := by
  induction ds with
  | nil => exact ⟨rfl, fun x hx => nomatch hx⟩
  | cons d r ih =>
    obtain ⟨i1, i2⟩ := ih fun d hd => h d (List.mem_cons_of_mem _ hd)
    have hd := h d List.mem_cons_self
    cases d with
    | str x =>
      refine ⟨?_, fun y hy => ?_⟩
      · rw [List.map_cons, List.map_cons, ← i1]
        rfl
      · rcases List.mem_cons.mp hy with rfl | hy
        · exact of_decide_eq_true hd
        · exact i2 y hy
    | _ => cases hd
/-- the place of the first word that is there already -/
def twIx (ss : List Str) : Option Nat := (List.range ss.length).find? fun i => decide (ss.getD i "" ∈ ss.take i)
/-- the first error that is due of a list of names: its class, its field -/
def errOf (ds : List D) : Option (Nat × List D) := match ds.find? (fun d => !isName d) with
  | some d => some (0, [d])
  | none => match twIx (ds.map strOf) with
    | some i => some (1, [.str ((ds.map strOf).getD i "")])
    | none => if 4 < ds.length then some (3, [.int 4]) else none
theorem find_none {ds : List D} (h : ds.find? (fun d => !isName d) = none) : ∀ d ∈ ds, isName d = true := fun d hd => by
  have := List.find?_eq_none.mp h d hd
  simpa using this
end DL

end
section
/-! DM, part h: own ==, !=, in, bool of instances; loops over lists that change or not; [::-1]; lists unpacked. -/
namespace DL
open PySem PySem.Spec PyProof.Rows L2

/-! ### the type of a basic thing -/
theorem sub_basic {K : PySem.W.Frag} {C : Addr} {n : String} (h : basic.contains n = true) : PySem.W.subIn K (.type n) (.ref C) = some false := by
  have key : ∀ m ∈ basic, ∃ l : List String, fastBuiltinMro m = some (l.map Value.type) := by
    intro m hm
    simp only [basic, List.mem_cons, List.not_mem_nil, or_false] at hm
    rcases hm with rfl | rfl | rfl | rfl | rfl | rfl | rfl
    · exact ⟨["NoneType", "object"], by decide +kernel⟩
    · exact ⟨["bool", "int", "object"], by decide +kernel⟩
    · exact ⟨["int", "object"], by decide +kernel⟩
    · exact ⟨["str", "object"], by decide +kernel⟩
    · exact ⟨["list", "object"], by decide +kernel⟩
    · exact ⟨["tuple", "object"], by decide +kernel⟩
    · exact ⟨["dict", "object"], by decide +kernel⟩
  obtain ⟨l, e⟩ := key n (List.contains_iff_mem.mp h)
  show (fastBuiltinMro n).map (·.contains (.ref C)) = some false
  rw [e]
  simp
def subJ (j : Nat) : TD → Option Bool
  | .c k => if k = j then some true else none
  | .b n => if basic.contains n = true then some false else none
theorem subJ_ok {c : RC} {j : Nat} (hs : ∀ t b, (match t with | .c k => if k = j then some true else none | .b _ => none) = some b → TD.ok c t ∧ PySem.W.kitOne c.K (TD.v c t) (.ref (c.cl j)) = some b) (hb : ∀ n, basic.contains n = true → PySem.W.kitOne c.K (.type n) (.ref (c.cl j)) = some false) : SubOk c (subJ j) (.ref (c.cl j)) := fun t b h => by
  cases t with
  | c k => exact hs (.c k) b h
  | b n =>
    have h' : (if basic.contains n = true then some false else none) = some b := h
    by_cases hn : basic.contains n = true
    · rw [if_pos hn] at h'
      cases h'
      exact ⟨trivial, hb n hn⟩
    · rw [if_neg hn] at h'
      cases h'

section
variable {X : Cx} {c : RC} {W : WX} {j k : Nat} {pos p : Pos} {a b e : Expr} {ma mb m : ME} {ma' : MA}
/-! ### == with any thing -/
/-- the class of a thing, for == : the same as x's, or a basic one -/
def otherOk (k : Nat) (y : D) (S : Sto) : Bool := match insOf S y with
  | some (k', _) => k == k'
  | none => (match tyD y S with
    | some (.b n) => basic.contains n
    | _ => false)
def fEqX (tab : Tab) (x y : D) (S : Sto) : R D := match insOf S x with
  | some (k, _) => if otherOk k y S = true then (match tab k with
    | some (n, fm) => if n = 2 then fm [x, y] S else .bad
    | none => .bad) else .bad
  | none => .bad
theorem other_ty {pins : List (Addr × Obj)} {σ : L2.St} {H : Hp} {s : Shared} {g : Wd} {Z : Hp} {S : Sto} {y : D} {w : V} {u : Value} {k : Nat} (cf : Cf j X c) (h : otherOk k y S = true) (I : Inv X pins σ H s) (sm : SimH c g S Z H) (r : Rep c g y w) (ru : RelV w u) :
    ∃ tb, PySem.W.Looks (model X.prog X.w) s.heap (typeOf u) tb ∧ PySem.W.notFirst X.K (c.cl k) tb = true := by
  unfold otherOk at h
  cases e2 : insOf S y with
  | some kd' =>
    obtain ⟨k', ds'⟩ := kd'
    rw [e2] at h
    have hk : k = k' := by simpa using h
    subst hk
    obtain ⟨b, bx, fs', vs', rfl, hH', _, _⟩ := ins_at sm r e2
    obtain rfl : u = Value.ref b := ru
    obtain ⟨mB, OB, _⟩ := ins_get I.hok hH'
    obtain ⟨odb, JB, _⟩ := OB.look
    refine ⟨.ref (c.cl k), JB.type, ?_⟩
    unfold PySem.W.notFirst
    simp
  | none =>
    rw [e2] at h
    simp only at h
    cases et : tyD y S with
    | none => rw [et] at h; cases h
    | some t =>
      rw [et] at h
      cases t with
      | c k' => cases h
      | b n =>
        have h' : basic.contains n = true := h
        have kd : KitD c H w (TD.v c (.b n)) := kit_D sm r et trivial
        obtain ⟨P, Zk, pk, _⟩ := kd cf.kk.symm cf.q.px I ru
        refine ⟨.type n, Zk.ty _ _ I.kIn pk, ?_⟩
        unfold PySem.W.notFirst
        rw [sub_basic h']
        simp
theorem ow_eqX {tab : Tab} (cf : Cf j X c) (tk : Takes X W) (ht : ∀ k n fm, tab k = some (n, fm) → DunM X.prog X.w X.K X.mg X.base c j k "__eq__" n fm) : OpW X c W (compareOp .Eq) (fEqX tab) := by
  intro pins s σ H x y v u Q g Z S dx dy I rx ry sm r1 r2 q2
  unfold fEqX at q2
  cases e1 : insOf S dx with
  | none => rw [e1] at q2; exact q2.elim
  | some kd =>
    obtain ⟨k, ds⟩ := kd
    rw [e1] at q2
    simp only at q2
    by_cases hk : otherOk k dy S = true
    · rw [if_pos hk] at q2
      cases et : tab k with
      | none => rw [et] at q2; exact q2.elim
      | some nf =>
        obtain ⟨n, fm⟩ := nf
        rw [et] at q2
        simp only at q2
        by_cases hn : n = 2
        · subst hn
          rw [if_pos rfl] at q2
          obtain ⟨f, fd, ps, hs, hf, _, F, hb⟩ := (ht k 2 fm et).ex
          obtain ⟨a, ax, fs, vs, rfl, hH, _, _⟩ := ins_at sm r1 e1
          obtain rfl : v = Value.ref a := rx
          obtain ⟨m, fr⟩ := I.fr
          obtain ⟨mA, OA, _⟩ := ins_get I.hok hH
          obtain ⟨oda, JA, _⟩ := OA.look
          obtain ⟨tb, htb, hnf⟩ := other_ty cf hk I sm r2 ry
          refine PySem.W.cmp_ofEq (PySem.W.cmp_K (op := .Eq) (tb := tb) cf.hr.units0 fr I.ok.mod.kin JA htb hnf hs hf ?_)
          refine wpAny_mono (run_G (us := [.ref a, u]) (vs := [.ref a, y]) (dvs := []) cf tk F hb .nil I (.cons rfl (.cons ry .nil)) (spM_of sm (RepL.cons r1 (RepL.cons r2 RepL.nil)) rfl q2)) (fun u' s' h' => back_of h') fun _ _ h' => h'
        · rw [if_neg hn] at q2
          exact q2.elim
    · rw [if_neg hk] at q2
      exact q2.elim

/-! ### != by object.__ne__ -/
def notB (r : R D) : R D := r.bind fun d S => match d with
  | .bl b => .ok (.bl (!b)) S
  | _ => .bad
/-- x != y, both of the same class -/
def fNeX (tab : Tab) (x y : D) (S : Sto) : R D := match insOf S x, insOf S y with
  | some (k, _), some (k', _) => if k = k' then (match tab k with
    | some (n, fm) => if n = 2 then notB (fm [x, y] S) else .bad
    | none => .bad) else .bad
  | _, _ => .bad
theorem not_post {g : Wd} {Z : Hp} {r : R D} {Q : VK} {E : XK} (h : Post c (Rep c) g Z (notB r) Q E) : Post c (Rep c) g Z r (fun v H' => ∃ b, v = .bl b ∧ Q (.bl (!b)) H') E := by
  unfold notB at h
  exact Post.bind h fun d S1 g1 v H1 _ le1 s1 r1 q1 => by
    cases d with
    | bl b => exact ⟨b, r1.bl_inv, q1 g1 _ H1 (.refl g1) s1 Rep.bl⟩
    | _ => exact q1.elim
section
variable {M : Model} {prog : Program} {w : World} {A : Around} {E : Value → Shared → Prop} {s : Shared} {K : PySem.W.Frag} {x C f : Addr} {ox : Obj} {od : Option Obj} {y : Value}
theorem ifBound_objNe {args : List Value} {Q : Option Value → Shared → Prop} (X : K.In s.heap) (I : PySem.W.InstAt s.heap x ox C od) (hs : PySem.W.findIn K (.ref C) "__ne__" = some (some (.builtin "object.__ne__")))
    (h : wpAny M A (call (.builtin "object.__ne__") (.ref x :: args)) (fun v => Q (some v)) E s) : wpAny M A (callSpecialIfBound? (.ref x) "__ne__" args) Q E s := by
  simp only [callSpecialIfBound?, bindSpecialIfBound?]
  refine wpAny_holding (wpAny_bind (wpAny_bind (wpAny_bind (I.type.here ((PySem.W.looks_findIn X hs).here ?_)))))
  refine wpAny_bind (wpAny_askSetting (wpAny_ite ?_))
  have fin : wpAny M A (call (.builtin "object.__ne__") ([.ref x] ++ args) >>= fun v => pure (some v)) Q E s := wpAny_bind (wpAny_mono h (fun v s' h' => wpAny_pure h') fun _ _ h' => h')
  split
  · exact wpAny_bind (wpAny_of_eq (PySem.F.cmp_object.ne.bind _) (wpAny_pure (by exact fin)))
  · exact wpAny_tryCatch (wpAny_bind (wpAny_of_eq (PySem.F.cmp_object.ne.bind _) (wpAny_pure (by exact fin))))
theorem call_objNe {Q : Value → Shared → Prop} (hu : A.units + 1 < cLine) (X : K.In s.heap) (I : PySem.W.InstAt s.heap x ox C od) (hm : PySem.W.mroIn K C (.type "object") = some true) (hs : PySem.W.findIn K (.ref C) "__eq__" = some (some (.ref f))) (hf : PySem.W.isFn K (.ref f) = true)
    (h : wpAny (model prog w) A.in1 (call (.ref f) [.ref x, y]) (fun v s' => ∃ b, v = .bool b ∧ Q (.bool (!b)) s') E s) :
    wpAny (model prog w) A (call (.builtin "object.__ne__") [.ref x, y]) Q E s := by
  refine wpAny_call (codeAny_call_builtin PySem.F.cmp_object.ne.plain PySem.F.cmpEntry_ne (PySem.W.check_slot PySem.F.cmpKind_ne PySem.F.cmpSplit_ne (I.type.andThen (PySem.W.looks_mroIn X hm)) (PySem.F.cmpArgs_ne _ _) ?_))
  unfold Builtin.«object.__ne__»
  refine wpAny_bind (m := PySem.slotArgs "__ne__" 1 _) (wpAny_pure ?_)
  show wpAny _ _ (cRoomFor "comparison" [.ref x, y] >>= _) _ _ _
  refine wpAny_bind (wpAny_cRoomFor hu ?_)
  refine wpAny_bind (m := callSpecialIfBound? (.ref x) (Str.ofString "__eq__") [y]) (PySem.W.ifBound_K X I hs hf (wpAny_mono h (fun v s' hv => ?_) fun _ _ z => z))
  obtain ⟨b, rfl, hq⟩ := hv
  refine wpAny_bind (m := truthy (.bool b)) (wpAny_truthy_bool ?_)
  first | exact wpAny_pure hq | exact hq | exact wpAny_pure ⟨_, rfl, hq⟩
theorem ne_K {Q : Value → Shared → Prop} {h₀ : Heap} {L : Addr} {m : Str → Option Value} (hu : A.units + 1 < cLine) (F : Fr h₀ L s.heap m) (X₀ : K.In h₀) (I : PySem.W.InstAt s.heap x ox C od) (hb : PySem.W.Looks (model prog w) s.heap (typeOf y) (.ref C)) (hm : PySem.W.mroIn K C (.type "object") = some true)
    (hn : PySem.W.findIn K (.ref C) "__ne__" = some (some (.builtin "object.__ne__"))) (hs : PySem.W.findIn K (.ref C) "__eq__" = some (some (.ref f))) (hf : PySem.W.isFn K (.ref f) = true)
    (h : wpAny (model prog w) A.in1 (call (.ref f) [.ref x, y]) (fun v s' => ∃ b, v = .bool b ∧ Q (.bool (!b)) s') E s) : wpAny (model prog w) A (richCompare .NotEq (.ref x) y) Q E s := by
  have X := X₀.keeps F.keep
  have one : wpAny (model prog w) A (tryCompare (.ref x) "__ne__" y) (fun r s' => ∃ v, r = some v ∧ Q v s') E s := by
    unfold tryCompare
    refine wpAny_bind (ifBound_objNe X I hn (call_objNe hu X I hm hs hf (wpAny_mono h (fun v s' hv => ?_) fun _ _ e => e)))
    obtain ⟨b, rfl, hq⟩ := hv
    exact ⟨b, rfl, wpAny_pure ⟨_, rfl, hq⟩⟩
  simp only [richCompare, cmpInfo_NotEq, oneThing_ref]
  refine wpAny_holding (wpAny_bind (wpAny_cRoomFor (Nat.lt_of_succ_lt hu) ?_))
  refine wpAny_bind (I.type.here (wpAny_bind (hb.here ?_)))
  rw [show (Value.ref C != Value.ref C) = false from by simp]
  simp only [Bool.false_eq_true, if_false]
  refine wpAny_bind (wpAny_pure ?_)
  simp only [Bool.false_eq_true, if_false]
  refine wpAny_bind (m := tryCompare (.ref x) _ y) (wpAny_mono one (fun r s' z => ?_) fun _ _ e => e)
  obtain ⟨v, rfl, hq⟩ := z
  exact wpAny_pure hq
end
/-- a class that has no != of its own -/
def NeK (K : PySem.W.Frag) (C : Addr) : Prop := PySem.W.mroIn K C (.type "object") = some true ∧ PySem.W.findIn K (.ref C) "__ne__" = some (some (.builtin "object.__ne__"))
theorem ow_neX {tab : Tab} (cf : Cf (j + 1) X c) (tk : Takes X W) (hne : ∀ k nf, tab k = some nf → NeK X.K (c.cl k)) (ht : ∀ k n fm, tab k = some (n, fm) → DunM X.prog X.w X.K X.mg X.base c j k "__eq__" n fm) : OpW X c W (compareOp .NotEq) (fNeX tab) := by
  intro pins s σ H x y v u Q g Z S dx dy I rx ry sm r1 r2 q2
  unfold fNeX at q2
  cases e1 : insOf S dx with
  | none => rw [e1] at q2; exact q2.elim
  | some kd =>
    obtain ⟨k, ds⟩ := kd
    cases e2 : insOf S dy with
    | none => rw [e1, e2] at q2; exact q2.elim
    | some kd' =>
      obtain ⟨k', ds'⟩ := kd'
      rw [e1, e2] at q2
      simp only at q2
      by_cases hk : k = k'
      · subst hk
        rw [if_pos rfl] at q2
        cases et : tab k with
        | none => rw [et] at q2; exact q2.elim
        | some nf =>
          obtain ⟨n, fm⟩ := nf
          rw [et] at q2
          simp only at q2
          by_cases hn : n = 2
          · subst hn
            rw [if_pos rfl] at q2
            obtain ⟨f, fd, ps, hs, hf, _, F, hb⟩ := (ht k 2 fm et).ex
            obtain ⟨h1, h2⟩ := hne k _ et
            obtain ⟨a, ax, fs, vs, rfl, hH, _, _⟩ := ins_at sm r1 e1
            obtain ⟨b, bx, fs', vs', rfl, hH', _, _⟩ := ins_at sm r2 e2
            obtain rfl : v = Value.ref a := rx
            obtain rfl : u = Value.ref b := ry
            obtain ⟨m, fr⟩ := I.fr
            obtain ⟨mA, OA, _⟩ := ins_get I.hok hH
            obtain ⟨mB, OB, _⟩ := ins_get I.hok hH'
            obtain ⟨oda, JA, _⟩ := OA.look
            obtain ⟨odb, JB, _⟩ := OB.look
            have hu : X.A.units + 1 < cLine := by have := cf.hr.un; omega
            show wpAny _ _ (richCompare .NotEq (.ref a) (.ref b)) _ _ _
            refine ne_K hu fr I.ok.mod.kin JA JB.type h1 h2 hs hf ?_
            refine wpAny_mono (run_G1 (us := [.ref a, .ref b]) (vs := [.ref a, .ref b]) cf tk F hb I (.cons rfl (.cons rfl .nil)) (spM_of sm (RepL.cons r1 (RepL.cons r2 RepL.nil)) rfl (not_post q2))) (fun u' s' ⟨v', H', I', rv', b, ev, q'⟩ => ?_) fun _ _ h' => h'
            subst ev
            obtain rfl : u' = Value.bool b := rv'
            exact ⟨b, rfl, .bl (!b), H', I', rfl, q'⟩
          · rw [if_neg hn] at q2
            exact q2.elim
      · rw [if_neg hk] at q2
        exact q2.elim

/-! ### in an instance -/
def fInX (tab : Tab) (x y : D) (S : Sto) : R D := match pick tab S y with
  | some (n, fm) => if n = 2 then (fm [y, x] S).bind fun d S1 => (match d with
    | .bl b => .ok (.bl b) S1
    | _ => .bad) else .bad
  | none => .bad
theorem ow_inX {tab : Tab} (cf : Cf j X c) (tk : Takes X W) (ht : ∀ k n fm, tab k = some (n, fm) → DunM X.prog X.w X.K X.mg X.base c j k "__contains__" n fm) : OpW X c W (compareOp .In) (fInX tab) := by
  intro pins s σ H x y v u Q g Z S dx dy I rx ry sm r1 r2 q2
  unfold fInX at q2
  cases ep : pick tab S dy with
  | none => rw [ep] at q2; exact q2.elim
  | some nf =>
    obtain ⟨n, fm⟩ := nf
    rw [ep] at q2
    simp only at q2
    by_cases hn : n = 2
    · subst hn
      rw [if_pos rfl] at q2
      obtain ⟨k, ds', ei, et⟩ := pick_at ep
      obtain ⟨f, fd, ps, hs, hf, _, F, hb⟩ := (ht k 2 fm et).ex
      obtain ⟨b, bx, fs', vs', rfl, hH', _, _⟩ := ins_at sm r2 ei
      obtain rfl : u = Value.ref b := ry
      obtain ⟨m, fr⟩ := I.fr
      obtain ⟨mB, OB, _⟩ := ins_get I.hok hH'
      obtain ⟨odb, JB, _⟩ := OB.look
      refine PySem.W.in_K fr I.ok.mod.kin JB hs hf ?_
      have qn : Post c (Rep c) g Z (fm [dy, dx] S) (fun v' H' => ∃ b, v' = .bl b ∧ Q (.bl b) H') (fun cls d H' => W cls d σ H') := Post.bind q2 fun d S1 g1 v H1 _ le1 s1 r1 q1 => by
        cases d with
        | bl b => exact ⟨b, r1.bl_inv, q1 g1 _ H1 (.refl g1) s1 Rep.bl⟩
        | _ => exact q1.elim
      refine wpAny_mono (run_G (us := [.ref b, v]) (vs := [.ref b, x]) (dvs := []) cf tk F hb .nil I (.cons rfl (.cons rx .nil)) (spM_of sm (RepL.cons r2 (RepL.cons r1 RepL.nil)) rfl qn)) (fun u' s' ⟨v', H', I', rv', b, ev, q'⟩ => ?_) fun _ _ h' => h'
      subst ev
      obtain rfl : u' = Value.bool b := rv'
      exact wpAny_truthy_bool ⟨.bl b, H', I', rfl, q'⟩
    · rw [if_neg hn] at q2
      exact q2.elim

/-! ### bool(x) -/
theorem run_G2 {kf : Nat} {f : Addr} {fd : FuncData} {ps : List Str} {sp : Sp} {pins : List (Addr × Obj)} {σ : L2.St} {H : Hp} {s : Shared} {Q : VK} {us : List Value} {vs : List V} (cf : Cf (kf + 2) X c) (tk : Takes X W) (F : FnG X.prog X.w X.K X.mg X.base kf f fd ps sp) (hb : Binds X.K fd ps [])
    (I : Inv X pins σ H s) (r : Vals vs us) (h : sp vs H Q fun cls d H' => W cls d σ H') : wpAny (model X.prog X.w) X.A.in1.in1 (call (.ref f) us) (EP X pins σ Q) X.xe s := by
  have r2 : Vals (vs ++ []) (us ++ []) := r.append .nil
  have h2 : sp (vs ++ []) H Q fun cls d H' => W cls d σ H' := by rw [List.append_nil]; exact h
  have hl : (us ++ ([] : List Value)).length = ps.length := by rw [← r2.length, F.len _ _ _ _ h2]
  refine wpAny_call (codeAny_mono (F.run X.A.in1.in1 X.stack s H ⟨us, []⟩ (us ++ []) (vs ++ []) Q _ cf.gd cf.hr.in1.in1 I.env0.in1.in1 (hb s us I.kIn hl) r2 h2) ?_)
  rintro (err | (_ | _ | _ | u)) s' hq
  · exact passAt tk σ pins H s err s' I hq
  · exact hq.elim
  · exact hq.elim
  · exact hq.elim
  · exact I.after hq
theorem call_boolW {prog : Program} {w : World} {A : Around} {E : Value → Shared → Prop} {s : Shared} {x : Value} {Q : Value → Shared → Prop} (h : wpAny (model prog w) A.in1.in1 (truthy x) (fun b s' => Q (.bool b) s') E s) : wpAny (model prog w) A (call (.type "bool") [x]) Q E s := by
  refine PySem.ks_callType_codesW (Q₁ := fun obj s₁ => s₁.TypeIs obj "bool" ∧ Q obj s₁) PySem.F.called_bool (fun q => wpAny_of_eq (PySem.F.typeCall_bool_1 x) q) PySem.F.entry_object_init ?_ fun obj s₁ hq => ⟨hq.1, PySem.F.args_object_init_2 obj x, ?_⟩
  · refine codeAny_of_tree ?_
    show wpAny _ _ (do checkBuiltinCall "bool.__new__" ⟨[.type "bool", x], []⟩; again (.builtin "bool.__new__" ⟨[.type "bool", x], []⟩)) _ _ s
    refine wpAny_bind (wpAny_of_eq (PySem.F.newCall_bool_1 x) (wpAny_pure ⟨plainId_quiet (by decide +kernel) _, codeAny_builtin PySem.F.entry_bool_new ?_⟩))
    rw [Around.under_plainId (by decide +kernel) _]
    have f1 := PySem.F.conv_sub_bool
    unfold Builtin.«bool.__new__»
    refine wpAny_bind (wpAny_of_eq (show isType (.type "bool") = pure true from rfl) ?_)
    refine wpAny_bind (wpAny_of_eq f1 ?_)
    refine wpAny_bind (m := PySem.someArgs "bool" 0 1 _) (wpAny_pure ?_)
    refine wpAny_bind (m := truthy x) (wpAny_mono h (fun b s' hb => ?_) fun _ _ z => z)
    exact wpAny_pure ⟨rfl, hb⟩
  · exact object_init_meets PySem.F.called_bool.init.lookup PySem.F.called_bool.made PySem.F.newNe_bool prog w A.in1 _ s₁ ⟨hq.1, rfl, hq.2⟩
end
section
variable {X : Cx} {c : RC} {W : WX} {j k : Nat} {pos p : Pos} {a b e : Expr} {ma mb m : ME} {ma' : MA}
def fBoolX (tab : Tab) (xs : List D) (S : Sto) : R D := match xs with
  | [.bl b] => .ok (.bl b) S
  | [x] => (match pick tab S x with
    | some (n, fm) => if n = 1 then (fm [x] S).bind fun d S1 => (match d with
      | .bl b => .ok (.bl b) S1
      | _ => .bad) else .bad
    | none => .bad)
  | _ => .bad
theorem ce_boolX {tab : Tab} (cf : Cf (j + 2) X c) (tk : Takes X W) (ht : ∀ k n fm, tab k = some (n, fm) → DunM X.prog X.w X.K X.mg X.base c j k "__bool__" n fm) (ha : CA X c W [e] ma') (hg : Gl X "bool" := by rfl) (hm : X.mg "bool" = none) (hv : bootBuiltins "bool" = some (.type "bool"))
    (hn : ("bool" : Str) ≠ "__name__" := by decide) (hdb : (("bool" : Str) == ("__debug__" : Str)) = false := by decide) (he : starEach [e] X.env = (false, eval e X.env) :: starEach [] X.env := by rfl) (hpl : (backTo pos (starEach [] X.env)).any (·.1) = false := by rfl) : CE X c W (.Call (.Name "bool" p) [e] [] pos) (mCall (fBoolX tab) ma') := by
  refine ⟨fun pins s σ H Q I ⟨g, Z, δ, S, sm, sl, q⟩ => ?_⟩
  refine wpAny_Call_Name_kw (ld_blt I hg hm hv ?_ hn hdb)
  refine PyProof.Rows.callWith_type1 (thn (ha.run pos pins s σ H _ I ⟨g, Z, δ, S, sm, sl, Post.bind (Q := fun vs H1 => ∃ g1 S1 ds, SimH c g1 S1 Z H1 ∧ RepL c g1 ds vs ∧ Post c (Rep c) g1 Z (fBoolX tab ds S1) Q fun cls d H' => W cls d σ H') q fun ds S1 g1 vs H1 _ le1 s1 r1 q1 => ⟨g1, S1, ds, s1, r1, q1⟩⟩) fun us s1 ⟨vs, H1, I1, r1, g1, S1, ds, sm1, rs, q1⟩ => ?_) he hpl
  unfold fBoolX at q1
  split at q1
  · rename_i bb
    obtain ⟨v, rfl, ry⟩ := vals_one rs
    obtain ⟨u, rfl, ru⟩ := vals1 r1
    rw [Rep] at ry
    subst ry
    obtain rfl : u = Value.bool bb := ru
    exact call_bool_bool ⟨.bl bb, H1, I1, rfl, q1 g1 _ H1 (.refl g1) sm1 Rep.bl⟩
  · rename_i y _
    split at q1
    · rename_i n fm ep
      split at q1
      · rename_i hn1
        subst hn1
        obtain ⟨v, rfl, ry⟩ := vals_one rs
        obtain ⟨k, ds', ei, et⟩ := pick_at ep
        obtain ⟨f, fd, ps, hs, hf, _, F, hb⟩ := (ht k 1 fm et).ex
        obtain ⟨a, ax, fs, vs', rfl, hH, _, _⟩ := ins_at sm1 ry ei
        obtain ⟨u, rfl, ru⟩ := vals1 r1
        obtain rfl : u = Value.ref a := ru
        obtain ⟨m, fr⟩ := I1.fr
        obtain ⟨mA, OA, _⟩ := ins_get I1.hok hH
        obtain ⟨oda, JA, _⟩ := OA.look
        refine call_boolW (PySem.W.truthy_K fr I1.ok.mod.kin JA hs hf ?_)
        have qn : Post c (Rep c) g1 Z (fm [y] S1) (fun v H' => ∃ b, v = .bl b ∧ Q (.bl b) H') (fun cls d H' => W cls d σ H') := Post.bind q1 fun d S2 g2 v H2 _ le2 s2 r2 q2 => by
          cases d with
          | bl b => exact ⟨b, r2.bl_inv, q2 g2 _ H2 (.refl g2) s2 Rep.bl⟩
          | _ => exact q2.elim
        refine wpAny_mono (run_G2 (us := [.ref a]) (vs := [.ref a]) cf tk F hb I1 (.cons rfl .nil) (spM_of sm1 (RepL.cons ry RepL.nil) rfl qn)) (fun u' s' ⟨v', H', I', rv', b, ev, q'⟩ => ?_) fun _ _ z => z
        subst ev
        obtain rfl : u' = Value.bool b := rv'
        exact ⟨.bl b, H', I', rfl, q'⟩
      · exact q1.elim
    · exact q1.elim
  · exact q1.elim

/-! ### loops over a list that may change, or may not, or a tuple -/
def sForA (mo : ME) (gm : MG) (body : MS) : MS := fun δ S => (mo δ S).flow δ fun d S1 => match d with
  | .lst xs => forGo gm body xs δ S1
  | .tup xs => forGo gm body xs δ S1
  | .loc n => (match S1[n]? with
    | some (.lst xs) => forGoC gm body n xs.length xs.length δ S1
    | _ => .bad)
  | _ => .bad
theorem cs_forA {tg iter : Expr} {body : List Stmt} {mo : ME} {gm : MG} {mb : MS} (cf : Cf k X c) (hp : PassesOwn (model X.prog X.w) X.A X.env X.xe) (hi : CE X c W iter mo) (hg : CG X c tg gm) (hb : CSs X c W body mb) (hs : ∀ x, foldedSetIterable iter X.env x = pure x := by intro _; rfl) : CS X c W (.For tg iter body [] pos) (sForA mo gm mb) :=
  weakS (ps_for hp cf.calm (pi_sq hi) hg hb hs) fun Dn σ H ⟨g, Z, δ, S, s, sl, q⟩ => ⟨g, Z, δ, S, s, sl, Post.flow sl q fun d S1 g1 v H1 le1 s1 r1 q1 => by
    split at q1
    · rename_i xs
      rw [Rep] at r1
      obtain ⟨a, vs, rfl, l, rs⟩ := r1
      exact ⟨a, rfl, .inl ⟨⟨vs, by rw [← cf.kk]; exact s1.gk.lst l⟩, for_ok (it_list cf.kk l rs) s1 (sl.up le1) q1⟩⟩
    · rename_i xs
      rw [Rep] at r1
      obtain ⟨a, vs, rfl, l, rs⟩ := r1
      exact ⟨a, rfl, .inr ⟨⟨vs, by rw [← cf.kk]; exact s1.gk.tup l⟩, for_ok (it_tup cf.kk l rs) s1 (sl.up le1) q1⟩⟩
    · rename_i n
      split at q1
      · rename_i xs hx
        rw [Rep] at r1
        obtain ⟨a, rfl, ea⟩ := r1
        obtain ⟨_, _, hc, vs, hH, rs⟩ := s1.cell n a _ ea hx
        refine ⟨a, rfl, .inl ⟨⟨vs, .inl (.inl hH)⟩, ?_⟩⟩
        rw [← cf.kk]
        exact for_okC ea s1 (sl.up le1) q1
      · exact q1.elim
    · exact q1.elim⟩
/-- the cell n, of N things, walked by enumerate -/
def forGoE (gm : MG) (body : MS) (n N : Nat) : Nat → Sl → Sto → F
  | 0, δ, S => match S[n]? with
    | some (.lst xs) => if xs.length = N then .nx δ S else .bad
    | _ => .bad
  | k + 1, δ, S => match S[n]? with
    | some (.lst xs) => if xs.length = N then (match xs[N - (k + 1)]? with
      | some d => (match gm.f (.tup [.int ((N - (k + 1) : Nat) : Int), d]) δ with
        | none => .bad
        | some δ1 => match body δ1 S with
          | .nx δ2 S2 => forGoE gm body n N k δ2 S2
          | .cnt δ2 S2 => forGoE gm body n N k δ2 S2
          | .brk δ2 S2 => .nx δ2 S2
          | r => r)
      | none => .bad) else .bad
    | _ => .bad
theorem for_okE {g1 : Wd} {Z : Hp} {gm : MG} {body : MS} {n N : Nat} {a : Addr} {δ : Sl} {S : Sto} {H : Hp} {σ : L2.St} {Dn : Ends} (ha : g1.ι[n]? = some a) (s : SimH c g1 S Z H) (sl : Slots c g1 δ σ) (q : PostF c g1 Z (forGoE gm body n N N δ S) Dn W) :
    ∃ V : Nat → Nat → L2.St → Hp → Prop, (∃ m, V 0 m σ H) ∧ ∀ i m σ H, V i m σ H → ((Ite c.K a).stop i H ∧ Dn.nx σ H) ∨ ((Ite c.K a).go i H ∧ ∃ N : L2.St → Hp → Prop, (∀ σ' H', N σ' H' → ∃ m', m' < m ∧ V (i + 1) m' σ' H') ∧
      ∀ x H', (Ite c.K a).yld i H x H' → gM c gm x σ H' fun σ2 H2 => sM c W body { Dn with nx := N, ct := N, bk := Dn.nx } σ2 H2) := by
  refine ⟨fun i m σ' H' => m = N - i ∧ i ≤ N ∧ ∃ g' δ' S', g1.le g' ∧ SimH c g' S' Z H' ∧ Slots c g' δ' σ' ∧ PostF c g' Z (forGoE gm body n N (N - i) δ' S') Dn W, ⟨N, by simp, Nat.zero_le _, g1, δ, S, .refl g1, s, sl, q⟩, ?_⟩
  rintro i m σ' H' ⟨rfl, hi, g', δ', S', le, s', sl', q'⟩
  have ha' : g'.ι[n]? = some a := pre_get le.i ha
  have hx : ∃ xs, S'[n]? = some (.lst xs) ∧ xs.length = N := by
    cases e : N - i with
    | zero =>
      rw [e] at q'
      unfold forGoE at q'
      split at q'
      · rename_i xs hx
        split at q'
        · rename_i hl
          exact ⟨xs, hx, hl⟩
        · exact q'.elim
      · exact q'.elim
    | succ k =>
      rw [e] at q'
      unfold forGoE at q'
      split at q'
      · rename_i xs hx
        split at q'
        · rename_i hl
          exact ⟨xs, hx, hl⟩
        · exact q'.elim
      · exact q'.elim
  obtain ⟨xs, hx, hl⟩ := hx
  obtain ⟨_, _, hc, vs, hH, rs⟩ := s'.cell n a _ ha' hx
  have l' : SqL c.K H' a vs := .inl (.inl hH)
  by_cases hlt : i < N
  · right
    have e : N - i = (N - (i + 1)) + 1 := by omega
    have hix : N - (N - (i + 1) + 1) = i := by omega
    rw [e] at q'
    unfold forGoE at q'
    simp only [hx, hl, if_true, hix] at q'
    have hd : xs[i]? = some (xs[i]'(by omega)) := by simp
    obtain ⟨v, h1, h2⟩ := rs.get hd
    rw [hd] at q'
    simp only at q'
    refine ⟨⟨vs, v, l', h1⟩, fun σ2 H2 => ∃ g2 δ2 S2, g1.le g2 ∧ SimH c g2 S2 Z H2 ∧ Slots c g2 δ2 σ2 ∧ PostF c g2 Z (forGoE gm body n N (N - (i + 1)) δ2 S2) Dn W, fun σ2 H2 h => ⟨N - (i + 1), by omega, rfl, by omega, h⟩, fun x H2 y => ?_⟩
    obtain ⟨T, x2, rfl, hT, rfl, h3⟩ := y
    have y3 := h3 vs l'
    rw [h1] at y3
    cases y3
    obtain ⟨le2, s2⟩ := s'.new hT (.tup [.int (i : Nat), v])
    have rx : Rep c ⟨upd g'.G T (.tup [.int (i : Nat), v]), g'.ι⟩ (.tup [.int (i : Int), xs[i]'(by omega)]) (.ref T) := by
      rw [Rep]
      exact ⟨T, _, rfl, .inl (.inl upd_same), RepL.cons Rep.int (RepL.cons (Rep.up le2 h2) RepL.nil)⟩
    split at q'
    · exact q'.elim
    · rename_i δ1 hg
      refine ⟨_, Z, δ', S', _, s2, sl'.up le2, rx, δ1, hg, fun σ3 sl3 _ => ⟨_, Z, δ1, S', s2, sl3, ?_⟩⟩
      have leA := le.trans le2
      cases e : body δ1 S' with
      | nx δ2 S2 => rw [e] at q'; exact fun g3 σ4 H4 le3 s3 sl4 => ⟨g3, δ2, S2, leA.trans le3, s3, sl4, PostF.up (le2.trans le3) q'⟩
      | cnt δ2 S2 => rw [e] at q'; exact fun g3 σ4 H4 le3 s3 sl4 => ⟨g3, δ2, S2, leA.trans le3, s3, sl4, PostF.up (le2.trans le3) q'⟩
      | brk δ2 S2 => rw [e] at q'; exact PostF.up le2 q'
      | ret d S2 => rw [e] at q'; exact PostF.up le2 q'
      | exc kk vs δ2 S2 => rw [e] at q'; exact PostF.up le2 q'
      | bad => rw [e] at q'; exact q'
  · left
    have e0 : i = N := by omega
    subst e0
    rw [Nat.sub_self] at q'
    unfold forGoE at q'
    simp only [hx, hl, if_true] at q'
    exact ⟨⟨vs, l', by rw [rs.length, hl]; exact Nat.le_refl _⟩, q' g' σ' H' (.refl g') s' sl'⟩
def sForE (mo : ME) (gm : MG) (body : MS) : MS := fun δ S => (mo δ S).flow δ fun d S1 => match d with
  | .lst xs => forGo gm body (xs.mapIdx fun (i : Nat) x => D.tup [.int (i : Int), x]) δ S1
  | .tup xs => forGo gm body (xs.mapIdx fun (i : Nat) x => D.tup [.int (i : Int), x]) δ S1
  | .loc n => (match S1[n]? with
    | some (.lst xs) => forGoE gm body n xs.length xs.length δ S1
    | _ => .bad)
  | _ => .bad
theorem cs_forE {elts : List Expr} {kk : Nat} {tpos cpos : Pos} {e : Expr} {body : List Stmt} {mo : ME} {gm : MG} {mb : MS} (cf : Cf k X c) (hp : PassesOwn (model X.prog X.w) X.A X.env X.xe) (hi : CE X c W e mo) (hm : X.mg "enumerate" = none) (hg : CG X c (.Tuple elts kk tpos) gm) (hb : CSs X c W body mb) (hgl : Gl X "enumerate" := by rfl)
    (hst : starEach [e] X.env = [(false, eval e X.env)] := by rfl) (hst2 : starEach [e] X.env = (false, eval e X.env) :: starEach [] X.env := by rfl) (hs : ∀ x, foldedSetIterable (.Call (.Name "enumerate" p) [e] [] cpos) X.env x = pure x := by intro _; rfl) :
    CS X c W (.For (.Tuple elts kk tpos) (.Call (.Name "enumerate" p) [e] [] cpos) body [] pos) (sForE mo gm mb) :=
  weakS (ps_for hp cf.calm (pi_enSq hgl hm (pa_cons hi pa_nil hst2) hst) hg hb hs) fun Dn σ H ⟨g, Z, δ, S, s, sl, q⟩ => ⟨g, Z, δ, S, s, sl, Post.flow sl q fun d S1 g1 v H1 le1 s1 r1 q1 => by
    show ∃ a, [v] = [V.ref a] ∧ _
    split at q1
    · rename_i xs
      rw [Rep] at r1
      obtain ⟨a, vs, rfl, l, rs⟩ := r1
      exact ⟨a, rfl, .inl ⟨⟨vs, by rw [← cf.kk]; exact s1.gk.lst l⟩, for_ok (it_enum cf.kk l rs) s1 (sl.up le1) q1⟩⟩
    · rename_i xs
      rw [Rep] at r1
      obtain ⟨a, vs, rfl, l, rs⟩ := r1
      exact ⟨a, rfl, .inr ⟨⟨vs, by rw [← cf.kk]; exact s1.gk.tup l⟩, for_ok (it_enumT cf.kk l rs) s1 (sl.up le1) q1⟩⟩
    · rename_i n
      split at q1
      · rename_i xs hx
        rw [Rep] at r1
        obtain ⟨a, rfl, ea⟩ := r1
        obtain ⟨_, _, hc, vs, hH, rs⟩ := s1.cell n a _ ea hx
        refine ⟨a, rfl, .inl ⟨⟨vs, .inl (.inl hH)⟩, ?_⟩⟩
        rw [← cf.kk]
        exact for_okE ea s1 (sl.up le1) q1
      · exact q1.elim
    · exact q1.elim⟩

/-! ### a, b = a list, or a tuple -/
def gL (gs : List MG) : MG := ⟨fun d δ => match d with
  | .lst ds => gTs gs ds δ
  | _ => none, gs.flatMap (·.ts)⟩
theorem cg_lst {es : List Expr} {kk : Nat} {gs : List MG} (hK : c.K = X.K) (hc : X.calm = true) (h : PGs X es (gMs c gs)) (hn : (assignEach es X.env).length = gs.length := by rfl) (hst : (assignEach es X.env).findIdx? (·.1) = none := by rfl) : CG X c (.Tuple es kk pos) (gL gs) :=
  weakG (pg_lst (n := gs.length) hc h hn hst) fun v σ H Q ⟨g, Z, δ, S, d, s, sl, r, δ', e, q⟩ => by
    cases d with
    | lst ds =>
      obtain ⟨a, vs, rfl, l1, r1⟩ := seq_ok s r (show (D.lst ds).seq S = some ds from rfl)
      have e' : gTs gs ds δ = some δ' := e
      exact ⟨a, vs, rfl, by rw [← hK]; exact l1, by rw [r1.length]; exact gTs_len e', g, Z, δ, S, ds, s, sl, r1, δ', e', q⟩
    | _ => cases e

/-! ### xs[::-1] -/
def fRev (x : D) (S : Sto) : R D := match x.seq S with
  | some xs => .ok (.lst xs.reverse) S
  | none => .bad
theorem ce_rev {k2 : Nat} {p1 p2 p3 : Pos} (cf : Cf k X c) (ha : CE X c W a m) : CE X c W (.Subscript a (.Slice none none (some (.UnaryOp .USub (.Constant (.int 1) k2 p1) p2)) p3) pos) (mUn fRev m) :=
  weakE (pe_revL ha) fun σ H Q ⟨g, Z, δ, S, s, sl, q⟩ => ⟨g, Z, δ, S, s, sl, Post.bind q fun x S1 g1 v H1 hg1 le1 s1 r1 q1 => by
    unfold fRev at q1
    split at q1
    · rename_i xs e
      obtain ⟨aa, vs, rfl, l1, r2⟩ := seq_ok s1 r1 e
      refine ⟨aa, vs, rfl, by rw [← cf.kk]; exact l1, fun p hp => lst_new s1 r2.rev hp q1⟩
    · exact q1.elim⟩
/-- no != of its own -/
def neB (K : PySem.W.Frag) (C : Addr) : Bool := decide (PySem.W.mroIn K C (.type "object") = some true) && decide (PySem.W.findIn K (.ref C) "__ne__" = some (some (.builtin "object.__ne__")))
theorem neB_ok {K : PySem.W.Frag} {C : Addr} (h : neB K C = true) : NeK K C := by
  unfold neB at h
  obtain ⟨h1, h2⟩ := band h
  exact ⟨of_decide_eq_true h1, of_decide_eq_true h2⟩
end
end DL

end
section
/-! DM, part i: in the plain: loops over a list, a tuple or a cell that stays. -/
namespace DL
open PySem PySem.Spec PyProof.Rows L2
/-- a list, a tuple, or a cell with a list -/
def SqS (S : Sto) (L : D) (ds : List D) : Prop := L = .lst ds ∨ L = .tup ds ∨ ∃ n, L = .loc n ∧ S[n]? = some (.lst ds)
theorem SqS.sq {S : Sto} {L : D} {ds : List D} (h : SqS S L ds) : L.sq S = some ds := by
  rcases h with rfl | rfl | ⟨n, rfl, e⟩
  · rfl
  · rfl
  · simp [D.sq, D.seq, e]
theorem SqS.up {S r : Sto} {L : D} {ds : List D} (h : SqS S L ds) : SqS (S ++ r) L ds := by
  rcases h with rfl | rfl | ⟨n, rfl, e⟩
  · exact .inl rfl
  · exact .inr (.inl rfl)
  · refine .inr (.inr ⟨n, rfl, ?_⟩)
    rw [List.getElem?_append_left (List.getElem?_eq_some_iff.mp e).1]
    exact e
section
variable {gm : MG} {b : MS} {S : Sto} {I : Sl → Prop}
theorem goC_keep {n : Nat} {xs : List D} (hx : S[n]? = some (.lst xs)) (hb : ∀ (i : Nat) d, xs[i]? = some d → ∀ δ, I δ → ∃ δ1 δ2, gm.f d δ = some δ1 ∧ b δ1 S = .nx δ2 S ∧ I δ2) : ∀ k, k ≤ xs.length → ∀ δ, I δ → ∃ δ', forGoC gm b n xs.length k δ S = .nx δ' S ∧ I δ'
  | 0, _, δ, h => ⟨δ, by unfold forGoC; rw [hx]; simp, h⟩
  | k + 1, hk, δ, h => by
    have e : xs[xs.length - (k + 1)]? = some (xs[xs.length - (k + 1)]'(by omega)) := by simp
    obtain ⟨δ1, δ2, hg, e1, h2⟩ := hb _ _ e δ h
    obtain ⟨δ3, e3, h3⟩ := goC_keep hx hb k (by omega) δ2 h2
    refine ⟨δ3, ?_, h3⟩
    rw [← e3]
    conv => lhs; unfold forGoC
    simp only [hx, if_true, e, hg, e1]
theorem goE_keep {n : Nat} {xs : List D} (hx : S[n]? = some (.lst xs)) (hb : ∀ (i : Nat) d, xs[i]? = some d → ∀ δ, I δ → ∃ δ1 δ2, gm.f (.tup [.int (i : Int), d]) δ = some δ1 ∧ b δ1 S = .nx δ2 S ∧ I δ2) : ∀ k, k ≤ xs.length → ∀ δ, I δ → ∃ δ', forGoE gm b n xs.length k δ S = .nx δ' S ∧ I δ'
  | 0, _, δ, h => ⟨δ, by unfold forGoE; rw [hx]; simp, h⟩
  | k + 1, hk, δ, h => by
    have e : xs[xs.length - (k + 1)]? = some (xs[xs.length - (k + 1)]'(by omega)) := by simp
    obtain ⟨δ1, δ2, hg, e1, h2⟩ := hb _ _ e δ h
    obtain ⟨δ3, e3, h3⟩ := goE_keep hx hb k (by omega) δ2 h2
    refine ⟨δ3, ?_, h3⟩
    rw [← e3]
    conv => lhs; unfold forGoE
    simp only [hx, if_true, e, hg, e1]
theorem goI_keep {xs : List D} (hb : ∀ (i : Nat) d, xs[i]? = some d → ∀ δ, I δ → ∃ δ1 δ2, gm.f d δ = some δ1 ∧ b δ1 S = .nx δ2 S ∧ I δ2) {δ : Sl} (h : I δ) : ∃ δ', forGo gm b xs δ S = .nx δ' S ∧ I δ' := by
  obtain ⟨δ', S', e, rfl, h'⟩ := for_keep (gm := gm) (b := b) (ds := xs) (P := fun δ S' => S' = S ∧ I δ) (fun d hd δ S' ⟨e, h⟩ => by
    subst e
    obtain ⟨i, hi⟩ := List.mem_iff_getElem?.mp hd
    obtain ⟨δ1, δ2, hg, e1, h2⟩ := hb i d hi δ h
    exact ⟨δ1, δ2, _, hg, e1, rfl, h2⟩) δ S ⟨rfl, h⟩
  exact ⟨δ', e, h'⟩
theorem forA_keep {mo : ME} {L : D} {ds : List D} {δ : Sl} (hs : SqS S L ds) (e : mo δ S = .ok L S) (hb : ∀ (i : Nat) d, ds[i]? = some d → ∀ δ, I δ → ∃ δ1 δ2, gm.f d δ = some δ1 ∧ b δ1 S = .nx δ2 S ∧ I δ2) (h : I δ) : ∃ δ', sForA mo gm b δ S = .nx δ' S ∧ I δ' := by
  unfold sForA
  rw [e]
  rcases hs with rfl | rfl | ⟨n, rfl, hx⟩
  · exact goI_keep hb h
  · exact goI_keep hb h
  · have := goC_keep hx hb _ (Nat.le_refl _) δ h
    simpa only [R.flow, hx] using this
theorem forE_keep {mo : ME} {L : D} {ds : List D} {δ : Sl} (hs : SqS S L ds) (e : mo δ S = .ok L S) (hb : ∀ (i : Nat) d, ds[i]? = some d → ∀ δ, I δ → ∃ δ1 δ2, gm.f (.tup [.int (i : Int), d]) δ = some δ1 ∧ b δ1 S = .nx δ2 S ∧ I δ2) (h : I δ) : ∃ δ', sForE mo gm b δ S = .nx δ' S ∧ I δ' := by
  have hm : ∀ (i : Nat) d, (ds.mapIdx fun (i : Nat) x => D.tup [.int (i : Int), x])[i]? = some d → ∀ δ, I δ → ∃ δ1 δ2, gm.f d δ = some δ1 ∧ b δ1 S = .nx δ2 S ∧ I δ2 := fun i d hi δ h => by
    rw [List.getElem?_mapIdx] at hi
    obtain ⟨x, hx, rfl⟩ := Option.map_eq_some_iff.mp hi
    exact hb i x hx δ h
  unfold sForE
  rw [e]
  rcases hs with rfl | rfl | ⟨n, rfl, hx⟩
  · exact goI_keep hm h
  · exact goI_keep hm h
  · have := goE_keep hx hb _ (Nat.le_refl _) δ h
    simpa only [R.flow, hx] using this
end
/-! ### texts in lists compared -/
theorem eqvAll_strs : ∀ xs ys : List Str, PyData.eqvAll (xs.map PyData.str) (ys.map PyData.str) = decide (xs = ys)
  | [], [] => rfl
  | [], _ :: _ => by simp [PyData.eqvAll]
  | _ :: _, [] => by simp [PyData.eqvAll]
  | x :: xs, y :: ys => by
    rw [List.map_cons, List.map_cons, PyData.eqvAll, PyData.eqv, eqvAll_strs xs ys]
    by_cases h : x = y
    · subst h
      simp
    · simp [h]
theorem shaped_strs {xs : List Str} (h : ∀ x ∈ xs, isLet x) : SeqAt.shaped (.list (xs.map PyData.str)) = true := by
  unfold SeqAt.shaped
  rw [PyData.canLay0, PyData.depth, lay_strs h, depth_strs]
  rfl
/-- a list of texts, or a cell with one -/
def LsS (S : Sto) (L : D) (ss : List Str) : Prop := L = .lst (ss.map D.str) ∨ ∃ n, L = .loc n ∧ S[n]? = some (.lst (ss.map D.str))
theorem LsS.py {S : Sto} {L : D} {ss : List Str} (h : LsS S L ss) : L.pyS S = some (.list (ss.map PyData.str)) := by
  rcases h with rfl | ⟨n, rfl, e⟩
  · simp [D.pyS, D.py, pyL_strs]
  · simp [D.pyS, e, pyL_strs]
theorem ls_lst {S : Sto} {ss : List Str} : LsS S (.lst (ss.map D.str)) ss := .inl rfl
theorem ne_ls {S : Sto} {L M : D} {xs ys : List Str} (h1 : LsS S L xs) (h2 : LsS S M ys) (l1 : ∀ x ∈ xs, isLet x) (l2 : ∀ x ∈ ys, isLet x) : fNe L M S = .ok (.bl (!decide (xs = ys))) S := by
  have e : fNe L M S = fNeT L M S := by rcases h1 with rfl | ⟨n, rfl, _⟩ <;> rfl
  rw [e, fNeT, h1.py, h2.py]
  simp only [shaped_strs l1, shaped_strs l2, and_self, if_true, PyData.eqv, eqvAll_strs]
theorem eq_ls {S : Sto} {L M : D} {xs ys : List Str} (h1 : LsS S L xs) (h2 : LsS S M ys) (l1 : ∀ x ∈ xs, isLet x) (l2 : ∀ x ∈ ys, isLet x) : fEq L M S = .ok (.bl (decide (xs = ys))) S := by
  have e : fEq L M S = fEqT L M S := by rcases h1 with rfl | ⟨n, rfl, _⟩ <;> rfl
  rw [e, fEqT, h1.py, h2.py]
  simp only [shaped_strs l1, shaped_strs l2, and_self, if_true, PyData.eqv, eqvAll_strs]
theorem ne_bl (a b : Bool) (S : Sto) : fNe (.bl a) (.bl b) S = .ok (.bl (a != b)) S := by cases a <;> cases b <;> rfl
theorem eq_bl2 (a b : Bool) (S : Sto) : fEq (.bl a) (.bl b) S = .ok (.bl (a == b)) S := by cases a <;> cases b <;> rfl
theorem ne_tup0 {xs : List Str} (h : ∀ x ∈ xs, isLet x) (S : Sto) : fNe (.tup (xs.map D.str)) (.tup []) S = .ok (.bl (!xs.isEmpty)) S := by
  have e : fNe (.tup (xs.map D.str)) (.tup []) S = fNeT (.tup (xs.map D.str)) (.tup []) S := rfl
  have sh : SeqAt.shaped (.tuple (xs.map PyData.str)) = true := by
    unfold SeqAt.shaped
    rw [PyData.canLay0, PyData.depth, lay_strs h, depth_strs]
    rfl
  have e1 : PyData.eqv (.tuple (xs.map PyData.str)) (.tuple []) = xs.isEmpty := by
    rw [PyData.eqv]
    exact (eqvAll_strs xs []).trans (by cases xs <;> rfl)
  rw [e, fNeT]
  simp only [D.pyS, D.py, pyL_strs, D.pyL, Option.map_some, sh, show SeqAt.shaped (.tuple []) = true from rfl, and_self, if_true, e1]
theorem ne_int (a b : Int) (S : Sto) : fNe (.int a) (.int b) S = .ok (.bl (!decide (a = b))) S := rfl
theorem boolX_ok {tab : Tab} {k : Nat} {ds : List D} {fm : MF} {S S' : Sto} {b : Bool} (hp : pick tab S (.ins k ds) = some (1, fm)) (e : fm [.ins k ds] S = .ok (.bl b) S') : fBoolX tab [.ins k ds] S = .ok (.bl b) S' := by
  simp only [fBoolX, hp, if_true, e, R.bind_ok]
theorem inX_ok {tab : Tab} {x y : D} {fm : MF} {S S' : Sto} {b : Bool} (hp : pick tab S y = some (2, fm)) (e : fm [y, x] S = .ok (.bl b) S') : fInX tab x y S = .ok (.bl b) S' := by
  simp only [fInX, hp, if_true, e, R.bind_ok]
end DL

end
section
/-! DM, part j: properties; dicts walked; dicts copied as trees; dicts handed back as trees; xs.insert(i, x). -/
namespace DL
open PySem PySem.Spec PyProof.Rows L2
/-! ### properties -/
/-- (an error does not leave a property) -/
def mProp (tab : Tab) (mo : ME) : ME := fun δ S => (mo δ S).bind fun x S1 => match pick tab S1 x with
  | some (n, fm) => if n = 1 then noX (fm [x] S1) else .bad
  | none => .bad
structure PropM (P : Program) (w : World) (K : PySem.W.Frag) (mg : Str → Option Value) (base : Heap) (c : RC) (j k : Nat) (f : Str) (fm : MF) : Prop where
  cl : Cls K (c.cl k)
  ex : ∃ p g fd ps, PropOf K (c.cl k) f p g ∧ FnG P w K mg base j g fd ps (spM c 1 fm) ∧ Binds K fd ps []
theorem PropM.mono {P : Program} {w : World} {K : PySem.W.Frag} {mg : Str → Option Value} {base : Heap} {c : RC} {i j k : Nat} {f : Str} {fm : MF} (h : PropM P w K mg base c i k f fm) (l : i ≤ j) : PropM P w K mg base c j k f fm :=
  ⟨h.cl, let ⟨p, g, fd, ps, h1, h2, h3⟩ := h.ex; ⟨p, g, fd, ps, h1, h2.mono l, h3⟩⟩
section
variable {X : Cx} {c : RC} {W : WX} {j k : Nat} {f : Str} {o : Expr} {mo : ME} {pos : Pos}
theorem ce_prop {tab : Tab} (cf : Cf (j + 1) X c) (tk : Takes X W) (ht : ∀ k n fm, tab k = some (n, fm) → PropM X.prog X.w X.K X.mg X.base c j k f fm) (ho : CE X c W o mo) (hab : attributeBase o f X.env (eval o X.env) = eval o X.env := by rfl) : CE X c W (.Attribute o f pos) (mProp tab mo) := by
  refine ⟨fun pins s σ H Q I ⟨g, Z, δ, S, sm, sl, q⟩ => ?_⟩
  refine attr_of hab (thn (ho.run pins s σ H _ I ⟨g, Z, δ, S, sm, sl, Post.bind (Q := fun x H1 => ∃ g1 S1 dx, SimH c g1 S1 Z H1 ∧ Rep c g1 dx x ∧ Post c (Rep c) g1 Z (match pick tab S1 dx with
    | some (n, fm) => if n = 1 then noX (fm [dx] S1) else .bad
    | none => .bad) Q fun cls d H' => W cls d σ H') q fun dx S1 g1 v H1 _ le1 s1 r1 q1 => ⟨g1, S1, dx, s1, r1, q1⟩⟩) fun u s1 ⟨x, H1, I1, rx, g1, S1, dx, sm1, r1, q1⟩ => ?_)
  split at q1
  · rename_i n fm ep
    split at q1
    · rename_i hn
      subst hn
      obtain ⟨k, ds, ei, et⟩ := pick_at ep
      obtain ⟨p, ga, fd, ps, hp, F, hb⟩ := (ht k 1 fm et).ex
      obtain ⟨a, ax, fs, vs, rfl, hH, _, _⟩ := ins_at sm1 r1 ei
      obtain rfl : u = Value.ref a := rx
      obtain ⟨mA, O, _⟩ := ins_get I1.hok hH
      obtain ⟨od, J, _⟩ := O.look
      obtain ⟨rest, hrec⟩ := hp.rec_
      have hcl := (ht k 1 fm et).cl
      have I2 := I1.tok (s1.toks + 1)
      have h2 : spM c 1 fm [.ref a] H1 Q fun _ _ _ => False := spM_of sm1 (RepL.cons r1 RepL.nil) rfl (Post.noX q1)
      have hl : ([Value.ref a]).length = ps.length := by rw [← F.len _ _ _ _ h2]; rfl
      have hc : (PySem.W.clsIn X.K (c.cl k)).isSome = true := by
        obtain ⟨cd, hc, _⟩ := PySem.W.any_some hcl.hd
        rw [hc]
        rfl
      refine PySem.W.get_bind I1.kIn J (PySem.W.plainGet_of (hcl.get f)).1 (PySem.W.findObj_data hc hp.at_ hp.get hp.tak) (PySem.W.plainGet_of (hcl.get f)).2 (wpAny_call (PySem.W.prop_get (s := { s1 with toks := s1.toks + 1 }) I1.kIn hrec ?_))
      refine codeAny_mono (F.run X.A.in1 X.stack { s1 with toks := s1.toks + 1 } H1 ⟨[.ref a], []⟩ [.ref a] [.ref a] Q _ cf.gd cf.hr.in1 I2.env0.in1 (hb _ [.ref a] I1.kIn hl) (.cons rfl .nil) h2) ?_
      rintro (err | (_ | _ | _ | u)) s' hq
      · obtain ⟨_, _, _, _, _, _, _, _, _, _, _, _, hq⟩ := hq
        exact hq.elim
      · exact hq.elim
      · exact hq.elim
      · exact hq.elim
      · obtain ⟨v, H', I3, rv, q3⟩ := I2.after hq
        show wpAny _ _ (handedOut u) _ _ _
        rw [PySem.W.handedOut_of (handed_of rv)]
        exact wpAny_pure ⟨v, H', I3, rv, q3⟩
    · exact q1.elim
  · exact q1.elim
end
/-- a property of the class, by Bools: the property stands at p -/
def propB (K : PySem.W.Frag) (C p g : Addr) (f : Str) : Bool := decide (PySem.W.findIn K (.ref C) f = some (some (.ref p))) && (decide (PySem.W.specialIn K (.ref p) "__get__" = some (some (.builtin "property.__get__"))) && (decide (PySem.W.takesIn K (.ref p) = some true)
  && (match PySem.W.recIn K p "property" with
    | some (v :: _) => decide (v = .ref g)
    | _ => false)))
theorem propB_ok {K : PySem.W.Frag} {C p g : Addr} {f : Str} (h : propB K C p g f = true) : PropOf K C f p g := by
  unfold propB at h
  obtain ⟨h1, h⟩ := band h
  obtain ⟨h2, h⟩ := band h
  obtain ⟨h3, h⟩ := band h
  refine ⟨of_decide_eq_true h1, of_decide_eq_true h2, of_decide_eq_true h3, ?_⟩
  split at h
  · rename_i v r e
    exact ⟨r, by rw [e, of_decide_eq_true h]⟩
  · cases h

/-! ### locks -/
/-- nothing but locks of dicts differ -/
def Lk (G G' : Hp) : Prop := ∀ x o, G x = some o → G' x = some o ∨ ∃ od kvs, (o = .dK kvs ∧ G' x = some (.frz od (.dK kvs))) ∨ (o = .frz od (.dK kvs) ∧ G' x = some (.dK kvs))
section
variable {c : RC} {G G' : Hp} {ι : List Addr}
theorem Lk.eq {x : Addr} {o : HO} (l : Lk G G') (h : G x = some o) (h1 : ∀ kvs, o ≠ .dK kvs) (h2 : ∀ od u, o ≠ .frz od u) : G' x = some o := by
  rcases l x o h with e | ⟨od, kvs, ⟨e, _⟩ | ⟨e, _⟩⟩
  · exact e
  · exact absurd e (h1 _)
  · exact absurd e (h2 _ _)
theorem Lk.rd {x : Addr} {u : HO} (l : Lk G G') (h : Rd G x u) (h2 : ∀ od v, u ≠ .frz od v) : Rd G' x u := by
  rcases h with h | ⟨o, h⟩
  · rcases l x u h with e | ⟨od, kvs, ⟨e, h'⟩ | ⟨e, _⟩⟩
    · exact .inl e
    · subst e
      exact .inr ⟨od, h'⟩
    · exact absurd e (h2 _ _)
  · rcases l x _ h with e | ⟨od, kvs, ⟨e, _⟩ | ⟨e, h'⟩⟩
    · exact .inr ⟨o, e⟩
    · cases e
    · cases e
      exact .inl h'
theorem Lk.sqL {K : PySem.W.Frag} {a : Addr} {vs : List V} (l : Lk G G') (h : SqL K G a vs) : SqL K G' a vs := by
  rcases h with h | h
  · exact .inl (l.rd h (fun _ _ z => by cases z))
  · exact .inr h
theorem Lk.sqT {K : PySem.W.Frag} {a : Addr} {vs : List V} (l : Lk G G') (h : SqT K G a vs) : SqT K G' a vs := by
  rcases h with h | h
  · exact .inl (l.rd h (fun _ _ z => by cases z))
  · exact .inr h
mutual
theorem Rep.lk (l : Lk G G') : ∀ {d : D} {v : V}, Rep c ⟨G, ι⟩ d v → Rep c ⟨G', ι⟩ d v
  | .non, v, r => by rw [Rep] at r ⊢; exact r
  | .bl b, v, r => by rw [Rep] at r ⊢; exact r
  | .int i, v, r => by rw [Rep] at r ⊢; exact r
  | .str t, v, r => by rw [Rep] at r ⊢; exact r
  | .glb u, v, r => by rw [Rep] at r ⊢; exact r
  | .cls k, v, r => by rw [Rep] at r ⊢; exact r
  | .loc n, v, r => by rw [Rep] at r ⊢; exact r
  | .lst xs, v, r => by
    rw [Rep] at r ⊢
    obtain ⟨a, vs, e, h, rs⟩ := r
    exact ⟨a, vs, e, l.sqL h, RepL.lk l rs⟩
  | .tup xs, v, r => by
    rw [Rep] at r ⊢
    obtain ⟨a, vs, e, h, rs⟩ := r
    exact ⟨a, vs, e, l.sqT h, RepL.lk l rs⟩
  | .dic ks ds, v, r => by
    rw [Rep] at r ⊢
    obtain ⟨a, kvs, e, h, q, rs⟩ := r
    exact ⟨a, kvs, e, l.rd h (fun _ _ z => by cases z), q, RepL.lk l rs⟩
  | .ins j ds, v, r => by
    rw [Rep] at r ⊢
    obtain ⟨a, dx, fs, vs, e, h, q, rs⟩ := r
    exact ⟨a, dx, fs, vs, e, l.eq h (fun _ z => by cases z) (fun _ _ z => by cases z), q, RepL.lk l rs⟩
  | .exv j ds, v, r => by
    rw [Rep] at r ⊢
    obtain ⟨a, dd, e, h, q⟩ := r
    refine ⟨a, dd, e, ?_, ?_⟩
    · rcases h with h | h
      · exact .inl (l.eq h (fun _ z => by cases z) (fun _ _ z => by cases z))
      · exact .inr h
    · rcases q with q | ⟨d, fs, vs, e2, h2, q2, rs⟩
      · exact .inl q
      · refine .inr ⟨d, fs, vs, e2, ?_, q2, RepL.lk l rs⟩
        rcases h2 with h2 | h2
        · exact .inl (l.eq h2 (fun _ z => by cases z) (fun _ _ z => by cases z))
        · exact .inr (l.eq h2 (fun _ z => by cases z) (fun _ _ z => by cases z))
theorem RepL.lk (l : Lk G G') : ∀ {ds : List D} {vs : List V}, RepL c ⟨G, ι⟩ ds vs → RepL c ⟨G', ι⟩ ds vs
  | [], vs, r => by rw [RepL] at r ⊢; exact r
  | d :: ds, vs, r => by
    rw [RepL] at r ⊢
    obtain ⟨v, w, e, r1, r2⟩ := r
    exact ⟨v, w, e, Rep.lk l r1, RepL.lk l r2⟩
end
theorem CellRep.lk {H : Hp} {a : Addr} (l : Lk G G') : ∀ {o : O}, CellRep c ⟨G, ι⟩ H a o → CellRep c ⟨G', ι⟩ H a o
  | .lst ds, ⟨h, vs, e, r⟩ => ⟨h, vs, e, RepL.lk l r⟩
  | .dic ks ds, ⟨h, kvs, e, q, r⟩ => ⟨h, kvs, e, q, RepL.lk l r⟩
  | .dct ks ds, ⟨h, kvs, e, q, r⟩ => ⟨h, kvs, e, q, RepL.lk l r⟩
  | .ins k ds, ⟨h, dx, fs, vs, e, q, r⟩ => ⟨h, dx, fs, vs, e, q, RepL.lk l r⟩
  | .dead, ⟨u, e, m⟩ => by
    rcases l a u e with h | ⟨od, kvs, ⟨_, h⟩ | ⟨_, h⟩⟩
    · exact ⟨u, h, m⟩
    · exact ⟨_, h, .inr (.inr (.inl ⟨_, _, rfl⟩))⟩
    · exact ⟨_, h, .inr (.inl ⟨_, rfl⟩)⟩
theorem CellRep.lkAt {H H' : Hp} {a b : Addr} (l : Lk G G') (hb : b ≠ a → H' b = H b) (hg : b = a → ∃ u, G b = some u) : ∀ {o : O}, (o ≠ .dead → G b = none) → CellRep c ⟨G, ι⟩ H b o → CellRep c ⟨G', ι⟩ H' b o := fun {o} h1 h => by
  by_cases hd : o = .dead
  · subst hd
    exact CellRep.lk (H := H') l (show CellRep c ⟨G, ι⟩ H' b .dead from h)
  · have : b ≠ a := fun z => by
      obtain ⟨u, e⟩ := hg z
      rw [h1 hd] at e
      cases e
    exact CellRep.lk l (h.at (hb this))
theorem Slots.lk {δ : Sl} {σ : L2.St} (l : Lk G G') (s : Slots c ⟨G, ι⟩ δ σ) : Slots c ⟨G', ι⟩ δ σ := ⟨s.1, fun i d e => let ⟨v, h1, h2⟩ := s.2 i d e; ⟨v, h1, Rep.lk l h2⟩⟩
theorem lk_upd {a : Addr} {kvs : List (Key × V)} {o : HO} (h : G a = some (.dK kvs) ∨ ∃ od, G a = some (.frz od (.dK kvs))) (ho : o = .dK kvs ∨ ∃ od, o = .frz od (.dK kvs)) (hs : ∀ od od', G a = some (.frz od (.dK kvs)) → o = .frz od' (.dK kvs) → od = od') : Lk G (upd G a o) := by
  intro x u e
  by_cases hx : x = a
  · subst hx
    rw [upd_same]
    rcases h with h | ⟨od, h⟩
    · rw [h] at e
      cases e
      rcases ho with rfl | ⟨od, rfl⟩
      · exact .inl rfl
      · exact .inr ⟨od, kvs, .inl ⟨rfl, rfl⟩⟩
    · rw [h] at e
      cases e
      rcases ho with rfl | ⟨od', rfl⟩
      · exact .inr ⟨od, kvs, .inr ⟨rfl, rfl⟩⟩
      · obtain rfl := hs od od' h rfl
        exact .inl rfl
  · exact .inl ((upd_ne hx).trans e)
end
section
variable {c : RC} {g g' : Wd} {S : Sto} {Z H : Hp} {a : Addr} {kvs : List (Key × V)} {od : Obj}
/-- a tree that is locked -/
theorem lock_sim (s : SimH c g S Z H) (ha : g.G a = some (.dK kvs)) : SimH c ⟨upd g.G a (.frz od (.dK kvs)), g.ι⟩ S Z (upd H a (.frz od (.dK kvs))) := by
  have l : Lk g.G (upd g.G a (.frz od (.dK kvs))) := lk_upd (.inl ha) (.inr ⟨od, rfl⟩) (fun _ _ e _ => by rw [ha] at e; cases e)
  refine ⟨fun x o e => ?_, fun x o e => ?_, fun x o e => ?_, s.len, s.nd, fun n b o e1 e2 => ?_⟩
  · by_cases hx : x = a
    · subst hx
      have e' : upd g.G x (.frz od (.dK kvs)) x = some o := e
      rw [upd_same] at e'
      cases e'
      exact .inl upd_same
    · have e' : upd g.G a (.frz od (.dK kvs)) x = some o := e
      rw [upd_ne hx] at e'
      rw [upd_ne hx]
      exact s.gk x o e'
  · have hx : x ≠ a := fun z => by rw [z] at e; have := s.zg _ _ e; rw [ha] at this; cases this
    exact (upd_ne hx).trans (s.zk x o e)
  · have hx : x ≠ a := fun z => by rw [z] at e; have := s.zg _ _ e; rw [ha] at this; cases this
    exact (upd_ne hx).trans (s.zg x o e)
  · obtain ⟨h1, h2, h3⟩ := s.cell n b o e1 e2
    refine ⟨fun hd => ?_, h2, CellRep.lkAt (a := a) l (fun hb => upd_ne hb) (fun z => ⟨_, by rw [z]; exact ha⟩) h1 h3⟩
    have hb : b ≠ a := fun z => by have := h1 hd; rw [z, ha] at this; cases this
    exact (upd_ne hb).trans (h1 hd)
/-- a tree that was locked already -/
theorem locked_sim (s : SimH c g S Z H) (ha : g.G a = some (.dK kvs)) (hH : H a = some (.frz od (.dK kvs))) : SimH c ⟨upd g.G a (.frz od (.dK kvs)), g.ι⟩ S Z H := by
  have := lock_sim (od := od) s ha
  have e : upd H a (.frz od (.dK kvs)) = H := by
    funext x
    by_cases hx : x = a
    · rw [hx, upd_same, hH]
    · rw [upd_ne hx]
  rwa [e] at this
theorem frz_at (s : SimH c g S Z H) (ha : g.G a = some (.frz od (.dK kvs))) : H a = some (.frz od (.dK kvs)) := by
  rcases s.gk a _ ha with e | ⟨_, _, e, _⟩
  · exact e
  · cases e
/-- the lock goes -/
theorem unlock_sim (s : SimH c g S Z H) (ha : g.G a = some (.frz od (.dK kvs))) : SimH c ⟨upd g.G a (.dK kvs), g.ι⟩ S Z (upd H a (.dK kvs)) ∧ SimH c ⟨upd g.G a (.dK kvs), g.ι⟩ S Z H := by
  have l : Lk g.G (upd g.G a (.dK kvs)) := lk_upd (.inr ⟨od, ha⟩) (.inl rfl) (fun _ _ _ e => by cases e)
  have hz : ∀ x o, Z x = some o → x ≠ a := fun x o e z => by rw [z] at e; have := s.zg _ _ e; rw [ha] at this; cases this
  have hc : ∀ (n : Nat) b o, g.ι[n]? = some b → S[n]? = some o → o ≠ .dead → b ≠ a := fun n b o e1 e2 hd z => by have := (s.cell n b o e1 e2).1 hd; rw [z, ha] at this; cases this
  constructor
  · refine ⟨fun x o e => ?_, fun x o e => (upd_ne (hz x o e)).trans (s.zk x o e), fun x o e => (upd_ne (hz x o e)).trans (s.zg x o e), s.len, s.nd, fun n b o e1 e2 => ?_⟩
    · have e' : upd g.G a (.dK kvs) x = some o := e
      by_cases hx : x = a
      · subst hx
        rw [upd_same] at e'
        cases e'
        exact .inl upd_same
      · rw [upd_ne hx] at e'
        rw [upd_ne hx]
        exact s.gk x o e'
    · obtain ⟨h1, h2, h3⟩ := s.cell n b o e1 e2
      exact ⟨fun hd => (upd_ne (hc n b o e1 e2 hd)).trans (h1 hd), h2, CellRep.lkAt (a := a) l (fun hb => upd_ne hb) (fun z => ⟨_, by rw [z]; exact ha⟩) h1 h3⟩
  · refine ⟨fun x o e => ?_, s.zk, fun x o e => (upd_ne (hz x o e)).trans (s.zg x o e), s.len, s.nd, fun n b o e1 e2 => ?_⟩
    · have e' : upd g.G a (.dK kvs) x = some o := e
      by_cases hx : x = a
      · subst hx
        rw [upd_same] at e'
        cases e'
        exact .inr ⟨od, kvs, rfl, frz_at s ha⟩
      · rw [upd_ne hx] at e'
        exact s.gk x o e'
    · obtain ⟨h1, h2, h3⟩ := s.cell n b o e1 e2
      exact ⟨fun hd => (upd_ne (hc n b o e1 e2 hd)).trans (h1 hd), h2, CellRep.lk l h3⟩
theorem lock_le (ha : g.G a = some (.dK kvs)) (le : Wd.le ⟨upd g.G a (.frz od (.dK kvs)), g.ι⟩ g') : g.le ⟨upd g'.G a (.dK kvs), g'.ι⟩ ∧ g'.G a = some (.frz od (.dK kvs)) := by
  refine ⟨⟨fun x o e => ?_, le.i⟩, le.g a _ upd_same⟩
  by_cases hx : x = a
  · subst hx
    rw [ha] at e
    cases e
    exact upd_same
  · refine (upd_ne hx).trans (le.g x o ?_)
    exact (upd_ne hx).trans e
theorem XRep.lkd {k : Nat} {vs : List D} {dd : Option Addr} (ha : g.G a = some (.frz od (.dK kvs))) (x : XRep c g Z H k vs dd) : XRep c ⟨upd g.G a (.dK kvs), g.ι⟩ Z H k vs dd := by
  have l : Lk g.G (upd g.G a (.dK kvs)) := lk_upd (.inr ⟨od, ha⟩) (.inl rfl) (fun _ _ _ e => by cases e)
  rcases x with x | ⟨d, fs, ws, e, h, ⟨hz, hg⟩, at_, r⟩
  · exact .inl x
  · have hd : d ≠ a := fun z => by rw [z, ha] at hg; cases hg
    exact .inr ⟨d, fs, ws, e, h, ⟨hz, (upd_ne hd).trans hg⟩, at_, RepL.lk l r⟩
/-- what is wanted behind a run under a lock -/
theorem PostF.lkd {r : F} {Dn : Ends} {W : WX} (ha : g.G a = some (.dK kvs)) (q : PostF c g Z r Dn W) : PostF c ⟨upd g.G a (.frz od (.dK kvs)), g.ι⟩ Z r ⟨fun σ' H' => H' a = some (.frz od (.dK kvs)) ∧ Dn.nx σ' (upd H' a (.dK kvs)), fun v H' => H' a = some (.frz od (.dK kvs)) ∧ Dn.rt v (upd H' a (.dK kvs)), fun σ' H' => H' a = some (.frz od (.dK kvs)) ∧ Dn.bk σ' (upd H' a (.dK kvs)), fun σ' H' => H' a = some (.frz od (.dK kvs)) ∧ Dn.ct σ' (upd H' a (.dK kvs))⟩ W := by
  have lk : ∀ {g' : Wd}, g'.G a = some (.frz od (.dK kvs)) → Lk g'.G (upd g'.G a (.dK kvs)) := fun h => lk_upd (.inr ⟨od, h⟩) (.inl rfl) (fun _ _ _ e => by cases e)
  cases r with
  | nx δ S1 => exact fun g' σ H' le s sl => let ⟨le2, h⟩ := lock_le ha le; ⟨frz_at s h, q _ σ _ le2 (unlock_sim s h).1 (Slots.lk (lk h) sl)⟩
  | brk δ S1 => exact fun g' σ H' le s sl => let ⟨le2, h⟩ := lock_le ha le; ⟨frz_at s h, q _ σ _ le2 (unlock_sim s h).1 (Slots.lk (lk h) sl)⟩
  | cnt δ S1 => exact fun g' σ H' le s sl => let ⟨le2, h⟩ := lock_le ha le; ⟨frz_at s h, q _ σ _ le2 (unlock_sim s h).1 (Slots.lk (lk h) sl)⟩
  | ret d S1 => exact fun g' v H' le s r => let ⟨le2, h⟩ := lock_le ha le; ⟨frz_at s h, q _ v _ le2 (unlock_sim s h).1 (Rep.lk (lk h) r)⟩
  | exc k vs δ S1 => exact fun g' dd σ H' le s sl x => let ⟨le2, h⟩ := lock_le ha le; q _ dd σ H' le2 (unlock_sim s h).2 (Slots.lk (lk h) sl) (x.lkd h)
  | bad => exact q.elim
theorem PostF.lkd0 {r : F} {Dn : Ends} {W : WX} (ha : g.G a = some (.dK kvs)) (q : PostF c g Z r Dn W) : PostF c ⟨upd g.G a (.frz od (.dK kvs)), g.ι⟩ Z r Dn W := by
  have lk : ∀ {g' : Wd}, g'.G a = some (.frz od (.dK kvs)) → Lk g'.G (upd g'.G a (.dK kvs)) := fun h => lk_upd (.inr ⟨od, h⟩) (.inl rfl) (fun _ _ _ e => by cases e)
  cases r with
  | nx δ S1 => exact fun g' σ H' le s sl => let ⟨le2, h⟩ := lock_le ha le; q _ σ _ le2 (unlock_sim s h).2 (Slots.lk (lk h) sl)
  | brk δ S1 => exact fun g' σ H' le s sl => let ⟨le2, h⟩ := lock_le ha le; q _ σ _ le2 (unlock_sim s h).2 (Slots.lk (lk h) sl)
  | cnt δ S1 => exact fun g' σ H' le s sl => let ⟨le2, h⟩ := lock_le ha le; q _ σ _ le2 (unlock_sim s h).2 (Slots.lk (lk h) sl)
  | ret d S1 => exact fun g' v H' le s r => let ⟨le2, h⟩ := lock_le ha le; q _ v _ le2 (unlock_sim s h).2 (Rep.lk (lk h) r)
  | exc k vs δ S1 => exact fun g' dd σ H' le s sl x => let ⟨le2, h⟩ := lock_le ha le; q _ dd σ H' le2 (unlock_sim s h).2 (Slots.lk (lk h) sl) (x.lkd h)
  | bad => exact q.elim
theorem it_keys {ds : List Key} (ha : g.G a = some (.frz od (.dK kvs))) (hk : kvs.map (·.1) = ds) : ItOk c g Z (Itk a od kvs) (ds.map keyD) := by
  intro g' Z' S' H' i le _ s'
  have h := frz_at s' (le.g _ _ ha)
  subst hk
  refine ⟨fun hi => ⟨h, by simpa using hi⟩, fun d hd => ?_⟩
  rw [List.getElem?_map, List.getElem?_map] at hd
  obtain ⟨kk, hk, rfl⟩ := Option.map_eq_some_iff.mp hd
  obtain ⟨kv, hkv, rfl⟩ := Option.map_eq_some_iff.mp hk
  refine ⟨⟨h, (List.getElem?_eq_some_iff.mp hkv).1⟩, fun x H2 y => ?_⟩
  obtain ⟨rfl, k2, v2, e2, rfl⟩ := y
  rw [hkv] at e2
  cases e2
  exact ⟨g', .refl g', s', keyD_ok _⟩
end
/-! ### for k in d, d a name that holds a dict that stays -/
def sForK (i : Nat) (gm : MG) (body : MS) : MS := fun δ S => match δ[i]? with
  | some (some (.dic ks _)) => forGo gm body (ks.map keyD) δ S
  | _ => .bad
section
variable {X : Cx} {c : RC} {W : WX} {k : Nat} {pos p : Pos}
theorem ps_both {st : Stmt} {t : TS} (h : PS X st t) : PS X st (fun D σ H => t D σ H ∨ tLock t D σ H) := ⟨fun pins s σ H D I q => q.elim (h.run pins s σ H D I) ((ps_lock h).run pins s σ H D I)⟩
theorem pe_both {e : Expr} {t : TE} (h : PE X e t) : PE X e (fun σ H Q => t σ H Q ∨ tLockE t σ H Q) := ⟨fun pins s σ H Q I q => q.elim (h.run pins s σ H Q I) ((pe_lock h).run pins s σ H Q I)⟩
theorem cs_forK {tg : Expr} {x : Str} {i : Nat} {body : List Stmt} {gm : MG} {mb : MS} (cf : Cf k X c) (hp : PassesOwn (model X.prog X.w) X.A X.env X.xe) (hg : CG X c tg gm) (hb : CSs X c W body mb) (hN : X.N[i]? = some x := by rfl)
    (hv : Vis X.env.scope x := by first | exact .inl rfl | exact .inr (.inl rfl) | exact .inr (.inr rfl)) (hd : (x == ("__debug__" : Str)) = false := by decide) (hcd : (x == ("__classdict__" : Str)) = false := by decide) (hs : ∀ y, foldedSetIterable (.Name x p) X.env y = pure y := by intro _; rfl) :
    CS X c W (.For tg (.Name x p) body [] pos) (sForK i gm mb) := by
  refine weakS (ps_both (ps_for hp cf.calm (pi_keys (pe_var hN hv hd hcd)) hg hb hs)) fun Dn σ H ⟨g, Z, δ, S, s, sl, q⟩ => ?_
  unfold sForK at q
  split at q
  · rename_i ks ds e
    obtain ⟨v, h1, r⟩ := sl.2 i _ e
    rw [Rep] at r
    obtain ⟨a, kvs, rfl, hr, hk, rs⟩ := r
    rcases hr with ha | ⟨od, ha⟩
    · rcases s.gk a _ ha with hH | ⟨od, kvs', e', hH⟩
      · refine .inr ⟨a, .dK kvs, hH, trivial, fun od => ⟨_, h1, a, od, rfl, .inl ⟨kvs, upd_same, ?_⟩⟩⟩
        exact for_ok (it_keys (g := ⟨upd g.G a (.frz od (.dK kvs)), g.ι⟩) upd_same hk) (lock_sim s ha) (Slots.lk (lk_upd (.inl ha) (.inr ⟨od, rfl⟩) (fun _ _ e _ => by rw [ha] at e; cases e)) sl) (PostF.lkd ha q)
      · cases e'
        refine .inl ⟨_, h1, a, od, rfl, .inl ⟨kvs, hH, ?_⟩⟩
        exact for_ok (it_keys (g := ⟨upd g.G a (.frz od (.dK kvs)), g.ι⟩) upd_same hk) (locked_sim s ha hH) (Slots.lk (lk_upd (.inl ha) (.inr ⟨od, rfl⟩) (fun _ _ e _ => by rw [ha] at e; cases e)) sl) (PostF.lkd0 ha q)
    · refine .inl ⟨_, h1, a, od, rfl, .inl ⟨kvs, frz_at s ha, ?_⟩⟩
      exact for_ok (it_keys ha hk) s sl q
  · exact q.elim
end
end DL

end
section
/-! DM, part k: comprehensions over dicts; dicts copied, handed back as trees; xs.insert. -/
namespace DL
open PySem PySem.Spec PyProof.Rows L2
/-! ### [e for k in d if t], d a name that holds a dict, a tree or a cell; what comes out is flat -/
def sameLoc (d0 x : D) : Bool := match d0, x with
  | .loc n, .loc m => n == m
  | _, _ => false
/-- while a dict is walked: it stands as a tree, other cells are out of sight -/
def lockS (d0 : D) (ks : List Key) (ds : List D) (δ : Sl) : Sl := δ.map fun o => match o with
  | some x => if sameLoc d0 x = true then some (.dic ks ds) else if x.clean = true then some x else none
  | none => none
def finF (acc : List D) (S : Sto) : R D := if acc.all D.flat = true then .ok (.lst acc) S else .bad
def keepS (S : Sto) : R D → R D
  | .ok d _ => .ok d S
  | _ => .bad
def mLcD (i : Nat) (gm : MG) (vs : List Nat) (mt : MT) (me : ME) : ME := fun δ S => match δ[i]? with
  | some (some d0) => (match dicOf S d0 with
    | some (ks, ds) => if ks.length ≤ 16777216 ∧ D.cleanL ds = true then keepS S ((noX (lcGo gm mt me (wipeD (lockS d0 ks ds δ) vs) (ks.map keyD) [] [])).bind finF) else .bad
    | none => .bad)
  | _ => .bad
section
variable {c : RC} {g : Wd} {S : Sto} {Z H : Hp}
theorem flat_any {g g' : Wd} {d : D} {v : V} (h : d.flat = true) (r : Rep c g d v) : Rep c g' d v := by
  cases d with
  | non => rw [Rep] at r ⊢; exact r
  | bl b => rw [Rep] at r ⊢; exact r
  | int b => rw [Rep] at r ⊢; exact r
  | str b => rw [Rep] at r ⊢; exact r
  | _ => cases h
theorem flatL_any {g g' : Wd} : ∀ {ds : List D} {vs : List V}, ds.all D.flat = true → RepL c g ds vs → RepL c g' ds vs
  | [], vs, _, r => by rw [RepL] at r ⊢; exact r
  | d :: ds, vs, h, r => by
    rw [List.all_cons, Bool.and_eq_true] at h
    rw [RepL] at r ⊢
    obtain ⟨v, w, e, r1, r2⟩ := r
    exact ⟨v, w, e, flat_any h.1 r1, flatL_any h.2 r2⟩
theorem finF_ok {g1 : Wd} {Z : Hp} {Q : VK} {E : XK} : ∀ g' S' H' p ws acc, g1.le g' → SimH c g' S' (upd Z p (.lst ws)) H' → Z p = none → RepL c g' acc ws → Post c (Rep c) g' Z (finF acc S') Q E → Q (.ref p) H' := fun g' S' H' p ws acc le s hz r q => by
  unfold finF at q
  split at q
  · exact finL_ok (g1 := g1) (E := E) g' S' H' p ws acc le s hz r q
  · exact q.elim
/-- the heap while the dict at a is walked -/
def walkG (g : Wd) (a : Addr) (od : Obj) (kvs : List (Key × V)) : Wd := ⟨upd g.G a (.frz od (.dK kvs)), []⟩
def walkZ (g : Wd) (Z H : Hp) (a : Addr) : Hp := fun x => if x = a then none else if x ∈ g.ι ∧ (g.G x).isNone = true then H x else Z x
theorem walk_sim (s : SimH c g S Z H) {a : Addr} {od : Obj} {kvs : List (Key × V)} {HL : Hp} (h1 : HL a = some (.frz od (.dK kvs))) (h2 : ∀ x, x ≠ a → HL x = H x) : SimH c (walkG g a od kvs) [] (walkZ g Z H a) HL := by
  refine ⟨fun x o e => ?_, fun x o e => ?_, fun x o e => ?_, rfl, List.nodup_nil, fun n b o e _ => absurd e (by show ([] : List Addr)[n]? ≠ some b; simp)⟩
  · have e' : upd g.G a (.frz od (.dK kvs)) x = some o := e
    by_cases hx : x = a
    · subst hx
      rw [upd_same] at e'
      cases e'
      exact .inl h1
    · rw [upd_ne hx] at e'
      rw [h2 x hx]
      exact s.gk x o e'
  · unfold walkZ at e
    by_cases hx : x = a
    · rw [if_pos hx] at e
      cases e
    · rw [if_neg hx] at e
      rw [h2 x hx]
      by_cases hi : x ∈ g.ι ∧ (g.G x).isNone = true
      · rw [if_pos hi] at e
        exact e
      · rw [if_neg hi] at e
        exact s.zk x o e
  · unfold walkZ at e
    by_cases hx : x = a
    · rw [if_pos hx] at e
      cases e
    · rw [if_neg hx] at e
      refine (upd_ne hx).trans ?_
      by_cases hi : x ∈ g.ι ∧ (g.G x).isNone = true
      · exact Option.isNone_iff_eq_none.mp hi.2
      · rw [if_neg hi] at e
        exact s.zg x o e
/-- .. and behind it -/
theorem walk_back (s : SimH c g S Z H) {a : Addr} {od : Obj} {kvs : List (Key × V)} {g' : Wd} {S' : Sto} {H' H2 : Hp} (le : (walkG g a od kvs).le g') (s' : SimH c g' S' (walkZ g Z H a) H') (hz : Z a = none) (hg : ∀ o, g.G a = some o → H2 a = some o ∨ ∃ od kvs, o = .dK kvs ∧ H2 a = some (.frz od (.dK kvs))) (hc : (∃ (n : Nat) (o : O), g.ι[n]? = some a ∧ S[n]? = some o ∧ o ≠ .dead) → H2 a = H a) (h2 : ∀ x, x ≠ a → H2 x = H' x) :
    g.le ⟨fun x => if x = a then g.G a else g'.G x, g.ι⟩ ∧ SimH c ⟨fun x => if x = a then g.G a else g'.G x, g.ι⟩ S Z H2 := by
  have ler : g.le ⟨fun x => if x = a then g.G a else g'.G x, g.ι⟩ := by
    refine ⟨fun x o e => ?_, List.prefix_rfl⟩
    show (if x = a then g.G a else g'.G x) = some o
    by_cases hx : x = a
    · rw [if_pos hx, ← hx]
      exact e
    · rw [if_neg hx]
      exact le.g x o ((upd_ne hx).trans e)
  have zn : ∀ x o, Z x = some o → x ≠ a ∧ walkZ g Z H a x = some o := fun x o e => by
    have hx : x ≠ a := fun z => by rw [z, hz] at e; cases e
    refine ⟨hx, ?_⟩
    unfold walkZ
    rw [if_neg hx]
    by_cases hi : x ∈ g.ι ∧ (g.G x).isNone = true
    · obtain ⟨n, o', e1, e2⟩ := s.mem_cell hi.1
      have := (s.cell n x o' e1 e2).2.1
      rw [this] at e
      cases e
    · rw [if_neg hi]
      exact e
  refine ⟨ler, fun x o e => ?_, fun x o e => ?_, fun x o e => ?_, s.len, s.nd, fun n b o e1 e2 => ?_⟩
  · have e' : (if x = a then g.G a else g'.G x) = some o := e
    by_cases hx : x = a
    · subst hx
      rw [if_pos rfl] at e'
      exact hg o e'
    · rw [if_neg hx] at e'
      rw [h2 x hx]
      exact s'.gk x o e'
  · obtain ⟨hx, e'⟩ := zn x o e
    rw [h2 x hx]
    exact s'.zk x o e'
  · obtain ⟨hx, e'⟩ := zn x o e
    show (if x = a then g.G a else g'.G x) = none
    rw [if_neg hx]
    exact s'.zg x o e'
  · obtain ⟨k1, k2, k3⟩ := s.cell n b o e1 e2
    by_cases hd : o = .dead
    · subst hd
      exact ⟨fun z => absurd rfl z, k2, CellRep.up ler (show CellRep c g H2 b .dead from k3)⟩
    by_cases hb : b = a
    · subst hb
      refine ⟨fun _ => ?_, k2, (k3.at (hc ⟨n, o, e1, e2, hd⟩)).up ler⟩
      show (if b = b then g.G b else g'.G b) = none
      rw [if_pos rfl]
      exact k1 hd
    · obtain ⟨u, hu⟩ := k3.there s.gk
      have zb : walkZ g Z H a b = some u := by
        unfold walkZ
        rw [if_neg hb, if_pos ⟨List.mem_of_getElem? e1, Option.isNone_iff_eq_none.mpr (k1 hd)⟩]
        exact hu
      refine ⟨fun _ => ?_, k2, (k3.at ?_).up ler⟩
      · show (if b = a then g.G a else g'.G b) = none
        rw [if_neg hb]
        exact s'.zg b u zb
      · rw [h2 b hb, s'.zk b u zb, hu]
theorem lockS_get {d0 : D} {ks : List Key} {ds : List D} {δ : Sl} {j : Nat} {d : D} (e : (lockS d0 ks ds δ)[j]? = some (some d)) : ∃ x, δ[j]? = some (some x) ∧ ((sameLoc d0 x = true ∧ d = .dic ks ds) ∨ (x.clean = true ∧ d = x)) := by
  unfold lockS at e
  rw [List.getElem?_map] at e
  obtain ⟨o, ho, e2⟩ := Option.map_eq_some_iff.mp e
  cases o with
  | none => cases e2
  | some x =>
    refine ⟨x, ho, ?_⟩
    have e3 : (if sameLoc d0 x = true then some (D.dic ks ds) else if x.clean = true then some x else none) = some d := e2
    by_cases h1 : sameLoc d0 x = true
    · rw [if_pos h1] at e3
      cases e3
      exact .inl ⟨h1, rfl⟩
    · rw [if_neg h1] at e3
      by_cases h2 : x.clean = true
      · rw [if_pos h2] at e3
        cases e3
        exact .inr ⟨h2, rfl⟩
      · rw [if_neg h2] at e3
        cases e3
theorem lockS_ok {d0 : D} {ks : List Key} {ds : List D} {δ : Sl} {σ : L2.St} {a : Addr} {od : Obj} {kvs : List (Key × V)} (sl : Slots c g δ σ) (r0 : Rep c g d0 (.ref a)) (hk : kvs.map (·.1) = ks) (rs : RepL c g ds (kvs.map (·.2))) (hcl : D.cleanL ds = true) (l : Lk g.G (upd g.G a (.frz od (.dK kvs)))) : Slots c (walkG g a od kvs) (lockS d0 ks ds δ) σ := by
  refine ⟨by unfold lockS; rw [List.length_map]; exact sl.1, fun j d e => ?_⟩
  obtain ⟨x, hx, h⟩ := lockS_get e
  obtain ⟨v, h1, h2⟩ := sl.2 j x hx
  refine ⟨v, h1, ?_⟩
  rcases h with ⟨h, rfl⟩ | ⟨h, rfl⟩
  · unfold sameLoc at h
    split at h
    · rename_i n m
      have hnm : n = m := by simpa using h
      subst hnm
      rw [Rep] at r0 h2
      obtain ⟨a1, e1, e2⟩ := r0
      obtain ⟨a2, e3, e4⟩ := h2
      cases e1
      rw [e2] at e4
      cases e4
      subst e3
      rw [Rep]
      exact ⟨a, kvs, rfl, .inr ⟨od, upd_same⟩, hk, RepL.lk l (RepL.clean (ι := g.ι) hcl rs)⟩
    · cases h
  · exact Rep.lk l (Rep.clean (ι := g.ι) h h2)
end
section
variable {X : Cx} {c : RC} {W : WX} {k : Nat} {pos p : Pos}
/-- what the walk's turns come to, from the mirror -/
theorem lcD_inner {g : Wd} {Z H : Hp} {S : Sto} {a : Addr} {od : Obj} {kvs : List (Key × V)} {gm : MG} {mt : MT} {me : ME} {vs : List Nat} {δI : Sl} {ks : List Key} {σ : L2.St} {Q Q' : VK} {E : XK} {HL : Hp} {f : Hp → Hp} (s : SimH c g S Z H) (h1 : HL a = some (.frz od (.dK kvs))) (h2 : ∀ x, x ≠ a → HL x = H x) (hk : kvs.map (·.1) = ks) (hlen : ks.length ≤ 16777216) (hts : ∀ i ∈ gm.ts, i ∈ vs)
    (slI : Slots c (walkG g a od kvs) δI σ) (hz : Z a = none) (hg : ∀ H', H' a = some (.frz od (.dK kvs)) → ∀ o, g.G a = some o → f H' a = some o ∨ ∃ od kvs, o = .dK kvs ∧ f H' a = some (.frz od (.dK kvs))) (hc : (∃ (n : Nat) (o : O), g.ι[n]? = some a ∧ S[n]? = some o ∧ o ≠ .dead) → ∀ H', f H' a = H a) (hf : ∀ H' x, x ≠ a → f H' x = H' x)
    (hQ : ∀ v H', H' a = some (.frz od (.dK kvs)) → Q v (f H') → Q' v H')
    (q : Post c (Rep c) g Z (keepS S ((noX (lcGo gm mt me (wipeD δI vs) (ks.map keyD) [] [])).bind finF)) Q E) : Post c (Rep c) (walkG g a od kvs) (walkZ g Z H a) ((noX (lcGo gm mt me (wipeD δI vs) (ks.map keyD) [] [])).bind finF) Q' E := by
  cases er : (noX (lcGo gm mt me (wipeD δI vs) (ks.map keyD) [] [])).bind finF with
  | bad => rw [er] at q; exact q.elim
  | exc _ _ _ => rw [er] at q; exact q.elim
  | ok d S' =>
    rw [er] at q
    have hd : ∃ acc, d = .lst acc ∧ acc.all D.flat = true := by
      cases el : noX (lcGo gm mt me (wipeD δI vs) (ks.map keyD) [] []) with
      | bad => rw [el] at er; cases er
      | exc _ _ _ => rw [el] at er; cases er
      | ok acc S2 =>
        rw [el] at er
        have er' : (if acc.all D.flat = true then R.ok (D.lst acc) S2 else .bad) = .ok d S' := er
        by_cases hfl : acc.all D.flat = true
        · rw [if_pos hfl] at er'
          cases er'
          exact ⟨acc, rfl, hfl⟩
        · rw [if_neg hfl] at er'
          cases er'
    obtain ⟨acc, rfl, hfl⟩ := hd
    intro g' v H' le s' r
    have ha : H' a = some (.frz od (.dK kvs)) := frz_at s' (le.g a _ upd_same)
    obtain ⟨le2, s2⟩ := walk_back s (H2 := f H') le s' hz (hg H' ha) (fun hi => hc hi H') (hf H')
    refine hQ v H' ha (q _ v _ le2 s2 ?_)
    rw [Rep] at r ⊢
    obtain ⟨b, ws, rfl, hb, rs⟩ := r
    refine ⟨b, ws, rfl, ?_, flatL_any hfl rs⟩
    rcases hb with hb | hb
    · refine .inl ?_
      have hba : b ≠ a := fun z => by
        subst z
        have ga := le.g b _ upd_same
        rcases hb with hb | ⟨o, hb⟩
        · rw [ga] at hb; cases hb
        · rw [ga] at hb; cases hb
      rcases hb with hb | ⟨o, hb⟩
      · exact .inl (by show (if b = a then g.G a else g'.G b) = _; rw [if_neg hba]; exact hb)
      · exact .inr ⟨o, by show (if b = a then g.G a else g'.G b) = _; rw [if_neg hba]; exact hb⟩
    · exact .inr hb
theorem lcD_read {gm : MG} {mt : MT} {me : ME} {vs : List Nat} {i : Nat} (hts : ∀ i ∈ gm.ts, i ∈ vs) {σ : L2.St} {H : Hp} {Q : VK} (h : eM c W (mLcD i gm vs mt me) σ H Q) :
    tLc (iKeys (tVar i)) (gM c gm) (tM c W0 mt) (eM c W0 me) vs σ H Q ∨ tLockE (tLc (iKeys (tVar i)) (gM c gm) (tM c W0 mt) (eM c W0 me) vs) σ H Q := by
  obtain ⟨g, Z, δ, S, s, sl, q⟩ := h
  unfold mLcD at q
  split at q
  · rename_i d0 e0
    split at q
    · rename_i ks ds ed
      split at q
      · rename_i hlen
        obtain ⟨hlen, hcl⟩ := hlen
        obtain ⟨v, hv, r0⟩ := sl.2 i d0 e0
        obtain ⟨a, kvs, rfl, hr, hk, rs⟩ := dicOf_ok s r0 ed
        have hz : Z a = none := by
          cases hza : Z a with
          | none => rfl
          | some u =>
            exfalso
            have hga := s.zg a u hza
            unfold dicOf at ed
            split at ed
            · rw [Rep] at r0
              obtain ⟨a', kvs', ea, hra, _, _⟩ := r0
              cases ea
              rcases hra with hra | ⟨_, hra⟩
              · rw [hga] at hra; cases hra
              · rw [hga] at hra; cases hra
            · rename_i n
              split at ed
              · rename_i ks' vs' hx
                rw [Rep] at r0
                obtain ⟨a', ea, e1⟩ := r0
                cases ea
                have := (s.cell n a _ e1 hx).2.1
                rw [hza] at this
                cases this
              · cases ed
            · cases ed
        -- what stands at a in the world
        have hga : ∀ o, g.G a = some o → o = .dK kvs ∨ ∃ od, o = .frz od (.dK kvs) ∧ H a = some (.frz od (.dK kvs)) := fun o e => by
          rcases s.gk a o e with e1 | ⟨od, kvs', e1, e2⟩
          · rcases hr with h1 | ⟨od, h1⟩
            · rw [h1] at e1; cases e1; exact .inl rfl
            · rw [h1] at e1; cases e1; exact .inr ⟨od, rfl, h1⟩
          · rcases hr with h1 | ⟨od', h1⟩
            · rw [h1] at e2; cases e2
            · rw [h1] at e2; cases e2; exact .inl e1
        have hl : ∀ od, (∀ od', H a = some (.frz od' (.dK kvs)) → od' = od) → Lk g.G (upd g.G a (.frz od (.dK kvs))) := fun od ho x o e => by
          by_cases hx : x = a
          · subst hx
            rw [upd_same]
            rcases hga o e with rfl | ⟨od', rfl, h'⟩
            · exact .inr ⟨od, kvs, .inl ⟨rfl, rfl⟩⟩
            · rw [ho od' h']
              exact .inl rfl
          · exact .inl ((upd_ne hx).trans e)
        have it : ∀ od, ItOk c (walkG g a od kvs) (walkZ g Z H a) (Itk a od kvs) (ks.map keyD) := fun od => it_keys upd_same hk
        rcases hr with hr | ⟨od, hr⟩
        · refine .inr ⟨a, .dK kvs, hr, trivial, fun od => ⟨_, hv, a, od, rfl, .inl ⟨kvs, upd_same, fun p hp => ?_⟩⟩⟩
          have slI := lockS_ok (od := od) sl r0 hk rs hcl (hl od fun od' h' => by rw [hr] at h'; cases h')
          have q2 : Post c (Rep c) g Z (keepS S ((noX (lcGo gm mt me (wipeD (lockS d0 ks ds δ) vs) (ks.map keyD) [] [])).bind finF)) Q (fun _ _ _ => True) := by
            cases hx : keepS S ((noX (lcGo gm mt me (wipeD (lockS d0 ks ds δ) vs) (ks.map keyD) [] [])).bind finF) with
            | ok d S2 => rw [hx] at q; exact q
            | exc k' vs' S2 => exact fun _ _ _ _ _ _ => trivial
            | bad => rw [hx] at q; exact q
          have qi := lcD_inner (gm := gm) (mt := mt) (me := me) (f := fun H' => upd H' a (.dK kvs)) (Q := Q) (Q' := fun v H' => H' a = some (.frz od (.dK kvs)) ∧ Q v (upd H' a (.dK kvs))) s upd_same (fun x hx => upd_ne hx) hk hlen hts slI hz (fun H' _ o e => by
            rcases hga o e with rfl | ⟨od', rfl, h'⟩
            · exact .inl upd_same
            · rw [hr] at h'; cases h') (fun hi H' => by rw [upd_same, hr]) (fun H' x hx => upd_ne hx) (fun v H' h1 h2 => ⟨h1, h2⟩) q2
          exact lc_ok (c := c) (it od) (by rw [List.length_map]; exact hlen) hts (walk_sim s upd_same fun x hx => upd_ne hx) (Slots.wipe slI vs) qi (finF_ok (g1 := walkG g a od kvs)) p hp
        · refine .inl ⟨_, hv, a, od, rfl, .inl ⟨kvs, hr, fun p hp => ?_⟩⟩
          have slI := lockS_ok (od := od) sl r0 hk rs hcl (hl od fun od' h' => by rw [hr] at h'; cases h'; rfl)
          have nc : ¬ ∃ (n : Nat) (o : O), g.ι[n]? = some a ∧ S[n]? = some o ∧ o ≠ .dead := fun ⟨n, o, e1, e2, hd⟩ => by
            have h3 := (s.cell n a o e1 e2).2.2
            cases o with
            | lst xs => obtain ⟨_, _, e, _⟩ := h3; rw [hr] at e; cases e
            | dic ks xs => obtain ⟨_, _, e, _⟩ := h3; rw [hr] at e; cases e
            | dct ks xs => obtain ⟨_, _, e, _⟩ := h3; rw [hr] at e; cases e
            | ins ks xs => obtain ⟨_, _, _, _, e, _⟩ := h3; rw [hr] at e; cases e
            | dead => exact hd rfl
          have q2 : Post c (Rep c) g Z (keepS S ((noX (lcGo gm mt me (wipeD (lockS d0 ks ds δ) vs) (ks.map keyD) [] [])).bind finF)) Q (fun _ _ _ => True) := by
            cases hx : keepS S ((noX (lcGo gm mt me (wipeD (lockS d0 ks ds δ) vs) (ks.map keyD) [] [])).bind finF) with
            | ok d S2 => rw [hx] at q; exact q
            | exc k' vs' S2 => exact fun _ _ _ _ _ _ => trivial
            | bad => rw [hx] at q; exact q
          have qi := lcD_inner (gm := gm) (mt := mt) (me := me) (f := fun H' => H') (Q := Q) (Q' := Q) s hr (fun x hx => rfl) hk hlen hts slI hz (fun H' h1 o e => by
            rcases hga o e with rfl | ⟨od', rfl, h'⟩
            · exact .inr ⟨od, kvs, rfl, h1⟩
            · rw [hr] at h'
              cases h'
              exact .inl h1) (fun hi H' => absurd hi nc) (fun H' x hx => rfl) (fun v H' h1 h2 => h2) q2
          exact lc_ok (c := c) (it od) (by rw [List.length_map]; exact hlen) hts (walk_sim s hr fun x hx => rfl) (Slots.wipe slI vs) qi (finF_ok (g1 := walkG g a od kvs)) p hp
      · exact q.elim
    · exact q.elim
  · exact q.elim
theorem ce_lcD {elt tg : Expr} {x : Str} {ifs : List Expr} {scope : Scope} {own : List (Str × Nat)} {i : Nat} {gm : MG} {mt : MT} {me : ME} (cf : Cf k X c) (hN : X.N.Nodup) (ok : BlkOk X.N X.env.scope scope own) (hts : ∀ i ∈ gm.ts, i ∈ own.map (·.2))
    (hg : ∀ (s : Shared) (H : Hp) (C : Addr) (cl : List (Str × Addr)) (fp : List Addr), CG (X.blk s H scope (compEnvC scope cl C X.env) fp) c tg gm)
    (ht : ∀ (s : Shared) (H : Hp) (C : Addr) (cl : List (Str × Addr)) (fp : List Addr), PTs (X.blk s H scope (compEnvC scope cl C X.env) fp) ifs (tM c W0 mt))
    (he : ∀ (s : Shared) (H : Hp) (C : Addr) (cl : List (Str × Addr)) (fp : List Addr), CE (X.blk s H scope (compEnvC scope cl C X.env) fp) c W0 elt me)
    (hx : X.N[i]? = some x := by rfl) (hv : Vis X.env.scope x := by first | exact .inl rfl | exact .inr (.inl rfl) | exact .inr (.inr rfl)) (hd : (x == ("__debug__" : Str)) = false := by decide) (hcd : (x == ("__classdict__" : Str)) = false := by decide) (hs : ∀ y, foldedSetIterable (.Name x p) X.env y = pure y := by intro _; rfl) :
    CE X c W (.ListComp elt [⟨tg, .Name x p, ifs, 0⟩] scope pos) (mLcD i gm (own.map (·.2)) mt me) :=
  weakE (pe_both (pe_lc cf.calm hN (pi_keys (pe_var hx hv hd hcd)) ok hg ht he hs)) fun σ H Q h => lcD_read hts h
end
/-! ### dict(d) as a tree -/
def fDicT (xs : List D) (S : Sto) : R D := match xs with
  | [x] => (match dicOf S x with
    | some (ks, ds) => .ok (.dic ks ds) S
    | none => .bad)
  | _ => .bad
theorem dic_new {c : RC} {g : Wd} {S : Sto} {Z H : Hp} (s : SimH c g S Z H) {kvs : List (Key × V)} {ds : List D} (r : RepL c g ds (kvs.map (·.2))) {p : Addr} (hp : H p = none) {Q : VK} {E : XK} (q : Post c (Rep c) g Z (.ok (.dic (kvs.map (·.1)) ds) S) Q E) : Q (.ref p) (upd H p (.dK kvs)) := by
  obtain ⟨le, s'⟩ := s.new hp (.dK kvs)
  refine q _ _ _ le s' ?_
  rw [Rep]
  exact ⟨p, kvs, rfl, .inl upd_same, rfl, r.up le⟩
theorem cl_dicT {c : RC} : ClD c rDcp fDicT := fun g Z S H x v Q E sm rp q => by
  unfold fDicT at q
  split at q
  · rename_i y
    obtain ⟨u, rfl, r1⟩ := vals_one rp
    split at q
    · rename_i ks ds e1
      obtain ⟨ad, kvs, rfl, hr, rfl, rs⟩ := dicOf_ok sm r1 e1
      exact ⟨ad, kvs, rfl, hr, fun p hp => dic_new sm rs hp q⟩
    · exact q.elim
  · exact q.elim
/-! ### a fresh cell handed back as a tree -/
def finT (n0 : Nat) (d : D) (S : Sto) : R D := match d with
  | .loc n => (match S[n]? with
    | some (.dic ks vs) => if n0 ≤ n ∧ n0 ≤ S.length then .ok (.dic ks vs) (S.take n0) else .bad
    | _ => finD n0 d S)
  | d => finD n0 d S
theorem fin_tree {c : RC} {g : Wd} {S S' : Sto} {Z : Hp} {d : D} {Q : VK} {E : XK} (hlen : g.ι.length = S.length) (q : Post c (Rep c) g Z (finT S.length d S') Q E) : ∀ g' v H, g.le g' → SimH c g' S' Z H → Rep c g' d v → Q v H := by
  cases d with
  | loc n =>
    unfold finT at q
    simp only at q
    split at q
    · rename_i ks xs hx
      split at q
      · rename_i hn
        intro g' v H le s r
        obtain ⟨le1, s1⟩ := s.cut le hlen hn.2
        rw [Rep] at r
        obtain ⟨a, rfl, e⟩ := r
        obtain ⟨h1, h2, hc, kvs, hH, hk, rs⟩ := s.cell n a _ e hx
        have na : a ∉ g.ι := fun h => by
          obtain ⟨m, hm, em⟩ := List.getElem_of_mem h
          have e2 : g'.ι[m]? = some a := pre_get le.i (by simp [hm, em])
          have := nodup_at s.nd e e2
          omega
        obtain ⟨le2, s2⟩ := s1.fix hH na h2 (h1 (by simp))
        refine q _ _ _ (le1.trans le2) s2 ?_
        rw [Rep]
        exact ⟨a, kvs, rfl, .inl upd_same, hk, RepL.up le2 (RepL.clean (ι := g'.ι) hc rs)⟩
      · exact q.elim
    · exact fin_keep hlen q
  | _ => exact fin_keep hlen q
end DL

end
section
/-! DM, part l: in the plain: what stays while a bag is drawn from; walks of lists whose turns have numbers; data compared. -/
namespace DL
open PySem PySem.Spec L2
/-! ### the bag at n, all other cells below as before -/
def Bag (n : Nat) (S : Sto) : Prop := ∃ a b : Int, S[n]? = some (.lst [.int a, .int b])
structure Ext (n : Nat) (S S' : Sto) : Prop where
  lt : n < S.length
  le : S.length ≤ S'.length
  same : ∀ m, m < S.length → m ≠ n → S'[m]? = S[m]?
  bag : Bag n S'
/-- .. and no more cells -/
structure EqL (n : Nat) (S S' : Sto) : Prop extends Ext n S S' where
  eq : S'.length = S.length
section
variable {n : Nat} {S S1 S2 : Sto}
theorem Bag.lt (h : Bag n S) : n < S.length := by
  obtain ⟨a, b, e⟩ := h
  exact (List.getElem?_eq_some_iff.mp e).1
theorem Bag.refl (h : Bag n S) : EqL n S S := ⟨⟨h.lt, Nat.le_refl _, fun _ _ _ => rfl, h⟩, rfl⟩
theorem Ext.trans (h : Ext n S S1) (k : Ext n S1 S2) : Ext n S S2 := ⟨h.lt, Nat.le_trans h.le k.le, fun m hm hn => (k.same m (Nat.lt_of_lt_of_le hm h.le) hn).trans (h.same m hm hn), k.bag⟩
theorem EqL.trans (h : EqL n S S1) (k : EqL n S1 S2) : EqL n S S2 := ⟨h.toExt.trans k.toExt, k.eq.trans h.eq⟩
theorem Bag.app (h : Bag n S) (r : Sto) : Ext n S (S ++ r) := by
  obtain ⟨a, b, e⟩ := h
  have hl := (List.getElem?_eq_some_iff.mp e).1
  exact ⟨hl, by simp, fun m hm _ => List.getElem?_append_left hm, a, b, by rw [List.getElem?_append_left hl]; exact e⟩
theorem Ext.app (h : Ext n S S1) (r : Sto) : Ext n S (S1 ++ r) := h.trans (h.bag.app r)
theorem set_eqL {a b : Int} (h : n < S.length) : EqL n S (S.set n (.lst [.int a, .int b])) := ⟨⟨h, by simp, fun m _ hn => List.getElem?_set_ne (Ne.symm hn), a, b, by rw [List.getElem?_set_self h]⟩, by simp⟩
/-- a cell that is younger is changed -/
theorem Ext.set (h : Ext n S S1) {m : Nat} {o : O} (hm : S.length ≤ m) : Ext n S (S1.set m o) := by
  obtain ⟨a, b, e⟩ := h.bag
  have hl := h.lt
  exact ⟨h.lt, by rw [List.length_set]; exact h.le, fun k hk hn => by rw [List.getElem?_set_ne (by omega)]; exact h.same k hk hn, a, b, by rw [List.getElem?_set_ne (by omega)]; exact e⟩
theorem Ext.take (h : Ext n S S1) : EqL n S (S1.take S.length) := by
  obtain ⟨a, b, e⟩ := h.bag
  have hl := h.lt
  have hle := h.le
  refine ⟨⟨h.lt, by rw [List.length_take]; omega, fun m hm hn => ?_, a, b, ?_⟩, by rw [List.length_take]; omega⟩
  · rw [List.getElem?_take_of_lt hm]
    exact h.same m hm hn
  · rw [List.getElem?_take_of_lt hl]
    exact e
theorem Ext.at (h : Ext n S S1) {m : Nat} {o : O} (e : S[m]? = some o) (hn : m ≠ n) : S1[m]? = some o := (h.same m (List.getElem?_eq_some_iff.mp e).1 hn).trans e
theorem Bag.set {m : Nat} {o : O} (h : Bag n S) (hn : m ≠ n) : Bag n (S.set m o) := by
  obtain ⟨a, b, e⟩ := h
  exact ⟨a, b, by rw [List.getElem?_set_ne hn]; exact e⟩
/-- a list made in a cell of its own, handed back as it stands -/
theorem fin_lst (h : Ext n S S1) {m : Nat} {xs : List D} (hm : S.length ≤ m) (e : S1[m]? = some (.lst xs)) : finD S.length (.loc m) S1 = .ok (.lst xs) (S1.take S.length) := by
  have hl : S.length < S1.length := by
    have := (List.getElem?_eq_some_iff.mp e).1
    omega
  unfold finD
  rw [if_neg (by omega), if_pos h.le]
  simp only
  rw [if_neg (by omega), e]
theorem fin_dic (h : Ext n S S1) {m : Nat} {ks : List Key} {vs : List D} (hm : S.length ≤ m) (e : S1[m]? = some (.dic ks vs)) : finT S.length (.loc m) S1 = .ok (.dic ks vs) (S1.take S.length) := by
  unfold finT
  simp only [e]
  rw [if_pos ⟨hm, h.le⟩]
theorem fin_clean (h : S.length ≤ S1.length) {d : D} (hd : d.clean = true) : ∃ S2, finD S.length d S1 = .ok d S2 ∧ S2 = S1.take S.length := by
  by_cases hl : S1.length = S.length
  · exact ⟨S1, by unfold finD; rw [if_pos hl], by rw [← hl, List.take_length]⟩
  · refine ⟨S1.take S.length, ?_, rfl⟩
    unfold finD
    rw [if_neg hl, if_pos h]
    cases d with
    | loc n => cases hd
    | _ => simp only [hd, if_true]
theorem fin_exc2 (h : S.length ≤ S1.length) {k : Nat} {vs : List D} (hd : D.cleanL vs = true) : finX S.length k vs S1 = .exc k vs (S1.take S.length) := by
  by_cases hl : S1.length = S.length
  · unfold finX
    rw [if_pos hl, ← hl, List.take_length]
  · unfold finX
    rw [if_neg hl, if_pos ⟨h, hd⟩]
end
/-! ### numbered turns -/
section
variable {gm : MG} {b : MS} {S : Sto} {I : Nat → Sl → Prop} {ok : Nat → Prop} {err : Nat → F → Prop}
/-- a turn: it goes on and is ok, or it ends the loop -/
def Turns (gm : MG) (b : MS) (S : Sto) (I : Nat → Sl → Prop) (ok : Nat → Prop) (err : Nat → F → Prop) (f : Nat → D → D) (ds : List D) : Prop :=
  ∀ (i : Nat) d, ds[i]? = some d → ∀ δ, I i δ → ∃ δ1, gm.f (f i d) δ = some δ1 ∧ ((∃ δ2, b δ1 S = .nx δ2 S ∧ I (i + 1) δ2 ∧ ok i) ∨ (((∃ r S', b δ1 S = .ret r S') ∨ ∃ k vs δ2 S', b δ1 S = .exc k vs δ2 S') ∧ err i (b δ1 S)))
def Walked (n : Nat) (S : Sto) (I : Nat → Sl → Prop) (ok : Nat → Prop) (err : Nat → F → Prop) (r : F) : Prop :=
  (∃ δ', r = .nx δ' S ∧ I n δ' ∧ ∀ i, i < n → ok i) ∨ (∃ i, i < n ∧ err i r ∧ (∀ j, j < i → ok j) ∧ ((∃ d S', r = .ret d S') ∨ ∃ k vs δ2 S', r = .exc k vs δ2 S'))
theorem walk_list {f : Nat → D → D} : ∀ {ds : List D} {m : Nat}, (∀ (i : Nat) d, ds[i]? = some d → ∀ δ, I (m + i) δ → ∃ δ1, gm.f (f (m + i) d) δ = some δ1 ∧ ((∃ δ2, b δ1 S = .nx δ2 S ∧ I (m + i + 1) δ2 ∧ ok (m + i)) ∨ (((∃ r S', b δ1 S = .ret r S') ∨ ∃ k vs δ2 S', b δ1 S = .exc k vs δ2 S') ∧ err (m + i) (b δ1 S)))) → (∀ j, j < m → ok j) → ∀ δ, I m δ →
    Walked (m + ds.length) S I ok err (forGo gm b (ds.mapIdx fun i x => f (m + i) x) δ S)
  | [], m, _, ho, δ, h => .inl ⟨δ, rfl, h, ho⟩
  | d :: r, m, hb, ho, δ, h => by
    obtain ⟨δ1, e1, h1⟩ := hb 0 d rfl δ h
    rw [List.mapIdx_cons]
    rcases h1 with ⟨δ2, e2, h2, o2⟩ | ⟨h2, h3⟩
    · have ih := walk_list (f := f) (ds := r) (m := m + 1) (fun i x hx δ hi => by
        have := hb (i + 1) x (by simpa using hx) δ (by rw [show m + (i + 1) = m + 1 + i by omega]; exact hi)
        rw [show m + (i + 1) = m + 1 + i by omega] at this
        exact this) (fun j hj => by
          by_cases c : j < m
          · exact ho j c
          · have : j = m := by omega
            subst this
            exact o2) δ2 h2
      rw [forGo_nx e1 e2]
      rw [show m + (d :: r).length = m + 1 + r.length by simp; omega]
      have eq : (fun (i : Nat) x => f (m + (i + 1)) x) = fun i x => f (m + 1 + i) x := by
        funext i x
        rw [show m + (i + 1) = m + 1 + i by omega]
      rw [eq]
      exact ih
    · have e0 : forGo gm b (f (m + 0) d :: r.mapIdx fun i x => f (m + (i + 1)) x) δ S = b δ1 S := by
        rw [forGo, e1]
        simp only
        rcases h2 with ⟨x, S', h2⟩ | ⟨k, vs, δ2, S', h2⟩ <;> rw [h2]
      rw [e0]
      exact .inr ⟨m, by simp, h3, ho, h2⟩
theorem walk_E {n : Nat} {xs : List D} (hx : S[n]? = some (.lst xs)) (hb : Turns gm b S I ok err (fun i d => .tup [.int (i : Int), d]) xs) : ∀ k, k ≤ xs.length → (∀ j, j < xs.length - k → ok j) → ∀ δ, I (xs.length - k) δ → Walked xs.length S I ok err (forGoE gm b n xs.length k δ S)
  | 0, _, ho, δ, h => .inl ⟨δ, by unfold forGoE; rw [hx]; simp, by simpa using h, by simpa using ho⟩
  | k + 1, hk, ho, δ, h => by
    have e : xs[xs.length - (k + 1)]? = some (xs[xs.length - (k + 1)]'(by omega)) := by simp
    obtain ⟨δ1, e1, h1⟩ := hb _ _ e δ h
    rw [forGoE, hx]
    simp only [if_true, e, e1]
    have es : xs.length - (k + 1) + 1 = xs.length - k := by omega
    rcases h1 with ⟨δ2, e2, h2, o2⟩ | ⟨h2, h3⟩
    · rw [e2]
      rw [es] at h2
      exact walk_E hx hb k (by omega) (fun j hj => by
        by_cases c : j < xs.length - (k + 1)
        · exact ho j c
        · have : j = xs.length - (k + 1) := by omega
          rw [this]
          exact o2) δ2 h2
    · have := h3
      rcases h2 with ⟨x, S', h2⟩ | ⟨kk, vs, δ2, S', h2⟩
      · rw [h2] at h3 ⊢
        exact .inr ⟨_, by omega, h3, ho, .inl ⟨_, _, rfl⟩⟩
      · rw [h2] at h3 ⊢
        exact .inr ⟨_, by omega, h3, ho, .inr ⟨_, _, _, _, rfl⟩⟩
theorem walk_C {n : Nat} {xs : List D} (hx : S[n]? = some (.lst xs)) (hb : Turns gm b S I ok err (fun _ d => d) xs) : ∀ k, k ≤ xs.length → (∀ j, j < xs.length - k → ok j) → ∀ δ, I (xs.length - k) δ → Walked xs.length S I ok err (forGoC gm b n xs.length k δ S)
  | 0, _, ho, δ, h => .inl ⟨δ, by unfold forGoC; rw [hx]; simp, by simpa using h, by simpa using ho⟩
  | k + 1, hk, ho, δ, h => by
    have e : xs[xs.length - (k + 1)]? = some (xs[xs.length - (k + 1)]'(by omega)) := by simp
    obtain ⟨δ1, e1, h1⟩ := hb _ _ e δ h
    rw [forGoC, hx]
    simp only [if_true, e, e1]
    have es : xs.length - (k + 1) + 1 = xs.length - k := by omega
    rcases h1 with ⟨δ2, e2, h2, o2⟩ | ⟨h2, h3⟩
    · rw [e2]
      rw [es] at h2
      exact walk_C hx hb k (by omega) (fun j hj => by
        by_cases c : j < xs.length - (k + 1)
        · exact ho j c
        · have : j = xs.length - (k + 1) := by omega
          rw [this]
          exact o2) δ2 h2
    · rcases h2 with ⟨x, S', h2⟩ | ⟨kk, vs, δ2, S', h2⟩
      · rw [h2] at h3 ⊢
        exact .inr ⟨_, by omega, h3, ho, .inl ⟨_, _, rfl⟩⟩
      · rw [h2] at h3 ⊢
        exact .inr ⟨_, by omega, h3, ho, .inr ⟨_, _, _, _, rfl⟩⟩
theorem walk_L {ds : List D} (hb : Turns gm b S I ok err (fun _ d => d) ds) {δ : Sl} (h : I 0 δ) : Walked ds.length S I ok err (forGo gm b ds δ S) := by
  have := walk_list (f := fun _ d => d) (m := 0) (ds := ds) (gm := gm) (b := b) (S := S) (I := I) (ok := ok) (err := err) (fun i d hd δ hi => by rw [Nat.zero_add] at hi ⊢; exact hb i d hd δ hi) (fun j hj => by omega) δ h
  rw [Nat.zero_add] at this
  have e : (ds.mapIdx fun (i : Nat) x => x) = ds := by
    refine List.ext_getElem (by simp) fun i h1 h2 => by simp
  rwa [e] at this
theorem walk_enum {mo : ME} {L : D} {ds : List D} {δ : Sl} (hs : SqS S L ds) (e : mo δ S = .ok L S) (hb : Turns gm b S I ok err (fun i d => .tup [.int (i : Int), d]) ds) (h : I 0 δ) : Walked ds.length S I ok err (sForE mo gm b δ S) := by
  unfold sForE
  rw [e]
  simp only [R.flow_ok]
  have hl := walk_list (f := fun i d => .tup [.int (i : Int), d]) (m := 0) (ds := ds) (gm := gm) (b := b) (S := S) (I := I) (ok := ok) (err := err) (fun i d hd δ hi => by rw [Nat.zero_add] at hi ⊢; exact hb i d hd δ hi) (fun j hj => by omega) δ h
  simp only [Nat.zero_add] at hl
  rcases hs with rfl | rfl | ⟨n, rfl, hx⟩
  · exact hl
  · exact hl
  · simp only [hx]
    exact walk_E hx hb ds.length (Nat.le_refl _) (fun j hj => by omega) δ (by simpa using h)
theorem walk_any {mo : ME} {L : D} {ds : List D} {δ : Sl} (hs : SqS S L ds) (e : mo δ S = .ok L S) (hb : Turns gm b S I ok err (fun _ d => d) ds) (h : I 0 δ) : Walked ds.length S I ok err (sForA mo gm b δ S) := by
  unfold sForA
  rw [e]
  simp only [R.flow_ok]
  rcases hs with rfl | rfl | ⟨n, rfl, hx⟩
  · exact walk_L hb h
  · exact walk_L hb h
  · simp only [hx]
    exact walk_C hx hb ds.length (Nat.le_refl _) (fun j hj => by omega) δ (by simpa using h)
end
/-! ### data compared: no truth values, texts of signs that there are, so deep -/
def Nc : Nat → D → Prop
  | _, .non => True
  | _, .int _ => True
  | _, .str x => PyData.strOk x = true
  | n + 1, .tup xs => ∀ x ∈ xs, Nc n x
  | n + 1, .lst xs => ∀ x ∈ xs, Nc n x
  | _, _ => False
theorem Nc.mono : ∀ {n m : Nat} {d : D}, n ≤ m → Nc n d → Nc m d
  | n, m, .non, _, _ => by cases m <;> trivial
  | n, m, .int _, _, _ => by cases m <;> trivial
  | n, m, .str x, _, h => by
    have h' : PyData.strOk x = true := by cases n <;> exact h
    cases m <;> exact h'
  | n + 1, 0, .tup xs, hl, _ => absurd hl (by omega)
  | n + 1, m + 1, .tup xs, hl, h => fun x hx => Nc.mono (Nat.le_of_succ_le_succ hl) (h x hx)
  | n + 1, 0, .lst xs, hl, _ => absurd hl (by omega)
  | n + 1, m + 1, .lst xs, hl, h => fun x hx => Nc.mono (Nat.le_of_succ_le_succ hl) (h x hx)
  | 0, _, .tup _, _, h => False.elim h
  | 0, _, .lst _, _, h => False.elim h
  | 0, _, .bl _, _, h => False.elim h
  | _ + 1, _, .bl _, _, h => False.elim h
  | 0, _, .dic _ _, _, h => False.elim h
  | _ + 1, _, .dic _ _, _, h => False.elim h
  | 0, _, .ins _ _, _, h => False.elim h
  | _ + 1, _, .ins _ _, _, h => False.elim h
  | 0, _, .exv _ _, _, h => False.elim h
  | _ + 1, _, .exv _ _, _, h => False.elim h
  | 0, _, .loc _, _, h => False.elim h
  | _ + 1, _, .loc _, _, h => False.elim h
  | 0, _, .glb _, _, h => False.elim h
  | _ + 1, _, .glb _, _, h => False.elim h
  | 0, _, .cls _, _, h => False.elim h
  | _ + 1, _, .cls _, _, h => False.elim h
theorem ncL_py {n : Nat} (ih : ∀ d, Nc n d → ∃ p, d.py = some p ∧ p.canLay0 = true ∧ p.depth ≤ n) : ∀ {xs : List D}, (∀ x ∈ xs, Nc n x) → ∃ ps, D.pyL xs = some ps ∧ PyData.canLayAll0 ps = true ∧ PyData.depthAll ps ≤ n
  | [], _ => ⟨[], by rw [D.pyL], rfl, Nat.zero_le _⟩
  | d :: r, h => by
    obtain ⟨p, h1, h2, h3⟩ := ih d (h d List.mem_cons_self)
    obtain ⟨ps, e1, e2, e3⟩ := ncL_py ih (xs := r) fun x hx => h x (List.mem_cons_of_mem _ hx)
    refine ⟨p :: ps, by rw [D.pyL, h1, e1], ?_, ?_⟩
    · rw [PyData.canLayAll0, h2, e2]
      rfl
    · rw [PyData.depthAll]
      omega
theorem nc_py : ∀ (n : Nat) (d : D), Nc n d → ∃ p, d.py = some p ∧ p.canLay0 = true ∧ p.depth ≤ n
  | n, .non, _ => ⟨.none, by rw [D.py], rfl, Nat.zero_le _⟩
  | n, .int i, _ => ⟨.int i, by rw [D.py], rfl, Nat.zero_le _⟩
  | n, .str x, h => ⟨.str x, by rw [D.py], by rw [PyData.canLay0]; cases n <;> exact h, Nat.zero_le _⟩
  | n + 1, .tup xs, h => by
    obtain ⟨ps, h1, h2, h3⟩ := ncL_py (nc_py n) h
    exact ⟨.tuple ps, by rw [D.py, h1]; rfl, by rw [PyData.canLay0]; exact h2, by rw [PyData.depth]; omega⟩
  | n + 1, .lst xs, h => by
    obtain ⟨ps, h1, h2, h3⟩ := ncL_py (nc_py n) h
    exact ⟨.list ps, by rw [D.py, h1]; rfl, by rw [PyData.canLay0]; exact h2, by rw [PyData.depth]; omega⟩
  | 0, .tup _, h => False.elim h
  | 0, .lst _, h => False.elim h
  | 0, .bl _, h => False.elim h
  | _ + 1, .bl _, h => False.elim h
  | 0, .dic _ _, h => False.elim h
  | _ + 1, .dic _ _, h => False.elim h
  | 0, .ins _ _, h => False.elim h
  | _ + 1, .ins _ _, h => False.elim h
  | 0, .exv _ _, h => False.elim h
  | _ + 1, .exv _ _, h => False.elim h
  | 0, .loc _, h => False.elim h
  | _ + 1, .loc _, h => False.elim h
  | 0, .glb _, h => False.elim h
  | _ + 1, .glb _, h => False.elim h
  | 0, .cls _, h => False.elim h
  | _ + 1, .cls _, h => False.elim h
theorem pyL_nil : D.pyL [] = some [] := by rw [D.pyL.eq_def]
theorem pyL_cons (d : D) (r : List D) : D.pyL (d :: r) = match D.py d, D.pyL r with
    | some p, some ps => some (p :: ps)
    | _, _ => none := (D.pyL.eq_def _).trans rfl
theorem py_non : D.py .non = some .none := by rw [D.py.eq_def]
theorem py_int (i : Int) : D.py (.int i) = some (.int i) := by rw [D.py.eq_def]
theorem py_str (x : Str) : D.py (.str x) = some (.str x) := by rw [D.py.eq_def]
theorem py_lst (xs : List D) : D.py (.lst xs) = (D.pyL xs).map .list := by rw [D.py.eq_def]
theorem py_tup (xs : List D) : D.py (.tup xs) = (D.pyL xs).map .tuple := by rw [D.py.eq_def]
theorem eqvL_iff {n : Nat} (ih : ∀ d e p q, Nc n d → Nc n e → d.py = some p → e.py = some q → (PyData.eqv p q = true ↔ d = e)) : ∀ {xs ys : List D} {ps qs : List PyData}, (∀ x ∈ xs, Nc n x) → (∀ x ∈ ys, Nc n x) → D.pyL xs = some ps → D.pyL ys = some qs → (PyData.eqvAll ps qs = true ↔ xs = ys)
  | [], [], ps, qs, _, _, h1, h2 => by
    rw [pyL_nil] at h1 h2
    cases h1
    cases h2
    simp [PyData.eqvAll]
  | [], e :: ys, ps, qs, _, h, h1, h2 => by
    rw [pyL_nil] at h1
    rw [pyL_cons] at h2
    cases h1
    split at h2
    · cases h2
      simp [PyData.eqvAll]
    · cases h2
  | d :: xs, [], ps, qs, h, _, h1, h2 => by
    rw [pyL_nil] at h2
    rw [pyL_cons] at h1
    cases h2
    split at h1
    · cases h1
      simp [PyData.eqvAll]
    · cases h1
  | d :: xs, e :: ys, ps, qs, hx, hy, h1, h2 => by
    rw [pyL_cons] at h1 h2
    split at h1
    · rename_i p ps' e1 e2
      cases h1
      split at h2
      · rename_i q qs' e3 e4
        cases h2
        rw [PyData.eqvAll, Bool.and_eq_true, ih d e p q (hx d List.mem_cons_self) (hy e List.mem_cons_self) e1 e3, eqvL_iff ih (fun x h => hx x (List.mem_cons_of_mem _ h)) (fun x h => hy x (List.mem_cons_of_mem _ h)) e2 e4]
        exact ⟨fun ⟨a, b⟩ => by rw [a, b], fun h => by cases h; exact ⟨rfl, rfl⟩⟩
      · cases h2
    · cases h1
theorem eqv_iff : ∀ (n : Nat) (d e : D) (p q : PyData), Nc n d → Nc n e → d.py = some p → e.py = some q → (PyData.eqv p q = true ↔ d = e) := by
  intro n
  induction n with
  | zero =>
    intro d e p q hd he h1 h2
    cases d <;> first | exact hd.elim | skip
    all_goals cases e <;> first | exact he.elim | skip
    all_goals simp only [py_non, py_int, py_str, Option.some.injEq] at h1 h2
    all_goals subst h1 h2
    all_goals simp [PyData.eqv]
  | succ n ih =>
    intro d e p q hd he h1 h2
    cases d <;> first | exact hd.elim | skip
    all_goals cases e <;> first | exact he.elim | skip
    all_goals simp only [py_non, py_int, py_str, py_lst, py_tup, Option.some.injEq, Option.map_eq_some_iff] at h1 h2
    all_goals first
      | (subst h1 h2; simp [PyData.eqv]; done)
      | (obtain ⟨ps, e1, rfl⟩ := h1
         obtain ⟨qs, e2, rfl⟩ := h2
         rw [PyData.eqv, eqvL_iff ih hd he e1 e2]
         exact ⟨fun h => by rw [h], fun h => by cases h; rfl⟩)
      | (obtain ⟨ps, e1, rfl⟩ := h1
         obtain ⟨qs, e2, rfl⟩ := h2
         simp [PyData.eqv]; done)
      | (obtain ⟨ps, e1, rfl⟩ := h1
         subst h2
         simp [PyData.eqv]; done)
      | (obtain ⟨ps, e1, rfl⟩ := h2
         subst h1
         simp [PyData.eqv]; done)
noncomputable def dcd (p : Prop) : Bool := @decide p (Classical.propDecidable p)
theorem dcd_t {p : Prop} (h : p) : dcd p = true := @decide_eq_true p (Classical.propDecidable p) h
theorem dcd_f {p : Prop} (h : ¬ p) : dcd p = false := @decide_eq_false p (Classical.propDecidable p) h
theorem of_dcd {p : Prop} (h : dcd p = true) : p := @of_decide_eq_true p (Classical.propDecidable p) h
theorem of_dcdF {p : Prop} (h : dcd p = false) : ¬ p := @of_decide_eq_false p (Classical.propDecidable p) h
theorem dcd_iff {p : Prop} {b : Bool} (h : b = true ↔ p) : b = dcd p := by
  by_cases hp : p
  · rw [dcd_t hp]
    exact h.mpr hp
  · rw [dcd_f hp]
    exact Bool.eq_false_iff.mpr fun z => hp (h.mp z)
theorem shaped_nc {n : Nat} (hn : n ≤ 64) {d : D} {p : PyData} (h : Nc n d) (e : d.py = some p) : SeqAt.shaped p = true := by
  obtain ⟨q, e2, h1, h2⟩ := nc_py n d h
  rw [e] at e2
  cases e2
  unfold SeqAt.shaped
  rw [h1, Bool.true_and]
  exact decide_eq_true (Nat.le_trans h2 hn)
section
variable {n : Nat} {x y : D} {S : Sto}
theorem pyS_py {d : D} {p : PyData} (e : d.py = some p) : d.pyS S = some p := by
  cases d with
  | loc n => rw [D.py] at e <;> first | cases e | (intros; simp)
  | _ => exact e
theorem eqT_nc (hn : n ≤ 64) (hx : Nc n x) (hy : Nc n y) : fEqT x y S = .ok (.bl (dcd (x = y))) S ∧ fNeT x y S = .ok (.bl (!dcd (x = y))) S := by
  obtain ⟨p, e1, _, _⟩ := nc_py n x hx
  obtain ⟨q, e2, _, _⟩ := nc_py n y hy
  have h := dcd_iff (eqv_iff n x y p q hx hy e1 e2)
  constructor
  · unfold fEqT
    rw [pyS_py e1, pyS_py e2]
    simp only
    rw [if_pos ⟨shaped_nc hn hx e1, shaped_nc hn hy e2⟩, h]
  · unfold fNeT
    rw [pyS_py e1, pyS_py e2]
    simp only
    rw [if_pos ⟨shaped_nc hn hx e1, shaped_nc hn hy e2⟩, h]
theorem eq_nc (hn : n ≤ 64) (hx : Nc n x) (hy : Nc n y) : fEq x y S = .ok (.bl (dcd (x = y))) S := by
  unfold fEq
  split
  · rename_i a b
    have : decide (a = b) = dcd (D.str a = D.str b) := dcd_iff (by rw [decide_eq_true_iff]; exact ⟨fun h => by rw [h], fun h => by cases h; rfl⟩)
    rw [this]
  · rename_i a b
    have : decide (a = b) = dcd (D.int a = D.int b) := dcd_iff (by rw [decide_eq_true_iff]; exact ⟨fun h => by rw [h], fun h => by cases h; rfl⟩)
    rw [this]
  · rw [dcd_t rfl]
  · exact (eqT_nc hn hx hy).1
theorem ne_nc (hn : n ≤ 64) (hx : Nc n x) (hy : Nc n y) : fNe x y S = .ok (.bl (!dcd (x = y))) S := by
  unfold fNe
  split
  · rename_i a b
    have : decide (a = b) = dcd (D.str a = D.str b) := dcd_iff (by rw [decide_eq_true_iff]; exact ⟨fun h => by rw [h], fun h => by cases h; rfl⟩)
    rw [this]
  · rename_i a b
    have : decide (a = b) = dcd (D.int a = D.int b) := dcd_iff (by rw [decide_eq_true_iff]; exact ⟨fun h => by rw [h], fun h => by cases h; rfl⟩)
    rw [this]
  · rw [dcd_t rfl]
    rfl
  · exact (eqT_nc hn hx hy).2
end
/-- a list, or a cell with one -/
def LsN (S : Sto) (L : D) (xs : List D) : Prop := L = .lst xs ∨ ∃ n, L = .loc n ∧ S[n]? = some (.lst xs)
theorem LsN.py {S : Sto} {L : D} {xs : List D} {n : Nat} (h : LsN S L xs) (hx : Nc (n + 1) (.lst xs)) : ∃ p, (D.lst xs).py = some p ∧ L.pyS S = some p := by
  obtain ⟨p, e, _, _⟩ := nc_py _ _ hx
  refine ⟨p, e, ?_⟩
  rcases h with rfl | ⟨m, rfl, hm⟩
  · exact pyS_py e
  · rw [D.py] at e
    simp only [D.pyS, hm]
    exact e
theorem eq_lsn {S : Sto} {L M : D} {xs ys : List D} {n : Nat} (hn : n + 1 ≤ 64) (h1 : LsN S L xs) (h2 : LsN S M ys) (hx : Nc (n + 1) (.lst xs)) (hy : Nc (n + 1) (.lst ys)) : fEq L M S = .ok (.bl (dcd (xs = ys))) S ∧ fNe L M S = .ok (.bl (!dcd (xs = ys))) S := by
  obtain ⟨p, e1, p1⟩ := h1.py hx
  obtain ⟨q, e2, p2⟩ := h2.py hy
  have h := dcd_iff ((eqv_iff _ _ _ p q hx hy e1 e2).trans ⟨fun h => by cases h; rfl, fun h => by rw [h]⟩ : PyData.eqv p q = true ↔ xs = ys)
  have a1 : fEq L M S = fEqT L M S := by rcases h1 with rfl | ⟨m, rfl, _⟩ <;> rfl
  have a2 : fNe L M S = fNeT L M S := by rcases h1 with rfl | ⟨m, rfl, _⟩ <;> rfl
  rw [a1, a2]
  constructor
  · unfold fEqT
    rw [p1, p2]
    simp only
    rw [if_pos ⟨shaped_nc hn hx e1, shaped_nc hn hy e2⟩, h]
  · unfold fNeT
    rw [p1, p2]
    simp only
    rw [if_pos ⟨shaped_nc hn hx e1, shaped_nc hn hy e2⟩, h]
/-- a thing that may stand where a name is wanted -/
def Shp (d : D) : Prop := (∃ x, d = .str x ∧ x.length ≤ 40) ∨ ((∀ x, d ≠ .str x) ∧ ∃ n, (∀ S, tyD d S = some (.b n)) ∧ basic.contains n = true ∧ isT n "str" = false)
theorem Shp.let_ {x : Str} (h : isLet x) : Shp (.str x) := .inl ⟨x, rfl, by have := h.1; omega⟩
theorem Shp.int {i : Int} : Shp (.int i) := .inr ⟨fun x h => (by cases h), "int", fun _ => rfl, by decide, by decide⟩
theorem Shp.tup {xs : List D} : Shp (.tup xs) := .inr ⟨fun x h => (by cases h), "tuple", fun _ => rfl, by decide, by decide⟩
theorem Shp.lst {xs : List D} : Shp (.lst xs) := .inr ⟨fun x h => (by cases h), "list", fun _ => rfl, by decide, by decide⟩
theorem Shp.dic {ks : List Key} {xs : List D} : Shp (.dic ks xs) := .inr ⟨fun x h => (by cases h), "dict", fun _ => rfl, by decide, by decide⟩
theorem Shp.non : Shp .non := .inr ⟨fun x h => (by cases h), "NoneType", fun _ => rfl, by decide, by decide⟩
theorem Shp.bl {b : Bool} : Shp (.bl b) := .inr ⟨fun x h => (by cases h), "bool", fun _ => rfl, by decide, by decide⟩
theorem Shp.ty {d : D} (h : Shp d) : ∃ n, (∀ S, tyD d S = some (.b n)) ∧ basic.contains n = true := by
  rcases h with ⟨x, rfl, _⟩ | ⟨_, n, h1, h2, _⟩
  · exact ⟨"str", fun _ => rfl, by decide⟩
  · exact ⟨n, h1, h2⟩
theorem Shp.cases {P : D → Prop} {d : D} (h : Shp d) (hn : P .non) (hb : ∀ b, P (.bl b)) (hi : ∀ i, P (.int i)) (hs : ∀ x, x.length ≤ 40 → P (.str x)) (hl : ∀ xs, P (.lst xs)) (ht : ∀ xs, P (.tup xs)) (hd : ∀ ks vs, P (.dic ks vs)) : P d := by
  obtain ⟨n, h1, _⟩ := h.ty
  cases d with
  | non => exact hn
  | bl b => exact hb b
  | int i => exact hi i
  | str x =>
    rcases h with ⟨y, e, hy⟩ | ⟨hh, _⟩
    · cases e
      exact hs x hy
    · exact absurd rfl (hh x)
  | lst xs => exact hl xs
  | tup xs => exact ht xs
  | dic ks vs => exact hd ks vs
  | ins k vs =>
    have := h1 []
    simp only [tyD] at this
    split at this <;> cases this
  | exv k vs =>
    have := h1 []
    simp only [tyD] at this
    split at this <;> cases this
  | loc m => have := h1 []; simp [tyD] at this
  | glb v => have := h1 []; simp [tyD] at this
  | cls k => have := h1 []; simp [tyD] at this
theorem chain_int {ma mb md : ME} {δ : Sl} {S : Sto} {lo i hi : Int} (h1 : ma δ S = .ok (.int lo) S) (h2 : mb δ S = .ok (.int i) S) (h3 : md δ S = .ok (.int hi) S) : mChain fLe fLe ma mb md δ S = .ok (.bl (decide (lo ≤ i ∧ i ≤ hi))) S := by
  unfold mChain
  rw [h1, R.bind_ok, h2, R.bind_ok]
  simp only [fLe, R.bind_ok]
  by_cases c : lo ≤ i
  · rw [decide_eq_true c]
    simp only [h3, R.bind_ok]
    by_cases c2 : i ≤ hi
    · rw [decide_eq_true c2, decide_eq_true ⟨c, c2⟩]
    · rw [decide_eq_false c2, decide_eq_false (fun z => c2 z.2)]
  · rw [decide_eq_false c, decide_eq_false (fun z => c z.1)]
theorem or_ok {t u : MT} {δ : Sl} {S : Sto} {a b : Bool} (h : t δ S = .ok a S) (k : a = false → u δ S = .ok b S) : mOr t u δ S = .ok (a || b) S := by
  cases a with
  | true => exact or_t h
  | false => exact or_f h (k rfl)
theorem and_ok {t u : MT} {δ : Sl} {S : Sto} {a b : Bool} (h : t δ S = .ok a S) (k : a = true → u δ S = .ok b S) : mAnd t u δ S = .ok (a && b) S := by
  cases a with
  | true => exact and_t h (k rfl)
  | false => exact and_f h
theorem if_ok {t : MT} {a b : MS} {δ : Sl} {S S1 : Sto} {k : Bool} (h : t δ S = .ok k S1) : sIf t a b δ S = if k = true then a δ S1 else b δ S1 := by
  cases k with
  | true => exact if_t h
  | false => exact if_f h
theorem valD_some : ∀ {ks : List Key} {vs : List D} {k : Key}, ks.length = vs.length → k ∈ ks → ∃ d ∈ vs, valD ks vs k = some d
  | [], _, _, _, h => by cases h
  | j :: ks, [], _, hl, _ => by cases hl
  | j :: ks, v :: vs, k, hl, h => by
    rw [valD]
    by_cases e : j = k
    · exact ⟨v, List.mem_cons_self, by rw [if_pos e]⟩
    · obtain ⟨d, h1, h2⟩ := valD_some (by simpa using hl) ((List.mem_cons.mp h).resolve_left (Ne.symm e))
      exact ⟨d, List.mem_cons_of_mem _ h1, by rw [if_neg e, h2]⟩
theorem dicOf_app {S r : Sto} {x : D} {p : List Key × List D} (h : dicOf S x = some p) : dicOf (S ++ r) x = some p := by
  cases x with
  | dic ks vs => exact h
  | loc n =>
    simp only [dicOf] at h ⊢
    split at h
    · rename_i ks vs hx
      have hl := (List.getElem?_eq_some_iff.mp hx).1
      rw [List.getElem?_append_left hl, hx]
      exact h
    · cases h
  | _ => cases h
theorem lcD_run {i : Nat} {gm : MG} {vs : List Nat} {mt : MT} {me : ME} {δ : Sl} {S : Sto} {d0 : D} {ks : List Key} {ds : List D} (h : δ[i]? = some (some d0)) (e : dicOf S d0 = some (ks, ds)) (hl : ks.length ≤ 16777216) (hc : D.cleanL ds = true) :
    mLcD i gm vs mt me δ S = keepS S ((noX (lcGo gm mt me (wipeD (lockS d0 ks ds δ) vs) (ks.map keyD) [] [])).bind finF) := by
  unfold mLcD
  rw [h]
  simp only [e]
  rw [if_pos ⟨hl, hc⟩]
theorem fAll_bls (l : List Bool) (S : Sto) : fAll [.lst (l.map D.bl)] S = .ok (.bl (l.all id)) S := by
  simp only [fAll, D.seq, blsOf_map]
theorem isi_ty {d : D} {m : ME} {δ : Sl} {S : Sto} {n T : String} (h : m δ S = .ok d S) (h1 : tyD d S = some (.b n)) (h2 : basic.contains n = true) : mUn (fIsi (subV T)) m δ S = .ok (.bl (isT n T)) S := isi_ok h h1 (by unfold subV; exact if_pos h2)
theorem strOk_let {x : Str} (h : isLet x) : PyData.strOk x = true := by
  have hall : ∀ k ∈ ("abcdefghijklmnopqrstuvwxyz" : Str).cps.toList, k < 0x110000 := by decide +kernel
  unfold PyData.strOk
  rw [Array.all_eq_true_iff_forall_mem]
  intro k hk
  exact decide_eq_true (hall k (h.2.2 k (Array.mem_toList_iff.mpr hk)))
end DL

end
section
/-! DM, part n: a cell that changes no more is a tree from then on; xs.insert(i, y). -/
namespace DL
open PySem PySem.Spec PyProof.Rows L2
section
variable {c : RC} {g : Wd} {S : Sto} {Z H : Hp}
theorem SimH.freeze (s : SimH c g S Z H) {n : Nat} {a : Addr} {u0 : O} {o : HO} (ha : g.ι[n]? = some a) (hx : S[n]? = some u0) (hd : u0 ≠ .dead) (hH : H a = some o) (hm : Mt o) : g.le ⟨upd g.G a o, g.ι⟩ ∧ SimH c ⟨upd g.G a o, g.ι⟩ (S.set n .dead) Z H := by
  obtain ⟨h1, h2, _⟩ := s.cell n a u0 ha hx
  have hg := h1 hd
  have hn : n < S.length := (List.getElem?_eq_some_iff.mp hx).1
  have le : g.le ⟨upd g.G a o, g.ι⟩ := ⟨fun x u e => (upd_ne (ne_of_none e hg)).trans e, List.prefix_rfl⟩
  refine ⟨le, fun b u e => ?_, s.zk, fun b u e => ?_, by rw [List.length_set]; exact s.len, s.nd, fun m b u e1 e2 => ?_⟩
  · have e' : upd g.G a o b = some u := e
    by_cases hb : b = a
    · subst hb
      rw [upd_same] at e'
      cases e'
      exact .inl hH
    · rw [upd_ne hb] at e'
      exact s.gk b u e'
  · have hb : b ≠ a := fun z => by rw [z, h2] at e; cases e
    exact (upd_ne hb).trans (s.zg b u e)
  · by_cases hmn : m = n
    · subst hmn
      rw [ha] at e1
      cases e1
      rw [List.getElem?_set_self hn] at e2
      cases e2
      exact ⟨fun z => absurd rfl z, h2, o, upd_same, hm⟩
    · rw [List.getElem?_set_ne (Ne.symm hmn)] at e2
      obtain ⟨k1, k2, k3⟩ := s.cell m b u e1 e2
      have hb : b ≠ a := fun z => by
        subst z
        exact hmn (nodup_at s.nd e1 ha)
      exact ⟨fun hd => (upd_ne hb).trans (k1 hd), k2, k3.up le⟩
end
/-- a cell is a tree from now on -/
def frzD (d : D) (S : Sto) : R D := match d with
  | .loc n => (match S[n]? with
    | some (.lst xs) => .ok (.lst xs) (S.set n .dead)
    | some (.dic ks vs) => .ok (.dic ks vs) (S.set n .dead)
    | some (.ins k ds) => .ok (.ins k ds) (S.set n .dead)
    | _ => .bad)
  | d => .ok d S
def mFrz (m : ME) : ME := fun δ S => (m δ S).bind frzD
section
variable {X : Cx} {c : RC} {W : WX} {k : Nat} {e o i : Expr} {m mo mi me : ME}
theorem ce_frz (he : CE X c W e m) : CE X c W e (mFrz m) := weakE he fun σ H Q ⟨g, Z, δ, S, s, sl, q⟩ => ⟨g, Z, δ, S, s, sl, Post.bind q fun d S1 g1 v H1 eS le1 s1 r1 q1 => by
  unfold frzD at q1
  split at q1
  · rename_i n
    rw [Rep] at r1
    obtain ⟨a, rfl, ha⟩ := r1
    split at q1
    · rename_i xs hx
      obtain ⟨_, _, hc, vs, hH, rs⟩ := s1.cell n a _ ha hx
      obtain ⟨le2, s2⟩ := s1.freeze ha hx (by simp) hH (.inl ⟨_, rfl⟩)
      refine q1 _ _ _ le2 s2 ?_
      rw [Rep]
      exact ⟨a, vs, rfl, .inl (.inl upd_same), rs.up le2⟩
    · rename_i ks xs hx
      obtain ⟨_, _, hc, kvs, hH, hk, rs⟩ := s1.cell n a _ ha hx
      obtain ⟨le2, s2⟩ := s1.freeze ha hx (by simp) hH (.inr (.inl ⟨_, rfl⟩))
      refine q1 _ _ _ le2 s2 ?_
      rw [Rep]
      exact ⟨a, kvs, rfl, .inl upd_same, hk, rs.up le2⟩
    · rename_i j xs hx
      obtain ⟨_, _, hc, dx, fs, vs, hH, ht, rs⟩ := s1.cell n a _ ha hx
      obtain ⟨le2, s2⟩ := s1.freeze ha hx (by simp) hH (.inr (.inr (.inr ⟨_, _, _, rfl⟩)))
      refine q1 _ _ _ le2 s2 ?_
      rw [Rep]
      exact ⟨a, dx, fs, vs, rfl, upd_same, ht, rs.up le2⟩
    · exact q1.elim
  · exact q1 g1 v H1 (.refl g1) s1 r1⟩
/-! ### xs.insert(i, y) -/
def fIns (o : D) (is : List D) (S : Sto) : R D := match o, is with
  | .loc n, [.int j, v] => (match S[n]? with
    | some (.lst xs) => if xs.length < 16777216 ∧ v.clean = true ∧ 0 ≤ j ∧ j < 2 ^ 63 then .ok .non (S.set n (.lst (xs.take j.toNat ++ [v] ++ xs.drop j.toNat))) else .bad
    | _ => .bad)
  | _, _ => .bad
def mMethL (chk : D → Sto → Bool) (f : D → List D → Sto → R D) (mo : ME) (ma : MA) : ME := fun δ S => (mo δ S).bind fun x S1 => if chk x S1 = true then (ma δ S1).bind fun ys S2 => f x ys S2 else .bad
theorem ce_ins {apos cpos : Pos} (cf : Cf k X c) (ho : CE X c W o mo) (hi : CE X c W i mi) (he : CE X c W e me) (hbase : attributeBase o "insert" X.env (eval o X.env) = eval o X.env := by rfl)
    (hfew : ((backTo cpos (starEach [i, e] X.env)).all (fun x => !x.1) && (backToKw cpos (keywordEach [] X.env)).all (fun x => x.1.isSome) && decide ([i, e].length + ([] : List Keyword).length + (if ([] : List Keyword).isEmpty then 0 else 1) < 30)) = true := by rfl)
    (hline : (apos.endLine == cpos.line) = true := by rfl) (hs : starEach [i, e] X.env = (false, eval i X.env) :: starEach [e] X.env := by rfl) (hs2 : starEach [e] X.env = (false, eval e X.env) :: starEach [] X.env := by rfl) (hpl : (backTo cpos (starEach [e] X.env)).any (·.1) = false := by rfl) :
    CE X c W (.Call (.Attribute o "insert" apos) [i, e] [] cpos) (mMethL isSq fIns mo (mCons mi (mCons me mNil))) :=
  weakE (pe_bm PySem.F.plainAttrs_list PySem.F.slot_list_insert PySem.F.type_list_insert mt_insert ho (ca_cons hi (ca_cons he ca_nil hs2) hs) hbase hfew hline hs hpl) fun σ H Q ⟨g, Z, δ, S, s, sl, q⟩ => ⟨g, Z, δ, S, s, sl, Post.bind q fun ov S1 g1 ov' H1 eS le1 s1 r1 q1 => by
    split at q1
    · rename_i hk
      obtain ⟨xs0, hx0⟩ := Option.isSome_iff_exists.mp hk
      obtain ⟨a, vs0, rfl, l0, _⟩ := seq_ok s1 r1 hx0
      refine ⟨.inl ⟨rfl, vs0, by rw [← cf.kk]; exact l0⟩, g1, Z, δ, S1, s1, sl.up le1, ?_⟩
      refine Post.bind q1 fun ys S2 g2 ws H2 eS2 le2 s2 r2 q3 => ?_
      unfold fIns at q3
      split at q3
      · rename_i n j v
        obtain ⟨u1, u2, rfl, ri, ry⟩ := vals_two r2
        split at q3
        · rename_i xs hx
          split at q3
          · rename_i hc
            have r1' := Rep.up le2 r1
            rw [Rep] at r1'
            obtain ⟨a', e', ha⟩ := r1'
            cases e'
            obtain ⟨_, _, hcl, vs, hH, rs⟩ := s2.cell n a _ ha hx
            obtain rfl := ri.int_inv
            refine ⟨a, vs, j, u2, rfl, rfl, hH, by rw [rs.length, sizeLine_eq]; exact hc.1, hc.2.2.1, hc.2.2.2, ?_⟩
            refine q3 g2 _ _ (.refl g2) (s2.write ha hx ⟨?_, _, upd_same, ((rs.take _).app (RepL.cons ry RepL.nil)).app (rs.drop _)⟩) Rep.non
            refine cleanL_iff.mpr fun d hd => ?_
            rcases List.mem_append.mp hd with hd | hd
            · rcases List.mem_append.mp hd with hd | hd
              · exact cleanL_iff.mp hcl d (List.mem_of_mem_take hd)
              · rw [List.mem_singleton.mp hd]
                exact hc.2.1
            · exact cleanL_iff.mp hcl d (List.mem_of_mem_drop hd)
          · exact q3.elim
        · exact q3.elim
      · exact q3.elim
    · exact q1.elim⟩
end
end DL

end
section
/-! DM, part o: methods that say super().__init__(..). -/
namespace DL
open PySem PySem.Spec PyProof.Rows L2
/-- a method whose text says super(): it closes over its class's cell -/
structure FunS (P : Program) (K : PySem.W.Frag) (x qual : Str) (params : Arguments) (body : List Stmt) (scope : Scope) (dvs : List V) (kws : List (Str × V)) (f : Addr) (fd : FuncData) (cda cc cD : Addr) : Prop where
  ex : ∃ (oc : Value) (od : Option Addr) (dV kV doc pm : Value) (an : Option Addr) (ct : Value) (osl : Array (Option Value)),
    fd = PySem.W.ksFn x qual params body scope dV kV doc pm an (.ref cda) ct cc ∧ K.lookup f = some ⟨oc, od, .func fd, osl⟩ ∧ PySem.W.codeIn K (.ref cda) qual = true ∧ DflV K dV dvs ∧ KwdV K kV kws
  co : ∃ (ccl : Value) (cdd : Option Addr) (vs : Array Value) (ccs : Array (Option Value)) (file : Str) (tf : Tok), K.lookup cda = some ⟨ccl, cdd, .fields vs, ccs⟩ ∧ vs[2]? = some (.str file tf) ∧ ((P.main.file : Str) == file) = true
  ce : ∃ (cl : Value) (cld : Option Addr) (csl : Array (Option Value)), K.lookup cc = some ⟨cl, cld, .cell (some (.ref cD)), csl⟩
  kp : PySem.W.keepIn K (.ref f) = true
structure FnScopeS (N ps : List Str) (sc : Scope) : Prop where
  kind : sc.kind = .function
  co : sc.isCoroutine = false
  gen : sc.isGenerator = false
  nd : N.Nodup
  pre : N.take ps.length = ps
  par : ∀ x ∈ ps, sc.names.lookup x = some .local
  nocell : ∀ x ∈ sc.names, x.2 ≠ .cell
  free : ∀ x, sc.names.lookup x = some .free → x = "__class__"
/-- the context of such a body -/
def supCx (P : Program) (w : World) (K : PySem.W.Frag) (mg : Str → Option Value) (base : Heap) (N : List Str) (qual : Str) (scope : Scope) (f cda cc : Addr) (A : Around) (outer : List Env) (s : Shared) (H : Hp) (E : XK) : Cx where
  prog := P
  w := w
  K := K
  mg := mg
  base := base
  A := A.deeper (PySem.W.ksEnv qual scope s.heap.objs.size f (.ref cda) cc)
  N := N
  s_0 := s
  H_0 := H
  env := PySem.W.ksEnv qual scope s.heap.objs.size f (.ref cda) cc
  outer := outer
  stack := PySem.W.ksEnv qual scope s.heap.objs.size f (.ref cda) cc :: outer
  ex := []
  fn := fun _ => false
  calm := true
  pn := []
  xe := fun e s' => wpAny (model P w) (A.deeper (PySem.W.ksEnv qual scope s.heap.objs.size f (.ref cda) cc)) (leaving (PySem.W.ksEnv qual scope s.heap.objs.size f (.ref cda) cc) e) (fun _ s'' => L2.CX P w outer H s E e s'') (fun e' s'' => L2.CX P w outer H s E e' s'') s'
theorem lookup_nodup {x : Str} {u : Value} : ∀ {l : List (Str × Value)}, (l.map (·.1)).Nodup → (x, u) ∈ l → l.lookup x = some u
  | [], _, h => by cases h
  | (y, v) :: r, nd, h => by
    rw [List.map_cons, List.nodup_cons] at nd
    rw [List.lookup_cons]
    rcases List.mem_cons.mp h with h | h
    · cases h
      simp
    · have : x ≠ y := fun e => nd.1 (e ▸ List.mem_map_of_mem (f := (·.1)) h)
      have e : (x == y) = false := by simpa using this
      rw [e]
      exact lookup_nodup nd.2 h
theorem inv_startS {P : Program} {w : World} {K : PySem.W.Frag} {mg : Str → Option Value} {base : Heap} {N ps : List Str} {qual : Str} {scope : Scope} {f cda cc cD : Addr} {A : Around} {outer : List Env} {s : Shared} {H : Hp} {E : XK} {us : List Value} {vs : List V} {h₁ : Heap} {tk : Nat}
    (S : FnScopeS N ps scope) (hd : A.handled = none) (e0 : Env0 P w K mg base A outer s H) (hl : vs.length = ps.length) (r : Vals vs us) (hcc : ∃ (cl : Value) (cld : Option Addr) (csl : Array (Option Value)), K.lookup cc = some ⟨cl, cld, .cell (some (.ref cD)), csl⟩)
    (hns : h₁.Ns s.heap.objs.size fun y => (ps.zip us).reverse.lookup y) (kp : ∀ b o, s.heap.get? b = some o → h₁.get? b = some o) :
    Inv (supCx P w K mg base N qual scope f cda cc A outer s H E) [] (L2.start N vs) H { s with heap := h₁, toks := tk } := by
  obtain ⟨cl, cld, csl, lcc⟩ := hcc
  have hpl : ps.length ≤ N.length := by have := congrArg List.length S.pre; rw [List.length_take] at this; omega
  have noA : ∀ b : Addr, b ∉ (supCx P w K mg base N qual scope f cda cc A outer s H E).ex := fun b z => absurd (show b ∈ ([] : List Addr) from z) (by simp)
  have one : ∀ {y c}, ([(("__class__" : Str), cc)] : List (Str × Addr)).lookup y = some c → y = "__class__" ∧ c = cc := fun {y c} h => by
    have := PySem.mem_of_lookup h
    simpa using this
  have bcc := e0.bs cc _ (e0.mod.kin _ _ lcc)
  refine ⟨⟨e0.mod, S.kind, rfl, rfl, Nat.le_refl _, fun y z c h1 h2 => ?_, fun y hy => ?_, fun y c z _ => ?_, fun _ => hd, Around.frames_deeper e0.frames, .inr ⟨rfl, rfl⟩, fun b z => absurd z (noA b), e0.bs, e0.bsz, fun b _ _ => noA b, fun b z => absurd z (noA b), e0.funs, e0.frf⟩,
    rfl, e0.bare, Un.kept kp, ⟨_, hns, fun i y v h1 h2 h3 => ?_⟩, fun y c h => ?_, e0.hok.fresh (Nat.le_refl _), fun y c h => ?_, fun p hp => absurd (show p ∈ ([] : List (Addr × Obj)) from hp) (by simp), e0.hok.kept kp, ?_⟩
  · exact (one h1).1.trans (one h2).1.symm
  · have hy : scope.names.lookup y = some .cell ∨ scope.names.lookup y = some .free := hy
    rcases hy with hy | hy
    · exact absurd rfl (S.nocell _ (PySem.mem_of_lookup hy))
    · obtain rfl := S.free y hy
      exact ⟨cc, rfl⟩
  · have z : false = true := z
    cases z
  · have hi : i < vs.length := by
      unfold L2.start at h2
      by_cases hi : i < vs.length
      · exact hi
      · rw [List.getElem?_append_right (by simpa using hi)] at h2
        rw [List.getElem?_replicate] at h2
        split at h2 <;> cases h2
    have ha : vs[i]? = some v := by
      unfold L2.start at h2
      rw [List.getElem?_append_left (by simpa using hi), List.getElem?_map] at h2
      cases e : vs[i]? with
      | none => rw [e] at h2; cases h2
      | some a => rw [e] at h2; cases h2; rfl
    obtain ⟨u, hu, rv⟩ := r.get ha
    have hp : ps[i]? = some y := by
      rw [← S.pre, List.getElem?_take_of_lt (by omega)]; exact h1
    have ndP : ps.Nodup := by rw [← S.pre]; exact S.nd.sublist (List.take_sublist _ _)
    refine ⟨u, rv, .inl ⟨S.par y (List.mem_of_getElem? hp), ?_⟩⟩
    have lus : us.length = ps.length := by rw [← Paired.length r, hl]
    refine lookup_nodup ?_ ?_
    · rw [List.map_reverse, List.map_fst_zip (by omega)]
      exact (List.reverse_perm ps).nodup_iff.mpr ndP
    · rw [List.mem_reverse]
      refine List.mem_of_getElem? (i := i) ?_
      rw [List.getElem?_zip_eq_some]
      exact ⟨hp, hu⟩
  · obtain ⟨_, rfl⟩ := one h
    exact ⟨_, _, kp _ _ bcc.1, rfl⟩
  · obtain ⟨_, rfl⟩ := one h
    exact bcc.2
  · unfold L2.start
    show _ = N.length
    rw [List.length_append, List.length_map, List.length_replicate]
    omega
/-- statements at the head of the frames -/
structure PSA (X : Cx) (body st : List Stmt) (t : TS) : Prop where
  run : ∀ (s : Shared) (σ : L2.St) (H : Hp) (D : Ends), Inv X [] σ H s → t D σ H → _root_.PySem.wpAt (model X.prog X.w) X.A (.func body X.env) (execs st X.env) (SP X [] D) X.xe s
theorem psa_cons {X : Cx} {body rest : List Stmt} {st : Stmt} {c : RC} {W : WX} {a b : MS} (h1 : CS X c W st a) (h2 : PSA X body rest (sM c W b)) : PSA X body (st :: rest) (sM c W (sSeq a b)) := by
  refine ⟨fun s σ H Dn I ⟨g, Z, δ, S, sm, sl, q⟩ => ?_⟩
  refine ks_wpAt_execs_cons (wpAt_of_wpAny (thn (h1.run [] s σ H { Dn with nx := sM c W b Dn } I ⟨g, Z, δ, S, sm, sl, seq_post q⟩) fun f s1 q => ?_))
  cases f with
  | next =>
    obtain ⟨σ', H', I', q⟩ := q
    exact h2.run s1 σ' H' Dn I' q
  | ret v => exact q
  | brk => exact q
  | cont => exact q
theorem psa_nil {X : Cx} {body : List Stmt} {c : RC} {W : WX} : PSA X body [] (sM c W sNx) := ⟨fun s σ H Dn I ⟨g, Z, δ, S, sm, sl, q⟩ => by
  show _root_.PySem.wpAt _ _ _ (pure Flow.next) _ _ _
  exact wpAt_of_wpAny (wpAny_pure ⟨σ, H, I, q g σ H (.refl g) sm sl⟩)⟩
/-- the rule for a def that says super() -/
theorem fnG_sup {P : Program} {w : World} {K : PySem.W.Frag} {mg : Str → Option Value} {base : Heap} {k : Nat} {f cda cc cD : Addr} {x qual : Str} {params : Arguments} {body : List Stmt} {scope : Scope} {dvs : List V} {kws : List (Str × V)} {fd : FuncData} {N ps : List Str} {sp : Sp}
    (F : FunS P K x qual params body scope dvs kws f fd cda cc cD) (S : FnScopeS N ps scope) (len : ∀ vs H Q E, sp vs H Q E → vs.length = ps.length)
    (hbody : ∀ (A : Around) (outer : List Env) (s : Shared) (H : Hp) (vs : List V) (Q : VK) (E : XK), A.guards = some [] → Room k (A.deeper (PySem.W.ksEnv qual scope s.heap.objs.size f (.ref cda) cc)) → sp vs H Q E →
      ∃ t, PSA (supCx P w K mg base N qual scope f cda cc A outer s H E) body body t ∧ t { nx := fun _ H' => Q .non H', rt := Q } (L2.start N vs) H) : FnG P w K mg base (k + 1) f fd ps sp := by
  obtain ⟨oc, od, dV, kV, doc, pm, an, ct, osl, rfl, lk, hcd, _, _⟩ := F.ex
  refine ⟨len, ?_⟩
  intro A outer s H args us vs Q E hgd hr e0 hb r hsp
  have inHeap : K.In s.heap := e0.mod.kin.keeps fun b o e => (e0.bs b o e).1
  have noLim : s.heap.NoLimit := e0.mod.nolimit.keeps fun b o e => (e0.bs b o e).1
  refine ks_codeAny_call_defAt (body := body) hr.depth (inHeap _ _ lk) rfl noLim (PySem.W.codeRec_of inHeap hcd) rfl hb S.nocell (fun y hy => S.par _ (List.of_mem_zip hy).1) (fun h₀ hns kp => ?_) S.co S.gen S.kind
  obtain ⟨t, pt, hq⟩ := hbody A outer s H vs Q E hgd (hr.deeper _) hsp
  have I0 := inv_startS (E := E) (qual := qual) (f := f) (cda := cda) (cc := cc) (cD := cD) (tk := s.toks + (ps.zip us).length) S hr.hd e0 (len _ _ _ _ hsp) r F.ce hns kp
  refine PySem.ks_wpAt_mono (pt.run _ (L2.start N vs) H _ I0 hq) ?_ fun e s' hs => hs
  rintro (_ | _ | _ | u) s' hs
  · obtain ⟨_, H', J, q⟩ := hs
    exact ⟨.non, H', J.os, J.bare, J.base, J.hok, rfl, q⟩
  · obtain ⟨_, _, _, q⟩ := hs
    exact q.elim
  · obtain ⟨_, _, _, q⟩ := hs
    exact q.elim
  · obtain ⟨v, _, H', J, rv, q⟩ := hs
    exact ⟨v, H', J.os, J.bare, J.base, J.hok, rv, q⟩
/-- THE RULE, over the data -/
theorem def_okU {P : Program} {w : World} {K : PySem.W.Frag} {mg : Str → Option Value} {base : Heap} {k : Nat} {f cda cc cD : Addr} {x qual : Str} {params : Arguments} {body : List Stmt} {scope : Scope} {dvs : List V} {kws : List (Str × V)} {fd : FuncData} {N ps : List Str} {c : RC} {fin : Nat → D → Sto → R D} {m : MS}
    (hK : c.K = K) (hnx : c.ex = none) (F : FunS P K x qual params body scope dvs kws f fd cda cc cD) (S : FnScopeS N ps scope) (hfin : FinD c fin)
    (hbody : ∀ (A : Around) (outer : List Env) (s : Shared) (H : Hp) (E : XK), Cf k (supCx P w K mg base N qual scope f cda cc A outer s H E) c → PSA (supCx P w K mg base N qual scope f cda cc A outer s H E) body body (sM c (fun cls d _ H => E cls d H) m)) :
    FnG P w K mg base (k + 1) f fd ps (spM c ps.length (mDef fin N.length m)) := by
  refine fnG_sup F S (fun vs H Q E h => ?_) fun A outer s H vs Q E hg hr h => ?_
  · obtain ⟨g, Z, St, ds, _, r, hl, _⟩ := h
    rw [r.length, hl]
  · obtain ⟨g, Z, St, ds, sm, r, hl, q⟩ := h
    refine ⟨sM c (fun cls d _ H => E cls d H) m, hbody _ _ _ _ _ ⟨hK, hg, hr, rfl, hnx⟩, g, Z, _, St, sm, slots_start r, ?_⟩
    unfold mDef at q
    split at q
    · rename_i e
      rw [e]
      exact fun g' σ H' le s' sl => hfin sm.len q g' .non H' le s' Rep.non
    · rename_i e
      rw [e]
      exact fun g' v H' le s' rv => hfin sm.len q g' v H' le s' rv
    · rename_i e
      rw [e]
      exact fun g' dd σ H' le s' sl x => fin_exc sm.len q g' dd H' le s' x
    · exact q.elim
/-! ### super().__init__(e, ..), at the end of such a body -/
def mSup (k n : Nat) (fm : MF) (ma : MA) : ME := fun (δ : Sl) (S : Sto) => match (δ[0]? : Option (Option D)) with
  | some (some (.loc q)) => (match S[q]? with
    | some (.ins k' _) => if k' = k then (ma δ S).bind fun xs S1 => if xs.length + 1 = n then fm (.loc q :: xs) S1 else .bad else .bad
    | _ => .bad)
  | _ => .bad
/-- what must be known of the class at C and of its base's method -/
structure SupK (P : Program) (K : PySem.W.Frag) (mg : Str → Option Value) (C : Addr) (m : Str) (f2 : Addr) : Prop where
  mg : mg "super" = none
  top : (P.main.scope.names.lookup ("super" : Str)).isSome = false
  sub : PySem.W.mroIn K C (.ref C) = some true
  find : PySem.W.ks_superIn K C C m = some (some (.ref f2))
  ty : PySem.W.typeIn K (.ref f2) = some (.type "function")
  fi : PySem.W.fnIn K f2 = true
  opq : PySem.W.nsIn K PySem.cStatics "thirdparty.any" = some none
theorem psa_sup {X : Cx} {c : RC} {W : WX} {j k n : Nat} {body : List Stmt} {p0 p1 apos pos epos : Pos} {m : Str} {e : Expr} {es : List Expr} {ma : MA} {fm : MF} {f f2 cda cc : Addr} {oc ccl cl : Value} {od cdd cld : Option Addr} {osl ccs csl : Array (Option Value)} {fd fd2 : FuncData} {ar : Arg} {vs : Array Value} {file : Str} {tf : Tok} {ps2 : List Str}
    (cf : Cf j X c) (tk : Takes X W) (hks : X.env.kindOf "super" = some .globalImplicit) (hkc : X.env.kindOf "__class__" = some .free) (hka : X.env.kindOf ar.arg = some .local) (h0 : X.N[0]? = some ar.arg) (hfu : X.env.func = some f) (hco : X.env.code = .ref cda) (hcl : X.env.cells.lookup ("__class__" : Str) = some cc)
    (lkf : X.K.lookup f = some ⟨oc, od, .func fd, osl⟩) (hp : (fd.params.posonlyargs ++ fd.params.args).head? = some ar) (lkc : X.K.lookup cda = some ⟨ccl, cdd, .fields vs, ccs⟩) (hvs : vs[2]? = some (.str file tf)) (hfile : ((X.prog.main.file : Str) == file) = true)
    (lkk : X.K.lookup cc = some ⟨cl, cld, .cell (some (.ref (c.cl k))), csl⟩) (hk : SupK X.prog X.K X.mg (c.cl k) m f2) (hat : (m == ("__class__" : Str)) = false)
    (F2 : FnG X.prog X.w X.K X.mg X.base j f2 fd2 ps2 (spM c n fm)) (hb2 : Binds X.K fd2 ps2 []) (ha : CA X c W (e :: es) ma)
    (hst : starEach (e :: es) X.env = (false, eval e X.env) :: starEach es X.env) (hpl : (backTo pos (starEach es X.env)).any (·.1) = false)
    (hi : interactive X.env = false) (hs : swapsWith (.Call (.Attribute (.Call (.Name "super" p0) [] [] p1) m apos) (e :: es) [] pos) none epos.line X.env = pure false)
    {pl : Sem Bool}
    (he : eval (.Call (.Attribute (.Call (.Name "super" p0) [] [] p1) m apos) (e :: es) [] pos) X.env = (do
      let ov ← attributeBase (.Call (.Name "super" p0) [] [] p1) m X.env (eval (.Call (.Name "super" p0) [] [] p1) X.env)
      standAt apos.atName
      let (f, first) ← holding [ov] (getMethod ov m pl)
      callWith pos f first (backTo pos (starEach (e :: es) X.env)) [])) :
    PSA X body [.Expr (.Call (.Attribute (.Call (.Name "super" p0) [] [] p1) m apos) (e :: es) [] pos) epos] (sM c W (sDrop (mSup k n fm ma))) := by
  refine ⟨fun s σ H Dn I ⟨g, Z, δ, S, sm, sl, q⟩ => ?_⟩
  refine ks_wpAt_execs_cons (ks_wpAt_Expr_any ?_ hi hs)
  have P1 : Post c (Rep c) g Z (mSup k n fm ma δ S) (fun _ H1 => Dn.nx σ H1) (fun cls d H' => W cls d σ H') := Post.flow sl q fun d S1 g1 v H1 le1 s1 r1 q1 => q1 g1 _ H1 (.refl g1) s1 (sl.up le1)
  unfold mSup at P1
  split at P1
  · rename_i q0 e0
    split at P1
    · rename_i k' ds eS
      split at P1
      · rename_i hkk
        subst hkk
        obtain ⟨v0, hσ, rv0⟩ := sl.2 0 _ e0
        have rself := rv0
        rw [Rep] at rv0
        obtain ⟨x, rfl, hx⟩ := rv0
        obtain ⟨_, _, _, dx, fs, ws, hH, _, _⟩ := sm.cell q0 x _ hx eS
        obtain ⟨mA, OA, _⟩ := ins_get I.hok hH
        obtain ⟨oda, JA, _⟩ := OA.look
        obtain ⟨m0, hns, hlk⟩ := I.loc
        obtain ⟨u, ru, look⟩ := hlk 0 ar.arg (.ref x) h0 hσ (.inl hka)
        obtain rfl : u = Value.ref x := ru
        have hm0 : m0 ar.arg = some (.ref x) := by
          rcases look with ⟨_, h⟩ | ⟨h, _⟩
          · exact h
          · have hka' : X.env.kindOf ar.arg = some .local := hka
            rw [hka'] at h
            rcases h with h | h <;> cases h
        obtain ⟨hh, gg, dd, tt, oo⟩ := s
        obtain ⟨cd, hcd⟩ : ∃ cd, PySem.W.clsIn X.K (c.cl k') = some cd := by
          have := hk.find
          unfold PySem.W.ks_superIn at this
          cases z : PySem.W.clsIn X.K (c.cl k') with
          | none => rw [z] at this; cases this
          | some cd => exact ⟨cd, rfl⟩
        obtain ⟨oD, hD1, hD2⟩ : ∃ oD, hh.get? (c.cl k') = some oD ∧ oD.data = .cls cd := by
          unfold PySem.W.clsIn at hcd
          split at hcd
          · rename_i a b cd' sl' ho
            cases hcd
            exact ⟨_, I.kIn _ _ ho, rfl⟩
          · cases hcd
        obtain ⟨of, hof, hofc⟩ : ∃ of, X.K.lookup f2 = some of ∧ of.cls = .type "function" := by
          have ht' : (X.K.lookup f2).map (·.cls) = some (.type "function") := hk.ty
          cases z : X.K.lookup f2 with
          | none => rw [z] at ht'; cases ht'
          | some of => rw [z] at ht'; exact ⟨of, rfl, Option.some.inj ht'⟩
        have hfind := hk.find
        unfold PySem.W.ks_superIn at hfind
        rw [hcd, Option.bind_some] at hfind
        refine ks_wpAt_MethodCall (pl := pl) ?_ he
        refine ks_wpAt_super_base hks hkc hat hfu (I.kIn _ _ lkf) rfl hp hco (I.kIn _ _ lkc) rfl hvs hfile hk.top ?_
        obtain ⟨mb, b1, b2⟩ := I.mod.blt
        refine PySem.W.ks_loadName_global I.ok.kind hks (Calls.loadGlobal_builtin (by rw [I.ok.glob]; exact I.mod.glob.keeps I.bk) hk.mg (by rw [I.ok.blt]; exact b1.keeps I.bk) ((b2 "super" (by decide)).trans (show bootBuiltins "super" = some (.type "super") by kernel_rfl)) ⟨rfl, ?_⟩)
        refine wpAny_loadName_free I.ok.kind hkc hcl ⟨_, I.kIn _ _ lkk, rfl⟩ ?_
        refine wpAny_loadName_local I.ok.kind hka hns hm0 ?_
        refine ks_wpAny_isType_cls hD1 hD2 ⟨rfl, ?_⟩
        refine ks_wpAny_call_super hD1 hD2 JA.at_ JA.cls (fun c' e' => ?_) (PySem.W.looks_mroIn I.kIn hk.sub) (fun h' e1 kp1 => ?_)
        · have := JA.no
          unfold PySem.W.notCls at this
          rw [e'] at this
          exact Bool.noConfusion this
        have I1 : Inv X [(hh.objs.size, PySem.W.ks_superObj (c.cl k') x (c.cl k'))] σ H ⟨h', gg, dd, tt, oo⟩ := ClX.pin_new (t' := tt) I kp1 (Nat.le_refl _) e1 (fun v z => nomatch z)
        refine ks_wpAny_getMethod_super e1 (PySem.W.looks_opaque I1.kIn hk.opq) (l₀ := cd.mro) ?_ rfl I1.kIn hfind (I1.kIn _ _ hof) hofc (PySem.W.ks_ne I.kIn JA hcd) hat ?_
        · exact fun A Q E s k q => wpAny_bind ((PySem.W.looks_clsIn I1.kIn hcd) A _ E s k (wpAny_pure q))
        have I2 := ClX.met_new (g := f2) (C := x) I1
        refine ClX.callwith_cm I2 (ClX.base_none I1 (Nat.le_refl _)) hk.fi (thn (ha.run pos _ _ σ H (fun vs H2 => ∃ g1 S1 ds, SimH c g1 S1 Z H2 ∧ RepL c g1 ds vs ∧ g.le g1 ∧ ds.length + 1 = n ∧ Post c (Rep c) g1 Z (fm (.loc q0 :: ds) S1) (fun _ H1 => Dn.nx σ H1) fun cls d H' => W cls d σ H') I2 ⟨g, Z, δ, S, sm, sl, Post.bind P1 fun ds S1 g1 vs H1 eS le1 s1 r1 q1 => ?_⟩) fun us s3 hx3 => ?_) hst hpl
        · split at q1
          · rename_i hl
            exact ⟨g1, S1, ds, s1, r1, le1, hl, q1⟩
          · exact q1.elim
        · obtain ⟨vs', H2, I3, rv, g1, S1, ds', s1, r1, le1, hl, q1⟩ := hx3
          refine ⟨⟨ClX.pin_at I3, I3.kIn⟩, ?_⟩
          have hsp : spM c n fm (.ref x :: vs') H2 (fun _ H1 => Dn.nx σ H1) fun cls d H' => W cls d σ H' := ⟨g1, Z, S1, .loc q0 :: ds', s1, RepL.cons (Rep.up le1 rself) r1, by rw [List.length_cons]; exact hl, q1⟩
          have hlen := F2.len _ _ _ _ hsp
          have hb := hb2 s3 (.ref x :: us) I3.kIn (by rw [List.append_nil, List.length_cons, ← hlen, List.length_cons, Paired.length rv])
          rw [List.append_nil] at hb
          refine wpAny_call (PySem.W.method_call (ClX.pin_at I3) (codeAny_mono (F2.run X.A X.stack s3 H2 ⟨.ref x :: us, []⟩ (.ref x :: us) (.ref x :: vs') _ _ cf.gd cf.hr I3.env0 hb (.cons rfl rv) hsp) ?_))
          rintro (err | (_ | _ | _ | u')) s' hq
          · exact passAt tk σ _ H2 s3 err s' I3 hq
          · exact hq.elim
          · exact hq.elim
          · exact hq.elim
          · obtain ⟨v', H', I4, _, q4⟩ := I3.after hq
            exact wpAt_of_wpAny (wpAny_pure ⟨σ, H', ClX.unpin (ClX.unpin I4), q4⟩)
      · exact P1.elim
    · exact P1.elim
  · exact P1.elim
end DL

end
section
/-! DM, part p: methods with super() that take *args and keywords; C(e, *xs, k = v). -/
namespace DL
open PySem PySem.Spec PyProof.Rows L2
/-! ### keyword-only parameters of such a method -/
theorem FunS.kbinds0 {P : Program} {K : PySem.W.Frag} {x qual : Str} {params : Arguments} {body : List Stmt} {scope : Scope} {kws : List (Str × V)} {f : Addr} {fd : FuncData} {cda cc cD : Addr} {ps : List Str} (F : FunS P K x qual params body scope [] kws f fd cda cc cD) (n : Nat) (ks : List Str) (ms : List (Str × V)) (g : {α : Type} → List α → List α → List α → List α) (hk : kws ≠ []) (hms : ∀ q ∈ ms, q ∈ kws)
    (hrel : ∀ {vs mz zs : List V} {us mv ws : List Value}, Vals vs us → Vals mz mv → Vals zs ws → Vals (g vs mz zs) (g us mv ws))
    (h : ∀ (D : Addr) (doc pm : Value) (an : Option Addr) (ct : Value) (us mv ws : List Value), us.length = n → mv.length = ms.length → ws.length = ks.length →
      KwChain D ((ms.map (·.1)).zip mv) (bindArgs (PySem.W.ksFn x qual params body scope .none (.ref D) doc pm an (.ref cda) ct cc) ⟨us, ks.zip ws⟩) (ps.zip (g us mv ws))) :
    ∃ mv : List Value, KBn K fd ps n ks (fun us ws => g us mv ws) (fun vs zs => g vs (ms.map (·.2)) zs) := by
  obtain ⟨oc, od, dV, kV, doc, pm, an, ct, osl, rfl, lk, hcd, hD, hK⟩ := F.ex
  rcases hD with ⟨_, rfl⟩ | ⟨e, _⟩
  · rcases hK with e | ⟨D, rfl, hq⟩
    · exact absurd e hk
    · obtain ⟨mv, hl, rk, hks⟩ := kwd_vals (ms := ms) fun q hm => hq q (hms q hm)
      exact ⟨mv, ⟨fun s us ws X l1 l2 => BindsTo.of_looks fun M => KwChain.looks X hks (h D doc pm an ct us mv ws l1 hl l2), fun r1 r2 => hrel r1 rk r2⟩⟩
  · exact absurd rfl e
/-! ### *xs among the arguments -/
def mStar (me : ME) (ms : MA) : MA := fun δ S => (me δ S).bind fun x S1 => match x.sq S1 with
  | some xs => (ms δ S1).bind fun ys S2 => .ok (xs ++ ys) S2
  | none => .bad
theorem ca_star {X : Cx} {c : RC} {W : WX} {k : Nat} {e : Expr} {es : List Expr} {p : Pos} {me : ME} {ms : MA} (cf : Cf k X c) (he : CE X c W e me) (hr : CA X c W es ms) (hs : starEach (.Starred e p :: es) X.env = (true, eval e X.env) :: starEach es X.env := by rfl) : CA X c W (.Starred e p :: es) (mStar me ms) := by
  refine ⟨fun pos pins s σ H Q I ⟨g, Z, δ, S, sm, sl, q⟩ => (StX.pa_star he hr hs).run pos pins s σ H Q I ⟨g, Z, δ, S, sm, sl, Post.bind q fun x S1 g1 v H1 eS le1 s1 r1 q1 => ?_⟩⟩
  cases e1 : x.sq S1 with
  | none => rw [e1] at q1; exact q1.elim
  | some xs =>
    rw [e1] at q1
    obtain ⟨a, vs, rfl, hq, rs⟩ := sq_ok s1 r1 e1
    refine ⟨a, vs, rfl, ?_, g1, Z, δ, S1, s1, sl.up le1, Post.bind q1 fun ys S2 g2 ws H2 _ le2 s2 r2 q2 => q2 g2 _ H2 (.refl g2) s2 ((rs.up le2).app r2)⟩
    rw [← cf.kk]
    exact hq.symm
theorem ks_callK {M : Model} {A : Around} {E : Value → Shared → Prop} {s : Shared} {f : Value} {first : List Value} {pos : Pos} {Q : Value → Shared → Prop} {P : Heap → Prop} {args : List (Bool × Sem Value)} {kws : List (Option Str × Sem Value)} (hst : args.any (·.1) = true)
    (hk : ∀ h, P h → ∃ k, (k = Keeper.frame ∨ k = Keeper.machine ∨ k = Keeper.boundFrame) ∧ PySem.W.Looks M h (keeperOf f) k)
    (h : wpAny M A (evalArgs f true args kws) (fun a s₁ => P s₁.heap ∧ wpAny M A (call f (first ++ a.pos) a.kw) Q E s₁) E s) : wpAny M A (callWith pos f first args kws) Q E s := by
  unfold callWith
  refine wpAny_bind (wpAny_holding (wpAny_mono h (fun a s₁ h₁ => wpAny_bind (wpAny_standAt ?_)) fun _ _ x => x))
  obtain ⟨k, hk', L⟩ := hk _ h₁.1
  simp only [hst, Bool.true_or]
  refine wpAny_bind (L.here ?_)
  have tail : ∀ {t : Sem Value}, wpAny M A t Q E s₁ → wpAny M A (t >>= fun r => holding [r] point >>= fun _ => pure r) Q E s₁ :=
    fun ht => wpAny_bind (wpAny_mono ht (fun r s₂ hr => wpAny_bind (wpAny_holding (wpAny_point (wpAny_pure hr)))) fun _ _ x => x)
  have marked (mk : Value) : wpAny M A (callMarked mk f (first ++ a.pos) a.kw) Q E s₁ := by unfold callMarked; exact Calls.wpAny_keep h₁.2
  rcases hk' with rfl | rfl | rfl <;> dsimp only <;> first | exact tail (marked _) | exact tail (wpAny_operating h₁.2)
theorem callWith_SK {M : Model} {A : Around} {E : Value → Shared → Prop} {s : Shared} {K : PySem.W.Frag} {env : Env} {pos : Pos} {f : Value} {first : List Value} {Q : Value → Shared → Prop} {e : Expr} {rest : List Expr} {kws : List Keyword} (hk : PySem.W.keepIn K f = true) (hall : (backToKw pos (keywordEach kws env)).all (·.1.isSome) = true)
    (h : wpAny M A (spliced (backTo pos (starEach (e :: rest) env))) (fun vs s₁ => wpAny M A (evalAll ((backToKw pos (keywordEach kws env)).map (·.2)))
      (fun ks s₂ => K.In s₂.heap ∧ wpAny M A (call f (first ++ vs) (((backToKw pos (keywordEach kws env)).filterMap (·.1)).zip ks)) Q E s₂) E s₁) E s)
    (hst : (backTo pos (starEach (e :: rest) env)).any (·.1) = true) (he : starEach (e :: rest) env = (false, eval e env) :: starEach rest env) :
    wpAny M A (callWith pos f first (backTo pos (starEach (e :: rest) env)) (backToKw pos (keywordEach kws env))) Q E s :=
  ks_callK hst (PySem.W.keeps_K hk) (PyProof.Rows.evalArgs_kw2 hall h he)
/-! ### a def with *args and keywords, all of which are given -/
/-- positional values, keywords' values behind them: the first np, the keywords, what is left in a tuple -/
def argF (np nk : Nat) (l : List D) : List D := l.take np ++ l.drop (l.length - nk) ++ [.tup ((l.take (l.length - nk)).drop np)]
def spV (c : RC) (np nk : Nat) (fm : MF) (vs zs : List V) : Hp → VK → XK → Prop := fun H Q E => np ≤ vs.length ∧ vs.length ≤ 100000 ∧ zs.length = nk ∧ spM c (vs.length + nk) (fun l => fm (argF np nk l)) (vs ++ zs) H Q E
structure FnV (P : Program) (w : World) (K : PySem.W.Frag) (mg : Str → Option Value) (base : Heap) (k : Nat) (f : Addr) (np : Nat) (ks : List Str) (c : RC) (fm : MF) : Prop where
  run : ∀ (A : Around) (outer : List Env) (s : Shared) (H : Hp) (us ws : List Value) (vs zs : List V) (Q : VK) (E : XK), A.guards = some [] → Room k A → Env0 P w K mg base A outer s H → Vals vs us → Vals zs ws → spV c np ks.length fm vs zs H Q E →
    codeAny (model P w) A (.call (.ref f) ⟨us, ks.zip ws⟩) (CR (L2.CX P w) outer P w H s Q E) s
theorem FnV.mono {P : Program} {w : World} {K : PySem.W.Frag} {mg : Str → Option Value} {base : Heap} {i j : Nat} {f : Addr} {np : Nat} {ks : List Str} {c : RC} {fm : MF} (F : FnV P w K mg base i f np ks c fm) (h : i ≤ j) : FnV P w K mg base j f np ks c fm := ⟨fun A outer s H us ws vs zs Q E hg hr => F.run A outer s H us ws vs zs Q E hg (hr.mono h)⟩
theorem run_bndS {P : Program} {w : World} {K : PySem.W.Frag} {mg : Str → Option Value} {base : Heap} {k : Nat} {f cda cc cD : Addr} {name qual : Str} {params : Arguments} {body : List Stmt} {scope : Scope} {dV kV doc pm ct oc : Value} {an od : Option Addr} {osl : Array (Option Value)} {N ps : List Str}
    {A : Around} {outer : List Env} {s : Shared} {H : Hp} {args : Args} {Q : VK} {E : XK} {G : List V → Hp → Prop} (lk : K.lookup f = some ⟨oc, od, .func (PySem.W.ksFn name qual params body scope dV kV doc pm an (.ref cda) ct cc), osl⟩) (hcd : PySem.W.codeIn K (.ref cda) qual = true)
    (hcc : ∃ (cl : Value) (cld : Option Addr) (csl : Array (Option Value)), K.lookup cc = some ⟨cl, cld, .cell (some (.ref cD)), csl⟩)
    (S : FnScopeS N ps scope) (hr : Room (k + 1) A) (e0 : Env0 P w K mg base A outer s H) (hb : StX.Bnd (L2.CX P w) P w K mg base (PySem.W.ksFn name qual params body scope dV kV doc pm an (.ref cda) ct cc) args ps A outer s H E G)
    (hbody : ∀ (s2 : Shared) (H2 : Hp) (vs : List V), G vs H2 → Room k (A.deeper (PySem.W.ksEnv qual scope s2.heap.objs.size f (.ref cda) cc)) →
      ∃ t, PSA (supCx P w K mg base N qual scope f cda cc A outer s2 H2 E) body body t ∧ t { nx := fun _ H' => Q .non H', rt := Q } (L2.start N vs) H2) : codeAny (model P w) A (.call (.ref f) args) (CR (L2.CX P w) outer P w H s Q E) s := by
  have KX : K.In s.heap := e0.mod.kin.keeps fun b o e => (e0.bs b o e).1
  refine codeAny_call_function hr.depth (KX _ _ lk) rfl S.co S.gen rfl (PySem.W.codeRec_of KX hcd) ?_
  refine hb _ _ _ fun s2 H2 vs us e2 un ho hx r hl g => ?_
  have lim : s2.heap.NoLimit := e0.mod.nolimit.keeps fun b o e => (e2.bs b o e).1
  refine wpAny_newFunctionEnv S.nocell (fun y hy => S.par _ (List.of_mem_zip hy).1) (fun h₀ hns hsb => ⟨lim.fresh _ hsb, ?_⟩) S.kind
  have kp : ∀ b o, s2.heap.get? b = some o → h₀.get? b = some o := fun b o e => hsb.extBut b o (Nat.ne_of_lt (Heap.lt_size e)) (Heap.get?_push_of_some _ e)
  obtain ⟨t, pt, hq⟩ := hbody s2 H2 vs g (hr.deeper _)
  have I0 := inv_startS (E := E) (qual := qual) (f := f) (cda := cda) (cc := cc) (cD := cD) (tk := s2.toks + (ps.zip us).length) S hr.hd e2 hl r hcc hns kp
  refine ks_codeAny_funcAt (PySem.ks_wpAt_mono (pt.run _ (L2.start N vs) H2 _ I0 hq) ?_ fun e s' hs => ?_)
  · have fin : ∀ {σ' : L2.St} {H' : Hp} {v' : V} {u' : Value} {s' : Shared}, Inv (supCx P w K mg base N qual scope f cda cc A outer s2 H2 E) [] σ' H' s' → RelV v' u' → Q v' H' → L2.CE outer P w H s Q u' s' :=
      fun {σ' H' v' u' s'} J rv' q => ⟨v', H', J.os.trans ho, J.bare, un.trans J.base, J.hok, rv', q⟩
    rintro (_ | _ | _ | u) s' hs
    · obtain ⟨_, H', J, q⟩ := hs
      exact fin (v' := V.non) (u' := Value.none) J rfl q
    · obtain ⟨_, _, _, q⟩ := hs
      exact q.elim
    · obtain ⟨_, _, _, q⟩ := hs
      exact q.elim
    · obtain ⟨v, _, H', J, rv, q⟩ := hs
      exact fin J rv q
  · have hs' : wpAny (model P w) (A.deeper (PySem.W.ksEnv qual scope s2.heap.objs.size f (.ref cda) cc)) (leaving (PySem.W.ksEnv qual scope s2.heap.objs.size f (.ref cda) cc) e) (fun _ s'' => L2.CX P w outer H2 s2 E e s'') (fun e' s'' => L2.CX P w outer H2 s2 E e' s'') s' := hs
    exact wpAny_mono hs' (fun _ s'' z => hx _ _ z) fun _ s'' z => hx _ _ z
theorem argF_of {np nk : Nat} {l d1 d2 : List D} (e : l = d1 ++ d2) (h2 : d2.length = nk) (h1 : np ≤ d1.length) : argF np nk l = d1.take np ++ d2 ++ [.tup (d1.drop np)] := by
  subst e
  unfold argF
  have e1 : (d1 ++ d2).length - nk = d1.length := by rw [List.length_append]; omega
  rw [e1, List.drop_left, List.take_left, List.take_append_of_le_length h1]
theorem def_okV {P : Program} {w : World} {K : PySem.W.Frag} {mg : Str → Option Value} {base : Heap} {k : Nat} {f cda cc cD : Addr} {x qual : Str} {params : Arguments} {body : List Stmt} {scope : Scope} {kws : List (Str × V)} {fd : FuncData} {N ps ks : List Str} {pv : Str} {c : RC} {fin : Nat → D → Sto → R D} {m : MS}
    (hK : c.K = K) (hnx : c.ex = none) (F : FunS P K x qual params body scope [] kws f fd cda cc cD) (S : FnScopeS N (ps ++ ks ++ [pv]) scope) (hfin : FinD c fin)
    (hb : ∀ (kV doc pm : Value) (an : Option Addr) (ct : Value) (us rest ws : List Value), us.length = ps.length → ws.length = ks.length → bindArgs (PySem.W.ksFn x qual params body scope .none kV doc pm an (.ref cda) ct cc) ⟨us ++ rest, ks.zip ws⟩ = (newTuple rest >>= fun t => pure (ps.zip us ++ ks.zip ws ++ [(pv, t)])))
    (hbody : ∀ (A : Around) (outer : List Env) (s : Shared) (H : Hp) (E : XK), Cf k (supCx P w K mg base N qual scope f cda cc A outer s H E) c → PSA (supCx P w K mg base N qual scope f cda cc A outer s H E) body body (sM c (fun cls d _ H => E cls d H) m)) :
    FnV P w K mg base (k + 1) f ps.length ks c (mDef fin N.length m) := by
  obtain ⟨oc, od, dV, kV, doc, pm, an, ct, osl, rfl, lk, hcd, hD, _⟩ := F.ex
  obtain rfl : dV = Value.none := by
    rcases hD with h | ⟨h, _⟩
    · exact h.2
    · exact absurd rfl h
  refine ⟨fun A outer s H us ws vs zs Q E hg hr e0 r rz hsp => ?_⟩
  obtain ⟨hnp, hmx, hzl, g, Z, St, ds, sm, rl, hl, q⟩ := hsp
  obtain ⟨r1, r2⟩ := vals_take r ps.length
  have hn : H s.heap.objs.size = Option.none := e0.hok.fresh (Nat.le_refl _)
  have hlu : us.length = vs.length := (Paired.length r).symm
  have hlw : ws.length = ks.length := by rw [← hzl]; exact (Paired.length rz).symm
  have hl1 : (us.take ps.length).length = ps.length := by rw [List.length_take]; omega
  have hlvs : (vs.take ps.length).length = ps.length := by rw [List.length_take]; omega
  have hz : (vs.drop ps.length).length ≤ sizeLine := by rw [List.length_drop, sizeLine_eq]; omega
  have hl2 : (us.drop ps.length).length ≤ sizeLine := by rw [List.length_drop, sizeLine_eq]; omega
  have eu : us = us.take ps.length ++ us.drop ps.length := (List.take_append_drop _ _).symm
  rw [eu]
  -- the data, in two parts
  have ra : RepL c g (ds.take vs.length) vs := by
    have := rl.take vs.length
    rwa [List.take_left] at this
  have rb : RepL c g (ds.drop vs.length) zs := by
    have := rl.drop vs.length
    rwa [List.drop_left] at this
  have ed : ds = ds.take vs.length ++ ds.drop vs.length := (List.take_append_drop _ _).symm
  have la : (ds.take vs.length).length = vs.length := by rw [List.length_take]; omega
  have lb : (ds.drop vs.length).length = ks.length := by rw [List.length_drop]; omega
  have ea := argF_of (np := ps.length) ed lb (by omega)
  refine run_bndS lk hcd F.ce S hr e0 (G := fun xs H2 => ∃ p, H p = Option.none ∧ xs = vs.take ps.length ++ zs ++ [V.ref p] ∧ H2 = upd H p (.tup (vs.drop ps.length))) (fun A' Ex Q' h => ?_) fun s2 H2 xs ⟨p, hp, ex, eH⟩ hr' => ?_
  · rw [hb _ _ _ _ _ _ _ _ hl1 hlw]
    refine wpAny_bind (wpAny_newTuple (wpAny_pure ?_) hl2)
    have new : ObjOk P w (upd H s.heap.objs.size (.tup (vs.drop ps.length))) (s.heap.push ({ cls := .type "tuple", data := .seq (us.drop ps.length).toArray } : Obj)) s.heap.objs.size (.tup (vs.drop ps.length)) := ⟨hz, us.drop ps.length, r2, ⟨_, Heap.get?_push_size _ rfl, rfl, _, rfl⟩⟩
    have un := StX.un_laid (fs := frs outer) (s := s) (o := ({ cls := .type "tuple", data := .seq (us.drop ps.length).toArray } : Obj)) (u := .tup (vs.drop ps.length)) hn
    have z := h _ _ (vs.take ps.length ++ zs ++ [V.ref s.heap.objs.size]) (us.take ps.length ++ ws ++ [Value.ref s.heap.objs.size]) (StX.env0_laid e0 new) un rfl (fun e s' => StX.cxUp outer s H _ _ E e s' un (fun b o q => Heap.get?_push_of_some _ q) rfl) ((r1.append rz).append (.cons rfl .nil))
      (by simp only [List.length_append, hlvs, hzl]; rfl) ⟨_, hn, rfl, rfl⟩
    rw [List.zip_append (by simp only [List.length_append, hl1, hlw]), List.zip_append hl1.symm] at z
    exact z
  · subst ex eH
    obtain ⟨le, sm2⟩ := sm.new hp (.tup (vs.drop ps.length))
    have rs : RepL c ⟨upd g.G p (.tup (vs.drop ps.length)), g.ι⟩ (argF ps.length ks.length ds) (vs.take ps.length ++ zs ++ [V.ref p]) := by
      rw [ea]
      refine RepL.app (RepL.app ((ra.take _).up le) (rb.up le)) (RepL.cons ?_ RepL.nil)
      rw [Rep]
      exact ⟨p, _, rfl, .inl (.inl upd_same), (ra.drop _).up le⟩
    refine ⟨sM c (fun cls d _ H => E cls d H) m, hbody _ _ _ _ _ ⟨hK, hg, hr', rfl, hnx⟩, _, Z, _, St, sm2, slots_start rs, ?_⟩
    have q := Post.up le q
    simp only at q
    unfold mDef at q
    split at q
    · rename_i e
      rw [e]
      exact fun g' σ H' le s' sl => hfin sm2.len q g' .non H' le s' Rep.non
    · rename_i e
      rw [e]
      exact fun g' v H' le s' rv => hfin sm2.len q g' v H' le s' rv
    · rename_i e
      rw [e]
      exact fun g' dd σ H' le s' sl x => fin_exc sm2.len q g' dd H' le s' x
    · exact q.elim
end DL

end
section
/-! DM, part q: C(e, *xs, k = v), C a class by its name or held by a local. -/
namespace DL
open PySem PySem.Spec PyProof.Rows L2
def mMkV (k np nk : Nat) (fm : MF) (mo : ME) (ms mk : MA) : ME := fun δ S => (mo δ S).bind fun x S1 => match x with
  | .cls k' => if k' = k then (ms δ S1).bind fun xs S2 => (mk δ S2).bind fun zs S3 => if np ≤ xs.length ∧ xs.length ≤ 99999 ∧ zs.length = nk then fMk k (xs.length + 1 + nk) (fun l => fm (argF (np + 1) nk l)) (xs ++ zs) S3 else .bad else .bad
  | _ => .bad
structure MkV (P : Program) (w : World) (K : PySem.W.Frag) (mg : Str → Option Value) (base : Heap) (c : RC) (j k np : Nat) (ks : List Str) (fm : MF) : Prop where
  ex : ∃ f, Mk K (c.cl k) f ∧ FnV P w K mg base j f (np + 1) ks c fm
section
variable {X : Cx} {c : RC} {W : WX} {i j k np : Nat} {ks : List Str} {x : Str} {p pos : Pos} {e : Expr} {es : List Expr} {kws : List Keyword} {fm : MF} {mo : ME} {ms mk : MA}
theorem run_mkV {f C : Addr} {pins : List (Addr × Obj)} {σ : L2.St} {H : Hp} {s : Shared} {Q : VK} {us ws : List Value} {vs vz : List V} (cf : Cf (j + 1) X c) (tk : Takes X W) (M : Mk X.K C f) (F : FnV X.prog X.w X.K X.mg X.base j f (np + 1) ks c fm)
    (I : Inv X pins σ H s) (ru : Vals vs us) (rz : Vals vz ws)
    (h : ∀ y dx, H y = none → H dx = none → dx ≠ y → spV c (np + 1) ks.length fm (.ref y :: vs) vz (upd (upd H dx (.own y)) y (.ins C dx [])) (fun v H2 => v = .non ∧ Q (.ref y) H2) fun cls d H' => W cls d σ H') :
    wpAny (model X.prog X.w) X.A (call (.ref C) us (ks.zip ws)) (EP X pins σ Q) X.xe s := by
  have hq := h (s.heap.objs.size + 1) s.heap.objs.size (I.hok.fresh (Nat.le_succ _)) (I.hok.fresh (Nat.le_refl _)) (Nat.ne_of_lt (Nat.lt_succ_self _))
  have I2 := Inv.made (C := C) I
  refine wpAny_call (make_map (f := f) I.kIn M.makes M.init (beq_iff_eq.mp M.fn) (codeAny_mono (F.run _ X.stack _ _ (Value.ref (s.heap.objs.size + 1) :: us) ws _ _ _ _ (guards_make cf.gd) (cf.hr.make C us (ks.zip ws)) (I2.env0.make C us (ks.zip ws)) (Paired.cons (show RelV (V.ref (s.heap.objs.size + 1)) (Value.ref (s.heap.objs.size + 1)) from rfl) ru) rz hq) fun r s' hq' => ?_))
  rcases r with err | (_ | _ | _ | u)
  · exact passAt tk σ pins _ _ err s' I2 hq'
  · exact hq'.elim
  · exact hq'.elim
  · exact hq'.elim
  · obtain ⟨v, H', J, rv, ev, q2⟩ := I2.after hq'
    subst ev
    exact ⟨rv, .ref (s.heap.objs.size + 1), H', J, rfl, q2⟩
theorem mkV_end {f : Addr} {pins : List (Addr × Obj)} {σ : L2.St} {H : Hp} {s : Shared} {Q : VK} {g : Wd} {Z : Hp} {S : Sto} {xs zs : List D} {vs vz : List V} {us ws : List Value} (cf : Cf (j + 1) X c) (tk : Takes X W) (M : Mk X.K (c.cl k) f) (F : FnV X.prog X.w X.K X.mg X.base j f (np + 1) ks c fm)
    (I : Inv X pins σ H s) (sm : SimH c g S Z H) (r : RepL c g xs vs) (rz : RepL c g zs vz) (ru : Vals vs us) (rw' : Vals vz ws) (h1 : np ≤ xs.length) (h2 : xs.length ≤ 99999) (l2 : zs.length = ks.length)
    (q : Post c (Rep c) g Z (fMk k (xs.length + 1 + ks.length) (fun l => fm (argF (np + 1) ks.length l)) (xs ++ zs) S) Q fun cls d H' => W cls d σ H') : wpAny (model X.prog X.w) X.A (call (.ref (c.cl k)) us (ks.zip ws)) (EP X pins σ Q) X.xe s := by
  refine run_mkV cf tk M F I ru rw' fun y dx e1 e2 e3 => ⟨?_, ?_, ?_, ?_⟩
  · rw [List.length_cons, r.length]
    omega
  · rw [List.length_cons, r.length]
    omega
  · rw [rz.length, l2]
  · have := mk_sp sm (r.app rz) q y dx e1 e2 e3
    rw [List.length_cons, r.length]
    exact this
theorem ce_mkV (cf : Cf (j + 1) X c) (tk : Takes X W) (M : MkV X.prog X.w X.K X.mg X.base c i k np ks fm) (hij : i ≤ j) (hkp : PySem.W.keepIn X.K (.ref (c.cl k)) = true) (ho : CE X c W (.Name x p) mo) (ha : CA X c W (e :: es) ms) (hkw : CK X c W kws mk)
    (hcall : ∀ (M : Model) (A : Around) (E : Value → Shared → Prop) (s : Shared) (f : Value) (Q : Value → Shared → Prop), PySem.W.keepIn X.K f = true →
      wpAny M A (spliced (backTo pos (starEach (e :: es) X.env))) (fun vs s₁ => wpAny M A (evalAll ((backToKw pos (keywordEach kws X.env)).map (·.2)))
        (fun ks s₂ => X.K.In s₂.heap ∧ wpAny M A (call f ([] ++ vs) (((backToKw pos (keywordEach kws X.env)).filterMap (·.1)).zip ks)) Q E s₂) E s₁) E s →
      wpAny M A (callWith pos f [] (backTo pos (starEach (e :: es) X.env)) (backToKw pos (keywordEach kws X.env))) Q E s)
    (hks : (backToKw pos (keywordEach kws X.env)).filterMap (·.1) = ks := by rfl) :
    CE X c W (.Call (.Name x p) (e :: es) kws pos) (mMkV k np ks.length fm mo ms mk) := by
  obtain ⟨f, h1, h2⟩ := M.ex
  have F := h2.mono hij
  refine ⟨fun pins s σ H Q I ⟨g, Z, δ, S, sm, sl, q⟩ => ?_⟩
  refine wpAny_Call_Name_kw (thn (ho.run pins s σ H _ I ⟨g, Z, δ, S, sm, sl, Post.bind (Q := fun v H1 => ∃ g1 S1, SimH c g1 S1 Z H1 ∧ Slots c g1 δ σ ∧ v = .ref (c.cl k) ∧
    Post c (Rep c) g1 Z ((ms δ S1).bind fun xs S2 => (mk δ S2).bind fun zs S3 => if np ≤ xs.length ∧ xs.length ≤ 99999 ∧ zs.length = ks.length then fMk k (xs.length + 1 + ks.length) (fun l => fm (argF (np + 1) ks.length l)) (xs ++ zs) S3 else .bad) Q fun cls d H' => W cls d σ H') q fun y S1 g1 v H1 _ le1 s1 r1 q1 => ?_⟩) fun u s1 hx => ?_)
  · cases y with
    | cls k' =>
      simp only at q1
      by_cases hk : k' = k
      · subst hk
        rw [if_pos rfl] at q1
        rw [Rep] at r1
        exact ⟨g1, S1, s1, sl.up le1, r1, q1⟩
      · rw [if_neg hk] at q1
        exact q1.elim
    | _ => exact q1.elim
  · obtain ⟨v, H1, I1, rv, g1, S1, s1', sl1, rfl, q1⟩ := hx
    obtain rfl : u = Value.ref (c.cl k) := rv
    refine hcall _ _ _ _ _ _ hkp ?_
    refine thn (ha.run pos pins s1 σ H1 _ I1 ⟨g1, Z, δ, S1, s1', sl1, Post.bind (Q := fun vs H2 => ∃ g2 S2 xs, SimH c g2 S2 Z H2 ∧ Slots c g2 δ σ ∧ RepL c g2 xs vs ∧
      Post c (Rep c) g2 Z ((mk δ S2).bind fun zs S3 => if np ≤ xs.length ∧ xs.length ≤ 99999 ∧ zs.length = ks.length then fMk k (xs.length + 1 + ks.length) (fun l => fm (argF (np + 1) ks.length l)) (xs ++ zs) S3 else .bad) Q fun cls d H' => W cls d σ H') q1 fun xs S2 g2 vs H2 _ le2 s2 r2 q2 => ⟨g2, S2, xs, s2, sl1.up le2, r2, q2⟩⟩) fun us s2 hy => ?_
    obtain ⟨vs, H2, I2, ru, g2, S2, xs, s2', sl2, r2, q2⟩ := hy
    refine thn (hkw.run pos pins s2 σ H2 _ I2 ⟨g2, Z, δ, S2, s2', sl2, Post.bind (Q := fun vz H3 => ∃ g3 S3 zs, g2.le g3 ∧ SimH c g3 S3 Z H3 ∧ RepL c g3 zs vz ∧ (np ≤ xs.length ∧ xs.length ≤ 99999 ∧ zs.length = ks.length) ∧ Post c (Rep c) g3 Z (fMk k (xs.length + 1 + ks.length) (fun l => fm (argF (np + 1) ks.length l)) (xs ++ zs) S3) Q fun cls d H' => W cls d σ H') q2 fun zs S3 g3 vz H3 _ le3 s3 r3 q3 => ?_⟩) fun ws s3 hz => ?_
    · by_cases hz : np ≤ xs.length ∧ xs.length ≤ 99999 ∧ zs.length = ks.length
      · rw [if_pos hz] at q3
        exact ⟨g3, S3, zs, le3, s3, r3, hz, q3⟩
      · rw [if_neg hz] at q3
        exact q3.elim
    · obtain ⟨vz, H3, I3, rw3, g3, S3, zs, le3, s3', r3, hz, q3⟩ := hz
      refine ⟨I3.kIn, ?_⟩
      rw [hks]
      exact mkV_end cf tk h1 F I3 s3' (r2.up le3) r3 ru rw3 hz.1 hz.2.1 hz.2.2 q3
/-- with *xs among the arguments -/
theorem ce_mkVS (cf : Cf (j + 1) X c) (tk : Takes X W) (M : MkV X.prog X.w X.K X.mg X.base c i k np ks fm) (hij : i ≤ j) (ho : CE X c W (.Name x p) mo) (ha : CA X c W (e :: es) ms) (hkw : CK X c W kws mk)
    (hall : (backToKw pos (keywordEach kws X.env)).all (·.1.isSome) = true := by rfl) (hks : (backToKw pos (keywordEach kws X.env)).filterMap (·.1) = ks := by rfl)
    (hst : (backTo pos (starEach (e :: es) X.env)).any (·.1) = true := by rfl) (he : starEach (e :: es) X.env = (false, eval e X.env) :: starEach es X.env := by rfl) :
    CE X c W (.Call (.Name x p) (e :: es) kws pos) (mMkV k np ks.length fm mo ms mk) :=
  ce_mkV cf tk M hij M.ex.choose_spec.1.kp ho ha hkw (fun M A E s f Q hk h => callWith_SK (K := X.K) (first := []) hk hall h hst he) hks
end
end DL

end
section
/-! DM, part s: sorted(xs), xs a list or a tuple of pairs of texts. -/
namespace DL
open PySem PySem.Spec PyProof.Rows L2
section
variable {prog : Program} {w : World} {A : Around} {E : Value → Shared → Prop} {s : Shared} {β : Type} {R : Value → β → Prop} {enc : β → PyData} {vs : List Value} {bs : List β}
open PySem.W PySem.Calls in
theorem sorted_dataT {l : Addr} {Q : Value → Shared → Prop} (hl : s.heap.IsTuple l vs.toArray) (e : EachIs R vs bs) (er : EachIs (fun v b => ∃ as, Reads s.heap v (enc b) as) vs bs) (hal : AllAlike (bs.map enc)) (hk : Sortable (bs.map enc)) (hL : bs.length ≤ sizeLine)
    (hu : ∀ b, b ∈ bs → A.units + 2 + (enc b).depth < cLine) (h : ∀ out, out.length = bs.length → EachIs R out (bs.mergeSort (dataLe false enc)) → Q (.ref (s.heap.objs.size + 1)) { s with heap := sortedAll s.heap vs (List.toArray out) }) :
    wpAny (model prog w) A (call (.builtin "sorted") [.ref l]) Q E s := by
  have er' : EachIs (fun v b => ∃ as, Reads (sortingHeap (copyHeap s.heap vs) (s.heap.objs.size + 1) vs) v (enc b) as) vs bs := er.mono fun _ _ ⟨as, r⟩ => ⟨as, PyProof.Rows.Reads.keeps (fun _ _ => sorting_copy_old) r⟩
  have hz : vs.length ≤ sizeLine := by rw [e.length]; exact hL
  have S := SortsAt.data (prog := prog) (w := w) (A := A.in1.in1) (s := { s with heap := sortingHeap (copyHeap s.heap vs) (s.heap.objs.size + 1) vs }) (each_map (R := fun v d => ∃ as, Reads (sortingHeap (copyHeap s.heap vs) (s.heap.objs.size + 1) vs) v d as) enc er') hal hk (bound_map hu)
  have hq := h _ (by rw [sortVals_length false rfl]; exact e.length) (sortVals_data false e er' hal)
  refine Calls.call_function_entry kind_sorted plain_sorted entry_sorted (args_sorted1 _) ?_
  unfold Builtin.«sorted»
  refine wpAny_bind (m := checkCount "sorted" 1 1 _) (wpAny_pure ?_)
  refine wpAny_bind (collect_tup hl ?_ hz)
  refine wpAny_bind (wpAny_newList ?_ hz)
  have hsz : ((s.heap.push (seqObj "list" #[] 0)).update s.heap.objs.size (Obj.mapSeq (· ++ vs.toArray))).objs.size = s.heap.objs.size + 1 := by
    rw [Heap.size_update, size_push']
  show wpAny _ _ _ _ _ { s with heap := copyHeap s.heap vs }
  rw [hsz]
  refine wpAny_bind (wpAny_holding (wpAny_call_entry slot_list_sort ⟨_, copyHeap_at s.heap vs, rfl⟩ entry_list_sort ?body (args_list_sort _)))
  case body =>
    show wpAny (model prog w) A.in1.in1 (Builtin.«list.sort» ⟨[.ref (s.heap.objs.size + 1)], []⟩) _ _ _
    refine list_sort_vals (s := { s with heap := copyHeap s.heap vs }) (copyHeap_at s.heap vs) S hz ?_
    exact ⟨_, rfl, wpAny_pure ⟨_, rfl, hq⟩⟩
end
def encZ (z : V × Str × Str) : PyData := .tuple [.str z.2.1, .str z.2.2]
def rSortP (K : PySem.W.Frag) : List V → Hp → VK → Prop := fun vs H Q => ∃ (a : Addr) (zs : List (V × Str × Str)), vs = [V.ref a] ∧ (SqL K H a (zs.map (·.1)) ∨ SqT K H a (zs.map (·.1))) ∧ (∀ z ∈ zs, ∃ t, z.1 = V.ref t ∧ SqT K H t [V.str z.2.1, V.str z.2.2]) ∧ zs.length < 1000 ∧
  ∀ p : Addr, H p = none → Q (.ref p) (upd H p (.lst ((zs.mergeSort (PySem.W.dataLe false encZ)).map (·.1))))
theorem vals_each {zs : List (V × Str × Str)} : ∀ {its : List Value}, Vals (zs.map (·.1)) its → PySem.W.EachIs (fun v z => RelV z.1 v) its zs := by
  induction zs with
  | nil =>
    intro its h
    cases h
    exact .nil
  | cons z r ih =>
    intro its h
    cases h with
    | cons a b => exact .cons a (ih b)
theorem each_vals {zs : List (V × Str × Str)} : ∀ {its : List Value}, PySem.W.EachIs (fun v (z : V × Str × Str) => RelV z.1 v) its zs → Vals (zs.map (·.1)) its
  | _, .nil => .nil
  | _, .cons a b => .cons a (each_vals b)
theorem cr_sortP {X : Cx} {c : RC} {k : Nat} (cf : Cf k X c) : CallR X (.builtin "sorted") (rSortP c.K) := by
  rw [cf.kk]
  intro pins s σ H vs us Q I r h
  obtain ⟨a, zs, rfl, hs, hz, h1000, q⟩ := h
  rw [Vals.ref1 r]
  have hL : zs.length ≤ sizeLine := by rw [sizeLine_eq]; omega
  have rd : ∀ {its : List Value}, Vals (zs.map (·.1)) its → PySem.W.EachIs (fun v b => ∃ as, Reads s.heap v (encZ b) as) its zs := fun {its} rv => (PySem.W.each_mem (vals_each rv)).mono fun v z ⟨rz, hm⟩ => by
    obtain ⟨t, et, ht⟩ := hz z hm
    rw [et] at rz
    obtain rfl : v = Value.ref t := rz
    obtain ⟨i2, rv2, ⟨o, ho, hc, n, hd⟩, _⟩ := I.tuple ht
    have ra : ReadsAll s.heap i2 [.str z.2.1, .str z.2.2] [] := by
      cases rv2 with
      | cons h1 r2 =>
        cases r2 with
        | cons h2 r3 =>
          cases r3
          obtain ⟨t1, rfl⟩ := h1
          obtain ⟨t2, rfl⟩ := h2
          exact ReadsAll.cons (as := []) (bs := []) (Reads.str _ _) (ReadsAll.cons (as := []) (bs := []) (Reads.str _ _) ReadsAll.nil)
    exact ⟨_, Reads.tuple ho hc hd ra⟩
  have fin : ∀ (its : List Value) (out : List Value), out.length = zs.length → PySem.W.EachIs (fun v z => RelV z.1 v) out (zs.mergeSort (PySem.W.dataLe false encZ)) → EP X pins σ Q (.ref (s.heap.objs.size + 1)) { s with heap := sortedAll s.heap its (List.toArray out) } := fun its out hlo ho => by
    obtain ⟨ep, he'⟩ := PyProof.Rows.sortedAll_at s.heap its (List.toArray out)
    have hlen : ((zs.mergeSort (PySem.W.dataLe false encZ)).map (·.1)).length ≤ sizeLine := by rw [List.length_map, List.length_mergeSort]; exact hL
    exact ⟨.ref _, upd H (s.heap.objs.size + 1) (.lst ((zs.mergeSort (PySem.W.dataLe false encZ)).map (·.1))), I.laid (t' := s.toks) (fun _ _ => PyProof.Rows.sortedAll_old) (Nat.le_succ _) ⟨hlen, out, ep, each_vals ho, he'⟩, rfl, q _ (I.hok.fresh (Nat.le_succ _))⟩
  have hal : PySem.W.AllAlike (zs.map encZ) := PySem.W.AllAlike.of fun _ _ => rfl
  have hk : PySem.W.Sortable (zs.map encZ) := PySem.W.Sortable.tuples fun b => ⟨_, _, rfl⟩
  have hu : ∀ b, b ∈ zs → X.A.units + 2 + (encZ b).depth < cLine := fun b _ => by
    have := cf.hr.un
    have e : (encZ b).depth = 1 := by simp [encZ, PyData.depth, PyData.depthAll]
    omega
  rcases hs with hs | hs
  · obtain ⟨its, rv, hl, _⟩ := I.list hs
    exact PySem.W.sorted_data hl.isList (vals_each rv) (rd rv) hal hk hL hu fun out h1 h2 => fin its out h1 h2
  · obtain ⟨its, rv, hl, _⟩ := I.tuple hs
    exact sorted_dataT (show s.heap.IsTuple a its.toArray from hl) (vals_each rv) (rd rv) hal hk hL hu fun out h1 h2 => fin its out h1 h2
/-! ### over the data -/
def prOf : D → Option (Str × Str)
  | .tup [.str a, .str b] => some (a, b)
  | _ => none
def encD (d : D) : PyData := match prOf d with
  | some (a, b) => .tuple [.str a, .str b]
  | none => .none
def fSortP (xs : List D) (S : Sto) : R D := match xs with
  | [x] => (match x.sq S with
    | some ys => if ys.all (fun d => (prOf d).isSome) = true ∧ ys.length < 1000 then .ok (.lst (ys.mergeSort (PySem.W.dataLe false encD))) S else .bad
    | none => .bad)
  | _ => .bad
theorem prOf_some {d : D} (h : (prOf d).isSome = true) : ∃ a b, d = .tup [.str a, .str b] ∧ prOf d = some (a, b) := by
  unfold prOf at h
  split at h
  · exact ⟨_, _, rfl, rfl⟩
  · cases h
theorem repL_zip {c : RC} {g : Wd} : ∀ {ys : List D} {vs : List V}, RepL c g ys vs → (vs.zip ys).map (·.1) = vs ∧ (vs.zip ys).map (·.2) = ys ∧ ∀ p ∈ vs.zip ys, Rep c g p.2 p.1
  | [], vs, r => by
    have := r.length
    cases vs with
    | nil => exact ⟨rfl, rfl, fun p h => (nomatch h)⟩
    | cons v vs => cases this
  | d :: ys, vs, r => by
    cases vs with
    | nil => have := r.length; cases this
    | cons v vs =>
      rw [RepL] at r
      obtain ⟨v', vs', ee, r1, r2⟩ := r
      cases ee
      obtain ⟨a, b, e⟩ := repL_zip r2
      refine ⟨by rw [List.zip_cons_cons, List.map_cons, a], by rw [List.zip_cons_cons, List.map_cons, b], fun p h => ?_⟩
      rw [List.zip_cons_cons] at h
      rcases List.mem_cons.mp h with rfl | h
      · exact r1
      · exact e p h
theorem repL_of {c : RC} {g : Wd} : ∀ {ws : List (V × D)}, (∀ p ∈ ws, Rep c g p.2 p.1) → RepL c g (ws.map (·.2)) (ws.map (·.1))
  | [], _ => RepL.nil
  | w :: ws, h => RepL.cons (h w List.mem_cons_self) (repL_of fun p hp => h p (List.mem_cons_of_mem _ hp))
theorem cl_sortP {c : RC} : ClD c (rSortP c.K) fSortP := by
  intro g Z S H xs vs Q E s r q
  unfold fSortP at q
  split at q
  · rename_i x
    obtain ⟨v, rfl, r1⟩ := vals_one r
    cases e1 : x.sq S with
    | none => rw [e1] at q; exact q.elim
    | some ys =>
      rw [e1] at q
      simp only at q
      by_cases hc : ys.all (fun d => (prOf d).isSome) = true ∧ ys.length < 1000
      · rw [if_pos hc] at q
        obtain ⟨a, us, rfl, hs, rs⟩ := sq_ok s r1 e1
        obtain ⟨z1, z2, z3⟩ := repL_zip rs
        generalize us.zip ys = ws at z1 z2 z3
        subst z1 z2
        have hp : ∀ p ∈ ws, ∃ x y, p.2 = .tup [.str x, .str y] ∧ prOf p.2 = some (x, y) := fun p hpm => prOf_some (List.all_eq_true.mp hc.1 p.2 (List.mem_map_of_mem hpm))
        have ef : (ws.map fun p => (p.1, (prOf p.2).getD ("", ""))).map (·.1) = ws.map (·.1) := by rw [List.map_map]; rfl
        have s1 : ((ws.map fun p => (p.1, (prOf p.2).getD ("", ""))).mergeSort (PySem.W.dataLe false encZ)) = (ws.mergeSort fun p q => PySem.W.dataLe false encZ (p.1, (prOf p.2).getD ("", "")) (q.1, (prOf q.2).getD ("", ""))).map fun p => (p.1, (prOf p.2).getD ("", "")) :=
          (List.map_mergeSort (f := fun (p : V × D) => (p.1, (prOf p.2).getD ("", ""))) (l := ws) (r := fun p q => PySem.W.dataLe false encZ (p.1, (prOf p.2).getD ("", "")) (q.1, (prOf q.2).getD ("", ""))) (s := PySem.W.dataLe false encZ) fun _ _ _ _ => rfl).symm
        have s2 : ((ws.map (·.2)).mergeSort (PySem.W.dataLe false encD)) = (ws.mergeSort fun p q => PySem.W.dataLe false encZ (p.1, (prOf p.2).getD ("", "")) (q.1, (prOf q.2).getD ("", ""))).map (·.2) :=
          (List.map_mergeSort fun p hp1 q hq1 => by
            obtain ⟨x, y, e2, e3⟩ := hp p hp1
            obtain ⟨x', y', e2', e3'⟩ := hp q hq1
            have l1 : encD p.2 = encZ (p.1, (prOf p.2).getD ("", "")) := by unfold encD encZ; rw [e3]; rfl
            have l2 : encD q.2 = encZ (q.1, (prOf q.2).getD ("", "")) := by unfold encD encZ; rw [e3']; rfl
            unfold PySem.W.dataLe PySem.W.sortLe
            simp only [l1, l2]).symm
        refine ⟨a, ws.map fun p => (p.1, (prOf p.2).getD ("", "")), rfl, by rw [ef]; exact hs, fun z hz => ?_, by rw [List.length_map]; have := hc.2; rw [List.length_map] at this; exact this, fun p hn => ?_⟩
        · obtain ⟨w', hw, rfl⟩ := List.mem_map.mp hz
          obtain ⟨x', y', e2, e3⟩ := hp w' hw
          have r2 := z3 w' hw
          rw [e2, Rep] at r2
          obtain ⟨t, us2, e4, l, rs2⟩ := r2
          refine ⟨t, e4, ?_⟩
          have l2 := s.gk.tup l
          obtain ⟨v1, v2, rfl, ra, rb⟩ := vals_two rs2
          rw [ra.str_inv, rb.str_inv] at l2
          rw [e3]
          exact l2
        · rw [s1, List.map_map]
          rw [s2] at q
          exact lst_new s (repL_of (ws := ws.mergeSort fun p q => PySem.W.dataLe false encZ (p.1, (prOf p.2).getD ("", "")) (q.1, (prOf q.2).getD ("", ""))) fun p hpm => z3 p ((List.mergeSort_perm _ _).mem_iff.mp hpm)) hn q
      · rw [if_neg hc] at q
        exact q.elim
  · exact q.elim
end DL

end
section
/-! DM, part r: classmethods with keywords, called through the class. -/
namespace DL
open PySem PySem.Spec PyProof.Rows L2
structure CmK (P : Program) (w : World) (K : PySem.W.Frag) (mg : Str → Option Value) (base : Heap) (c : RC) (j k : Nat) (m : Str) (n na : Nat) (ks : List Str) (codes : List (Nat ⊕ Nat)) (more : List D) (fm : MF) : Prop where
  ex : ∃ mc p g fd ps mz mv, ClX.CRead K (c.cl k) mc ∧ ClX.CMet K (c.cl k) mc m p g ∧ FnG P w K mg base j g fd ps (spM c n fm) ∧ KwB K fd ps (na + 1) ks codes mz mv ∧ ∀ g, RepL c g more mz
def mCmK (k n na nk : Nat) (codes : List (Nat ⊕ Nat)) (more : List D) (fm : MF) (ms mk : MA) : ME := fun δ S => (ms δ S).bind fun xs S1 => if xs.length = na then (mk δ S1).bind fun zs S2 => if zs.length = nk then cut n fm [] (.cls k :: sel codes more (xs ++ zs)) S2 else .bad else .bad
section
variable {X : Cx} {c : RC} {W : WX} {i j k n na : Nat} {m : Str} {p pos apos : Pos} {e o : Expr} {es : List Expr} {kws : List Keyword} {ks : List Str} {codes : List (Nat ⊕ Nat)} {more : List D} {fm : MF} {ms mk : MA}
theorem ce_cmK {pl : Sem Bool} (cf : Cf j X c) (tk : Takes X W) (M : CmK X.prog X.w X.K X.mg X.base c i k m n na ks codes more fm) (hij : i ≤ j) (hx : PE X o (tC (.ref (c.cl k)))) (ha : CA X c W (e :: es) ms) (hkw : CK X c W kws mk)
    (hall : (backToKw pos (keywordEach kws X.env)).all (·.1.isSome) = true := by rfl) (hks : (backToKw pos (keywordEach kws X.env)).filterMap (·.1) = ks := by rfl)
    (hst : starEach (e :: es) X.env = (false, eval e X.env) :: starEach es X.env := by rfl) (hpl : ((backTo pos (starEach (e :: es) X.env)).any (·.1) || (backToKw pos (keywordEach kws X.env)).any (·.1.isNone)) = false := by rfl)
    (hev : eval (.Call (.Attribute o m apos) (e :: es) kws pos) X.env = (do
      let ov ← eval o X.env
      standAt apos.atName
      let (f, first) ← holding [ov] (getMethod ov m pl)
      callWith pos f first (backTo pos (starEach (e :: es) X.env)) (backToKw pos (keywordEach kws X.env))) := by rfl) :
    CE X c W (.Call (.Attribute o m apos) (e :: es) kws pos) (mCmK k n na ks.length codes more fm ms mk) := by
  obtain ⟨mc, pr, gf, fd, ps, mz, mv, rd, cm, F0, hb, hmore⟩ := M.ex
  have F := F0.mono hij
  refine ⟨fun pins s σ H Q I ⟨g, Z, δ, S, sm, sl, q⟩ => ?_⟩
  refine PySem.W.methodCall_KW (pl := pl) (thn (hx.run pins s σ H (fun v H1 => v = .ref (c.cl k) ∧ H1 = H) I ⟨rfl, rfl⟩) fun u s1 ⟨v, H1, I1, rv, ev, eH⟩ => ?_) hev
  subst ev eH
  obtain rfl : u = Value.ref (c.cl k) := rv
  refine ClX.getmethcm_ok I1 rd cm fun s2 I2 => ?_
  refine PySem.W.callWith_of (P := PySem.W.MethP X.K s1.heap.objs.size gf (.ref (c.cl k))) hpl (PySem.W.keeps_M cm.fi) (PyProof.Rows.evalArgs_kw2 hall ?_ hst)
  refine thn (ha.run pos _ s2 σ H1 _ I2 ⟨g, Z, δ, S, sm, sl, Post.bind (Q := fun vs H2 => ∃ g1 S1 xs, SimH c g1 S1 Z H2 ∧ Slots c g1 δ σ ∧ RepL c g1 xs vs ∧ xs.length = na ∧
    Post c (Rep c) g1 Z ((mk δ S1).bind fun zs S2 => if zs.length = ks.length then cut n fm [] (.cls k :: sel codes more (xs ++ zs)) S2 else .bad) Q fun cls d H' => W cls d σ H') q fun xs S1 g1 vs H2 _ le1 s1' r1 q1 => ?_⟩) fun us s3 hx3 => ?_
  · by_cases hn : xs.length = na
    · rw [if_pos hn] at q1
      exact ⟨g1, S1, xs, s1', sl.up le1, r1, hn, q1⟩
    · rw [if_neg hn] at q1
      exact q1.elim
  · obtain ⟨vs, H2, I3, ru, g1, S1, xs, s1', sl1, r1, hn, q1⟩ := hx3
    refine thn (hkw.run pos _ s3 σ H2 _ I3 ⟨g1, Z, δ, S1, s1', sl1, Post.bind (Q := fun vz H3 => ∃ g2 S2 zs, g1.le g2 ∧ SimH c g2 S2 Z H3 ∧ RepL c g2 zs vz ∧ zs.length = ks.length ∧ Post c (Rep c) g2 Z (cut n fm [] (.cls k :: sel codes more (xs ++ zs)) S2) Q fun cls d H' => W cls d σ H') q1 fun zs S2 g2 vz H3 _ le2 s2' r2 q2 => ?_⟩) fun ws s4 hx4 => ?_
    · by_cases hz : zs.length = ks.length
      · rw [if_pos hz] at q2
        exact ⟨g2, S2, zs, le2, s2', r2, hz, q2⟩
      · rw [if_neg hz] at q2
        exact q2.elim
    · obtain ⟨vz, H3, I4, rw2, g2, S2, zs, le2, s2', r2, hz, q2⟩ := hx4
      refine ⟨⟨ClX.pin_at I4, I4.kIn⟩, ?_⟩
      rw [hks]
      have n1 : us.length = na := by rw [← Paired.length ru, r1.length, hn]
      have n2 : ws.length = ks.length := by rw [← Paired.length rw2, r2.length, hz]
      unfold cut at q2
      split at q2
      · rename_i hl
        rw [List.append_nil] at q2
        have rr : RepL c g2 (.cls k :: sel codes more (xs ++ zs)) (.ref (c.cl k) :: sel codes mz (vs ++ vz)) := RepL.cons (by rw [Rep]) (rep_sel ((r1.up le2).app r2) (hmore g2) codes)
        have hsp : spM c n fm (.ref (c.cl k) :: sel codes mz (vs ++ vz)) H3 Q fun cls d H' => W cls d σ H' := ⟨g2, Z, S2, _, s2', rr, by simpa using hl, q2⟩
        have hbt := hb.to s4 (.ref (c.cl k) :: us) ws I4.kIn (by rw [List.length_cons, n1]) n2
        have hrl := hb.rel (vs := .ref (c.cl k) :: vs) (us := .ref (c.cl k) :: us) (Paired.cons (show RelV (V.ref (c.cl k)) (Value.ref (c.cl k)) from rfl) ru) rw2
        have z : wpAny (model X.prog X.w) X.A (call (.ref s1.heap.objs.size) us (ks.zip ws)) (EP X ((s1.heap.objs.size, PySem.W.methodObj (.ref gf) (.ref (c.cl k))) :: pins) σ Q) X.xe s4 := by
          refine wpAny_call (PySem.W.method_call (ClX.pin_at I4) (codeAny_mono (F.run X.A X.stack s4 H3 ⟨.ref (c.cl k) :: us, ks.zip ws⟩ _ _ _ _ cf.gd cf.hr I4.env0 hbt hrl hsp) ?_))
          rintro (err | (_ | _ | _ | u')) s' hq
          · exact passAt tk σ _ H3 s4 err s' I4 hq
          · exact hq.elim
          · exact hq.elim
          · exact hq.elim
          · exact I4.after hq
        exact thn z fun _ _ y => ClX.unpinE y
      · exact q2.elim
end
end DL

end
section
/-! DM, part t: super() by a def's facts; the hook with methods that say super(); facts of bases. -/
namespace DL
open PySem PySem.Spec PyProof.Rows L2
theorem psa_supF {P : Program} {w : World} {K : PySem.W.Frag} {mg : Str → Option Value} {base : Heap} {N : List Str} {x qual : Str} {params : Arguments} {dbody : List Stmt} {scope : Scope} {dvs : List V} {kws : List (Str × V)} {fd : FuncData} {f cda cc : Addr} {A : Around} {outer : List Env} {s : Shared} {H : Hp} {E : XK}
    {c : RC} {W : WX} {j k n : Nat} {body : List Stmt} {p0 p1 apos pos epos : Pos} {m : Str} {e : Expr} {es : List Expr} {ma : MA} {fm : MF} {f2 : Addr} {fd2 : FuncData} {ar : Arg} {ps2 : List Str}
    (F : FunS P K x qual params dbody scope dvs kws f fd cda cc (c.cl k)) (cf : Cf j (supCx P w K mg base N qual scope f cda cc A outer s H E) c) (tk : Takes (supCx P w K mg base N qual scope f cda cc A outer s H E) W)
    (hk : SupK P K mg (c.cl k) m f2) (F2 : FnG P w K mg base j f2 fd2 ps2 (spM c n fm)) (hb2 : Binds K fd2 ps2 []) (ha : CA (supCx P w K mg base N qual scope f cda cc A outer s H E) c W (e :: es) ma)
    (hp : (params.posonlyargs ++ params.args).head? = some ar) (hks : scope.names.lookup ("super" : Str) = some .globalImplicit) (hkc : scope.names.lookup ("__class__" : Str) = some .free) (hka : scope.names.lookup ar.arg = some .local) (h0 : N[0]? = some ar.arg) (hat : (m == ("__class__" : Str)) = false)
    (hst : starEach (e :: es) (supCx P w K mg base N qual scope f cda cc A outer s H E).env = (false, eval e (supCx P w K mg base N qual scope f cda cc A outer s H E).env) :: starEach es (supCx P w K mg base N qual scope f cda cc A outer s H E).env)
    (hpl : (backTo pos (starEach es (supCx P w K mg base N qual scope f cda cc A outer s H E).env)).any (·.1) = false)
    (hi : interactive (supCx P w K mg base N qual scope f cda cc A outer s H E).env = false) (hs : swapsWith (.Call (.Attribute (.Call (.Name "super" p0) [] [] p1) m apos) (e :: es) [] pos) none epos.line (supCx P w K mg base N qual scope f cda cc A outer s H E).env = pure false)
    {pl : Sem Bool}
    (he : eval (.Call (.Attribute (.Call (.Name "super" p0) [] [] p1) m apos) (e :: es) [] pos) (supCx P w K mg base N qual scope f cda cc A outer s H E).env = (do
      let ov ← attributeBase (.Call (.Name "super" p0) [] [] p1) m (supCx P w K mg base N qual scope f cda cc A outer s H E).env (eval (.Call (.Name "super" p0) [] [] p1) (supCx P w K mg base N qual scope f cda cc A outer s H E).env)
      standAt apos.atName
      let (f', first) ← holding [ov] (getMethod ov m pl)
      callWith pos f' first (backTo pos (starEach (e :: es) (supCx P w K mg base N qual scope f cda cc A outer s H E).env)) [])) :
    PSA (supCx P w K mg base N qual scope f cda cc A outer s H E) body [.Expr (.Call (.Attribute (.Call (.Name "super" p0) [] [] p1) m apos) (e :: es) [] pos) epos] (sM c W (sDrop (mSup k n fm ma))) := by
  obtain ⟨oc, od, dV, kV, doc, pm, an, ct, osl, rfl, lk, _, _, _⟩ := F.ex
  obtain ⟨ccl, cdd, vs, ccs, file, tf, lkc, hvs, hfile⟩ := F.co
  obtain ⟨cl, cld, csl, lkk⟩ := F.ce
  exact psa_sup cf tk hks hkc hka h0 rfl rfl rfl lk hp lkc hvs hfile lkk hk hat F2 hb2 ha hst hpl hi hs he
/-! ### the hook: methods that close over their class's cell -/
structure DefS where
  at_ : Str × Str
  name : Str
  qual : Str
  params : Arguments
  body : List Stmt
  scope : Scope
  kwd : List (Str × He.Dv) := []
abbrev FnWS : Type := Option (Str × Str × Arguments × FuncBody × Scope × Addr × List Str × Addr)
def fAdS (K : PySem.W.Frag) (d : DefS) : Addr := He.ma K (He.ga K d.at_.1) d.at_.2
def fnWS (K : PySem.W.Frag) (d : DefS) : FnWS := match K.lookup (fAdS K d) with
  | some ⟨_, _, .func fd, _⟩ => some (fd.name, fd.qualname, fd.params, fd.body, fd.scope, fd.globals, fd.closure.map (·.1), fd.builtins)
  | _ => none
def DefS.val (d : DefS) : FnWS := some (d.name, d.qual, d.params, .stmts d.body, d.scope, mainGlobals, ["__class__"], builtinsNs)
def DefS.kws (K : PySem.W.Frag) (d : DefS) : List (Str × V) := d.kwd.map fun q => (q.1, q.2.v K)
def DefS.ok (K : PySem.W.Frag) (file : Str) (d : DefS) : Bool := PySem.W.keepIn K (.ref (fAdS K d)) && (match K.lookup (fAdS K d) with
  | some ⟨_, _, .func fd, _⟩ => PySem.W.codeIn K fd.code d.qual && (He.dflB K fd.defaults [] && (He.kwdB K fd.kwdefaults (d.kws K) && ((match fd.code with
    | .ref cda => (match K.lookup cda with
      | some ⟨_, _, .fields vs, _⟩ => (match (vs[2]? : Option Value) with
        | some (.str fl _) => fl == file
        | _ => false)
      | _ => false)
    | _ => false) && (match fd.closure with
    | [(_, cc)] => (match K.lookup cc with
      | some ⟨_, _, .cell (some (.ref D)), _⟩ => D == He.ga K d.at_.1
      | _ => false)
    | _ => false))))
  | _ => false)
theorem DefS.funS {P : Program} {K : PySem.W.Frag} {file : Str} {d : DefS} (hP : (P.main.file : Str) = file) (e : fnWS K d = d.val) (c : d.ok K file = true) : ∃ fd cda cc, FunS P K d.name d.qual d.params d.body d.scope [] (d.kws K) (fAdS K d) fd cda cc (He.ga K d.at_.1) := by
  obtain ⟨kp, c2⟩ := band c
  unfold fnWS at e
  cases q : K.lookup (fAdS K d) with
  | none => rw [q] at c2; cases c2
  | some o =>
    obtain ⟨oc, od, dt, osl⟩ := o
    rw [q] at c2 e
    cases dt with
    | func fd =>
      obtain ⟨n1, n2, n3, n4, n5, n6, n7, n8, n9, n10, n11, n12, n13, n14, n15⟩ := fd
      have e2 : (some (n1, n2, n3, n4, n5, n6, n7.map (·.1), n15) : FnWS) = (some (d.name, d.qual, d.params, .stmts d.body, d.scope, mainGlobals, ["__class__"], builtinsNs) : FnWS) := e
      simp only [Option.some.injEq, Prod.mk.injEq] at e2
      obtain ⟨h1, h2, h3, h4, h5, h6, h7, h8⟩ := e2
      subst h1 h2 h3 h4 h5 h6 h8
      obtain ⟨k1, c3⟩ := band c2
      obtain ⟨k2, c4⟩ := band c3
      obtain ⟨k3, c5⟩ := band c4
      obtain ⟨k4, k5⟩ := band c5
      cases n13 with
      | ref cda =>
        simp only at k4
        cases q4 : K.lookup cda with
        | none => rw [q4] at k4; cases k4
        | some o4 =>
          obtain ⟨oc4, od4, dt4, osl4⟩ := o4
          rw [q4] at k4
          cases dt4 with
          | fields vs =>
            simp only at k4
            split at k4
            · rename_i fl tf hvs
              have efl : fl = file := beq_iff_eq.mp k4
              match n7, h7, k5 with
              | [(nm, cc)], h7, k5 =>
                have enm : nm = "__class__" := by simpa using h7
                subst enm
                try simp only at k5
                cases q5 : K.lookup cc with
                | none => rw [q5] at k5; cases k5
                | some o5 =>
                  obtain ⟨oc5, od5, dt5, osl5⟩ := o5
                  rw [q5] at k5
                  cases dt5 with
                  | cell v =>
                    cases v with
                    | none => cases k5
                    | some u =>
                      cases u with
                      | ref D =>
                        have eD : D = He.ga K d.at_.1 := beq_iff_eq.mp k5
                        subst eD
                        exact ⟨_, cda, cc, ⟨oc, od, n8, n9, n10, n11, n12, n14, osl, rfl, q, k1, He.dflB_ok k2, He.kwdB_ok k3⟩, ⟨oc4, od4, vs, osl4, fl, tf, q4, hvs, by rw [hP, efl]; exact beq_self_eq_true _⟩, ⟨oc5, od5, osl5, q5⟩, kp⟩
                      | _ => cases k5
                  | _ => cases k5
              | [], h7, _ => exact absurd (congrArg List.length h7) (by simp)
              | _ :: _ :: _, h7, _ => exact absurd (congrArg List.length h7) (by simp)
            · cases k4
          | _ => cases k4
      | _ => cases k4
    | _ => cases c2
abbrev SlD : Type := List FnWS
def zObs3 (n : Nat) (fa : List He.Fa) (fn : List He.DefD) (fb : List He5.DefA) (fs : List DefS) (ex : PySem.W.Frag → Bool) (g : Addr → Option Obj) : ((He.AlD × He.AlD) × SlD) × Bool := (((He.obsD fa fn (ZK2 n g), He5.obsA [] fb (ZK2 n g)), fs.map (fnWS (ZK2 n g))), ex (ZK2 n g))
def zHook3 (n : Nat) (fa : List He.Fa) (fn : List He.DefD) (fb : List He5.DefA) (fs : List DefS) (ex : PySem.W.Frag → Bool) : PySem.W.Hook where
  α := ((He.AlD × He.AlD) × SlD) × Bool
  obs := fun s => zObs3 n fa fn fb fs ex s.heap.get?
  val := fun _ => (((He.valD fn, He5.valA fb), fs.map DefS.val), true)
  says := fun _ h => ∃ K : PySem.W.Frag, K.In h ∧ ((He.SaysD fa fn K ∧ He5.SaysA [] fb K) ∧ fs.map (fnWS K) = fs.map DefS.val) ∧ ex K = true
  of := fun _ s e => ⟨ZK2 n s.heap.get?, He.frG_in, ⟨⟨congrArg (fun z : ((He.AlD × He.AlD) × SlD) × Bool => z.1.1.1) e, congrArg (fun z : ((He.AlD × He.AlD) × SlD) × Bool => z.1.1.2) e⟩, congrArg (fun z : ((He.AlD × He.AlD) × SlD) × Bool => z.1.2) e⟩, congrArg Prod.snd e⟩
  keeps := fun _ _ _ ⟨K, h1, h2⟩ k => ⟨K, PySem.W.Frag.In.keeps h1 k, h2⟩
theorem zObs3_eq {n : Nat} {fa : List He.Fa} {fn : List He.DefD} {fb : List He5.DefA} {fs : List DefS} {ex : PySem.W.Frag → Bool} {g : Addr → Option Obj} {s : Shared} (h : ∀ a, g a = s.heap.get? a) : zObs3 n fa fn fb fs ex g = (zHook3 n fa fn fb fs ex).obs s := by
  have e : g = s.heap.get? := funext h
  rw [e] <;> rfl
theorem saysS_defs {P : Program} {fs : List DefS} {K : PySem.W.Frag} {file : Str} (hP : (P.main.file : Str) = file) (c : fs.map (fnWS K) = fs.map DefS.val) {d : DefS} (h : d ∈ fs) (ok : d.ok K file = true) : ∃ fd cda cc, FunS P K d.name d.qual d.params d.body d.scope [] (d.kws K) (fAdS K d) fd cda cc (He.ga K d.at_.1) :=
  DefS.funS hP (List.map_inj_left.mp c d h) ok
/-! ### a base's method, reached by super() -/
def supB (K : PySem.W.Frag) (C : Addr) (m : Str) (f2 : Addr) : Bool := decide (PySem.W.mroIn K C (.ref C) = some true) && (decide (PySem.W.ks_superIn K C C m = some (some (.ref f2))) && (decide (PySem.W.typeIn K (.ref f2) = some (.type "function")) && (PySem.W.fnIn K f2 && decide (PySem.W.nsIn K cStatics "thirdparty.any" = some none))))
theorem supB_ok {P : Program} {K : PySem.W.Frag} {mg : Str → Option Value} {C f2 : Addr} {m : Str} (h : supB K C m f2 = true) (h1 : mg "super" = none) (h2 : (P.main.scope.names.lookup ("super" : Str)).isSome = false) : SupK P K mg C m f2 := by
  unfold supB at h
  obtain ⟨a1, h⟩ := band h
  obtain ⟨a2, h⟩ := band h
  obtain ⟨a3, h⟩ := band h
  obtain ⟨a4, a5⟩ := band h
  exact ⟨h1, h2, of_decide_eq_true a1, of_decide_eq_true a2, of_decide_eq_true a3, a4, of_decide_eq_true a5⟩
/-- a method that a class has from its base -/
def methB (K : PySem.W.Frag) (C : Addr) (m : Str) (f : Addr) : Bool := decide (PySem.W.findIn K (.ref C) m = some (some (.ref f))) && (PySem.W.isFn K (.ref f) && PySem.W.keepIn K (.ref f))
theorem methB_ok {K : PySem.W.Frag} {C f : Addr} {m : Str} (h : methB K C m f = true) : Meth K C m f := by
  unfold methB at h
  obtain ⟨a1, h⟩ := band h
  obtain ⟨a2, a3⟩ := band h
  exact ⟨of_decide_eq_true a1, a2, a3⟩
/-- a keyword default of a classmethod -/
def kwAtC (C m n : Str) (K : PySem.W.Frag) : Addr := match K.lookup (cmA K (He.ga K C) m) with
  | some ⟨_, _, .func fd, _⟩ => (match fd.kwdefaults with
    | .ref D => (match PySem.W.nsIn K D n with
      | some (some (.ref a)) => a
      | _ => 0)
    | _ => 0)
  | _ => 0
theorem freeB_ok {l : List (Str × NameKind)} (h : (l.all fun p => decide (p.2 ≠ .free) || (p.1 == ("__class__" : Str))) = true) {y : Str} (e : l.lookup y = some .free) : y = "__class__" := by
  have := List.all_eq_true.mp h _ (PySem.mem_of_lookup e)
  simpa using this
/-! ### xs + ys, a list that will change -/
def fAddC (x y : D) (S : Sto) : R D := match x.seq S, y.seq S with
  | some xs, some ys => if xs.length + ys.length ≤ 16777216 ∧ D.cleanL (xs ++ ys) = true then .ok (.loc S.length) (S ++ [.lst (xs ++ ys)]) else .bad
  | _, _ => .bad
theorem od_addC {c : RC} : OpD c (rAddU c.K) fAddC := by
  intro g Z S H x y v w Q E s rx ry q
  unfold fAddC at q
  split at q
  · rename_i xs ys h1 h2
    split at q
    · rename_i hz
      obtain ⟨a, vs, rfl, l1, r1⟩ := seq_ok s rx h1
      obtain ⟨b, ws, rfl, l2, r2⟩ := seq_ok s ry h2
      exact .inr (.inr (.inr ⟨a, b, vs, ws, rfl, rfl, l1, l2, by rw [r1.length, r2.length]; exact sz hz.1, fun p hp => lst_newC s (r1.app r2) hz.2 hp q⟩))
    · exact q.elim
  · exact q.elim
end DL

end
section
/-! DM, part u: C(e, .., k = v) where C's __init__ has *args. -/
namespace DL
open PySem PySem.Spec PyProof.Rows L2
section
variable {X : Cx} {c : RC} {W : WX} {i j k np : Nat} {ks : List Str} {x : Str} {p pos : Pos} {e : Expr} {es : List Expr} {kws : List Keyword} {fm : MF} {mo : ME} {ms mk : MA}
theorem ce_mkVP (cf : Cf (j + 1) X c) (tk : Takes X W) (M : MkV X.prog X.w X.K X.mg X.base c i k np ks fm) (hij : i ≤ j) (ho : CE X c W (.Name x p) mo) (ha : CA X c W (e :: es) ms) (hkw : CK X c W kws mk)
    (hall : (backToKw pos (keywordEach kws X.env)).all (·.1.isSome) = true := by rfl) (hks : (backToKw pos (keywordEach kws X.env)).filterMap (·.1) = ks := by rfl)
    (hpl : ((backTo pos (starEach (e :: es) X.env)).any (·.1) || (backToKw pos (keywordEach kws X.env)).any (·.1.isNone)) = false := by rfl) (he : starEach (e :: es) X.env = (false, eval e X.env) :: starEach es X.env := by rfl) :
    CE X c W (.Call (.Name x p) (e :: es) kws pos) (mMkV k np ks.length fm mo ms mk) :=
  ce_mkV cf tk M hij M.ex.choose_spec.1.kp ho ha hkw (fun M A E s f Q hk h => PySem.W.callWith_of (P := X.K.In) hpl (PySem.W.keeps_K hk) (PyProof.Rows.evalArgs_kw2 hall h he)) hks
theorem ce_ofC {o : Expr} (h : PE X o (tC (.ref (c.cl k)))) : CE X c W o (mC (.cls k)) := weakE h fun σ H Q ⟨g, Z, δ, S, s, sl, q⟩ => q g (.ref (c.cl k)) H (.refl g) s (by rw [Rep])
end
end DL

end
section
/-! printed by gen.py: the mirrors and the walk. -/
namespace K07
open PySem PySem.Spec PyProof.Rows L2 DL
def top (i : Nat) : Stmt := PySem.Challenge.pw_pastnotes_k07_deeds_refused.main.body.getD i (.Pass ⟨0, 0, 0, 0⟩)
def FL : Nat → List Str
  | 0 => ["name"]
  | 1 => ["note"]
  | 2 => ["move"]
  | 3 => ["name"]
  | 4 => ["name"]
  | 5 => ["deed", "state"]
  | 6 => ["limit"]
  | 100 => ["old", "new", "named", "changed"]
  | 101 => ["name", "moves", "columns", "note"]
  | 102 => ["name", "moves", "columns", "note"]
  | 103 => ["name", "moves", "columns", "note"]
  | 104 => ["name", "moves", "columns", "note"]
  | _ => []
def INs : List Str := ["Note", "Deed", "Make", "Change", "End"]
def CNs : List Str := ["BadName", "BadNote", "BadMove", "Twice", "NoColumn", "NotAllowed", "TooMany"]
def CN (k : Nat) : Str := if k < 100 then CNs.getD k "" else INs.getD (k - 100) ""
def cc (K : PySem.W.Frag) : RC := ⟨K, fun k => He.ga K (CN k), FL, none⟩
def bases : List Nat := [0, 0, 0, 0, 1, 2, 3]
def met (s : Stmt) (j : Nat) : Stmt := match s with
  | .ClassDef _ _ _ b _ _ _ _ _ _ _ => b.getD j (.Pass ⟨0, 0, 0, 0⟩)
  | _ => .Pass ⟨0, 0, 0, 0⟩
def xmO (j k : Nat) : Option Bool := if k < 7 then some (k == j) else none
def subI (j : Nat) : TD → Option Bool
  | .c k => if k = j then some true else none
  | .b _ => none
/-- is an error of class k one of class j; one of the built-in class b -/
def subO (j : Nat) : TD → Option Bool
  | .c k => if k < 7 then some (k == j) else none
  | .b _ => none
def subB (b : Nat) : TD → Option Bool
  | .c k => if k < 7 then some (bases.getD k 9 == b) else none
  | .b _ => none
def dis_name.N : List Str := ["thing", "letter"]
def mis_name : MS := sSeq (sIf (mOr (mNot (mTest (mUn (fIsi (subV "str")) (mVar 0)))) (mNot (mTest (mChain fLe fLe (mC (.int 1)) (mCall fLenS (mCons (mVar 0) (mNil))) (mC (.int 8)))))) (sRet (mC (.bl false))) (sNx)) (sRet (mCall fAll (mCons (mLc (mStrI (mVar 0)) (gN 1) [1] (tOk) (mBin (fIn false) (mVar 1) (mC (.str "abcdefghijklmnopqrstuvwxyz"))) finL) (mNil))))
def fis_name : MF := mDef finD 2 mis_name
def dcheck_name.N : List Str := ["thing"]
def mcheck_name : MS := sIf (mNot (mTest (mCall (cut 1 fis_name []) (mCons (mVar 0) (mNil))))) (sRaise 0 1 (mCons (mVar 0) (mNil))) (sNx)
def fcheck_name : MF := mDef finD 1 mcheck_name
def dcheck_once.N : List Str := ["names", "index", "name"]
def mcheck_once : MS := sFor (mEnS (mVar 0)) (gT [gN 1, gN 2]) (sIf (mTest (mBin (fIn false) (mVar 2) (mSlice (mVar 0) none (some (mVar 1))))) (sRaise 3 1 (mCons (mVar 2) (mNil))) (sNx))
def fcheck_once : MF := mDef finD 3 mcheck_once
def dcheck_names.N : List Str := ["things", "most", "thing"]
def mcheck_names : MS := sSeq (sFor (mSqI (mVar 0)) (gN 2) (sDrop (mCall (cut 1 fcheck_name []) (mCons (mVar 2) (mNil))))) (sSeq (sDrop (mCall (cut 1 fcheck_once []) (mCons (mVar 0) (mNil)))) (sSeq (sIf (mTest (mBin fGt (mCall fLenS (mCons (mVar 0) (mNil))) (mVar 1))) (sRaise 6 1 (mCons (mVar 1) (mNil))) (sNx)) (sRet (mCall fTuple (mCons (mCall fSortQ (mCons (mVar 0) (mNil))) (mNil))))))
def fcheck_names : MF := mDef finD 3 mcheck_names
def dNote___init__.N : List Str := ["self", "old", "new", "named", "changed"]
def mNote___init__ : MS := sSeq (sAttr FL "old" (mCall (cut 2 fcheck_names []) (mCons (mVar 1) (mCons (mC (.int 4)) (mNil)))) (mVar 0)) (sSeq (sAttr FL "new" (mCall (cut 2 fcheck_names []) (mCons (mVar 2) (mCons (mC (.int 4)) (mNil)))) (mVar 0)) (sSeq (sAttr FL "named" (mVar 3) (mVar 0)) (sAttr FL "changed" (mVar 4) (mVar 0))))
def fNote___init__ : MF := mDef finD 5 mNote___init__
def dcheck_note.N : List Str := ["note"]
def mcheck_note : MS := sIf (mAnd (mTest (mBin fNotN2 (mVar 0) (mC .non))) (mNot (mTest (mUn (fIsi (subJ 100)) (mVar 0))))) (sRaise 1 1 (mCons (mVar 0) (mNil))) (sNx)
def fcheck_note : MF := mDef finD 1 mcheck_note
def dDeed___init__.N : List Str := ["self", "name", "moves", "columns", "note"]
def mDeed___init__ : MS := sSeq (sDrop (mCall (cut 1 fcheck_note []) (mCons (mVar 4) (mNil)))) (sSeq (sAttr FL "name" (mVar 1) (mVar 0)) (sSeq (sAttr FL "moves" (mCall fTuple (mCons (mCall fSortP (mCons (mVar 2) (mNil))) (mNil))) (mVar 0)) (sSeq (sAttr FL "columns" (mVar 3) (mVar 0)) (sAttr FL "note" (mVar 4) (mVar 0)))))
def fDeed___init__ : MF := mDef finD 5 mDeed___init__
def dMake___init__.N : List Str := ["self", "name", "state", "note"]
def mMake___init__ : MS := sSeq (sDrop (mCall (cut 1 fcheck_name []) (mCons (mVar 1) (mNil)))) (sSeq (sDrop (mCall (cut 1 fcheck_name []) (mCons (mVar 2) (mNil)))) (sDrop (mSup 102 5 fDeed___init__ (mCons (mVar 1) (mCons (mCall fTup (mCons (mCall fTup (mCons (mC (.str "")) (mCons (mVar 2) (mNil)))) (mNil))) (mCons (mCall fTup (mNil)) (mCons (mVar 3) (mNil))))))))
def fMake___init__ : MF := mDef finD 4 mMake___init__
def dChange___init__.N : List Str := ["self", "name", "columns", "note", "moves", "move"]
def mChange___init__ : MS := sSeq (sDrop (mCall (cut 1 fcheck_name []) (mCons (mVar 1) (mNil)))) (sSeq (sFor (mTupI (mVar 4)) (gN 5) (sIf (mOr (mNot (mTest (mUn (fIsi (subV "tuple")) (mVar 5)))) (mOr (mTest (mBin fNe (mCall fLenS (mCons (mVar 5) (mNil))) (mC (.int 2)))) (mOr (mNot (mTest (mCall (cut 1 fis_name []) (mCons (mBin fIx (mVar 5) (mC (.int 0))) (mNil))))) (mNot (mTest (mCall (cut 1 fis_name []) (mCons (mBin fIx (mVar 5) (mC (.int 1))) (mNil)))))))) (sRaise 2 1 (mCons (mVar 5) (mNil))) (sNx))) (sSeq (sDrop (mCall (cut 1 fcheck_once []) (mCons (mLc (mTupI (mVar 4)) (gN 5) [5] (tOk) (mBin fIx (mVar 5) (mC (.int 0))) finL) (mNil)))) (sSeq (sIf (mTest (mBin fGt (mCall fLenS (mCons (mVar 4) (mNil))) (mC (.int 4)))) (sRaise 6 1 (mCons (mC (.int 4)) (mNil))) (sNx)) (sDrop (mSup 103 5 fDeed___init__ (mCons (mVar 1) (mCons (mVar 4) (mCons (mCall (cut 2 fcheck_names []) (mCons (mVar 2) (mCons (mC (.int 3)) (mNil)))) (mCons (mVar 3) (mNil))))))))))
def fChange___init__ : MF := mDef finD 6 mChange___init__
def dChange_of.N : List Str := ["cls", "name", "moves", "columns", "note"]
def mChange_of : MS := sRet (mMkV 103 1 2 fChange___init__ (mVar 0) (mCons (mVar 1) (mStar (mVar 2) (mNil))) (mCons (mVar 3) (mCons (mVar 4) (mNil))))
def fChange_of : MF := mDef finD 5 mChange_of
def dEnd___init__.N : List Str := ["self", "name", "note", "states", "state"]
def mEnd___init__ : MS := sSeq (sDrop (mCall (cut 1 fcheck_name []) (mCons (mVar 1) (mNil)))) (sSeq (sFor (mTupI (mVar 3)) (gN 4) (sIf (mNot (mTest (mCall (cut 1 fis_name []) (mCons (mVar 4) (mNil))))) (sRaise 0 1 (mCons (mVar 4) (mNil))) (sNx))) (sSeq (sDrop (mCall (cut 1 fcheck_once []) (mCons (mVar 3) (mNil)))) (sSeq (sIf (mTest (mBin fGt (mCall fLenS (mCons (mVar 3) (mNil))) (mC (.int 4)))) (sRaise 6 1 (mCons (mC (.int 4)) (mNil))) (sNx)) (sDrop (mSup 104 5 fDeed___init__ (mCons (mVar 1) (mCons (mLc (mTupI (mVar 3)) (gN 4) [4] (tOk) (mCall fTup (mCons (mVar 4) (mCons (mC (.str "")) (mNil)))) finL) (mCons (mCall fTup (mNil)) (mCons (mVar 2) (mNil))))))))))
def fEnd___init__ : MF := mDef finD 5 mEnd___init__
def dEnd_of.N : List Str := ["cls", "name", "states", "note"]
def mEnd_of : MS := sRet (mMkV 104 1 1 fEnd___init__ (mVar 0) (mCons (mVar 1) (mStar (mVar 2) (mNil))) (mCons (mVar 3) (mNil)))
def fEnd_of : MF := mDef finD 4 mEnd_of
def d_law_bag.N : List Str := ["_law_script", "_law_at", "_law_cell", "_law_blend", "_law_k", "_law_each"]
def m_law_bag : MS := sSeq (sSet 2 (mIf (mTest (mBin fLt (mVar 1) (mCall fLenS (mCons (mVar 0) (mNil))))) (mBin fIx (mVar 0) (mVar 1)) (mC (.int 0)))) (sSeq (sSet 3 (mBin fAdd (mBin fMul (mC (.int 7411)) (mVar 1)) (mC (.int 271)))) (sSeq (sFor (mEnI (mSlice (mVar 0) none (some (mC (.int 40))))) (gT [gN 4, gN 5]) (sSet 3 (mBin fMod (mCall fInt (mCons (mBin fAdd (mBin fAdd (mBin fAdd (mBin fMul (mVar 3) (mC (.int 40014))) (mBin fMod (mCall fInt (mCons (mVar 5) (mNil))) (mC (.int 2147483399)))) (mBin fMul (mC (.int 53)) (mVar 4))) (mC (.int 17))) (mNil))) (mC (.int 2147483563))))) (sRet (mCall fLstC (mCons (mIf (mTest (mBin fGe (mCall fAbs (mCons (mVar 2) (mNil))) (mBin fPow (mC (.int 10)) (mC (.int 18))))) (mCall fAbs (mCons (mVar 2) (mNil))) (mC (.int 0))) (mCons (mVar 3) (mNil)))))))
def f_law_bag : MF := mDef finK 6 m_law_bag
def d_law_take.N : List Str := ["_law_bag_here", "_law_many", "_law_digit"]
def m_law_take : MS := sSeq (sIf (mTest (mBin fGt (mBin fIx (mVar 0) (mC (.int 0))) (mC (.int 0)))) (sSeq (sSet 2 (mBin fMod (mCall fInt (mCons (mBin fIx (mVar 0) (mC (.int 0))) (mNil))) (mVar 1))) (sSeq (sSub (mBin fDiv (mBin fIx (mVar 0) (mC (.int 0))) (mVar 1)) (mVar 0) (mC (.int 0))) (sRet (mVar 2)))) (sNx)) (sSeq (sSub (mBin fMod (mCall fInt (mCons (mBin fAdd (mBin fMul (mBin fIx (mVar 0) (mC (.int 1))) (mC (.int 40692))) (mC (.int 3571))) (mNil))) (mC (.int 2147483399))) (mVar 0) (mC (.int 1))) (sRet (mBin fMod (mBin fDiv (mBin fMod (mCall fInt (mCons (mBin fMul (mBin fDiv (mBin fIx (mVar 0) (mC (.int 1))) (mC (.int 13))) (mC (.int 69691))) (mNil))) (mC (.int 2147483563))) (mC (.int 16))) (mVar 1))))
def f_law_take : MF := mDef finD 3 m_law_take
def d_law_of.N : List Str := ["_law_bag_here", "_law_some"]
def m_law_of : MS := sRet (mBin fIx (mVar 1) (mCall (cut 2 f_law_take []) (mCons (mVar 0) (mCons (mCall fLenS (mCons (mVar 1) (mNil))) (mNil)))))
def f_law_of : MF := mDef finD 2 m_law_of
def d_law_names.N : List Str := ["_law_bag_here", "_law_many", "_law_banned", "_law_letters", "_law_found", "_law_turn", "_law_name", "_law_k", "_law_letter"]
def m_law_names : MS := sSeq (sAsg (mCall fTup (mCons (mC (.str "abcdefghijklmnopqrstuvwxyz")) (mCons (mCall fLstC (mNil)) (mNil)))) (gT [gN 3, gN 4])) (sSeq (sFor (mRgI (mCons (mVar 1) (mNil))) (gN 5) (sSeq (sSet 6 (mMeth1 isStr fJoin (mC (.str "")) (mLc (mRgI (mCons (mCall (cut 2 f_law_of []) (mCons (mVar 0) (mCons (mCall fLst (mCons (mC (.int 1)) (mCons (mC (.int 1)) (mCons (mC (.int 2)) (mCons (mC (.int 8)) (mNil)))))) (mNil)))) (mNil))) (gN 7) [7] (tOk) (mBin fIx (mVar 3) (mCall (cut 2 f_law_take []) (mCons (mVar 0) (mCons (mC (.int 26)) (mNil))))) finL))) (sSeq (sIf (mOr (mTest (mBin (fIn false) (mVar 6) (mVar 4))) (mTest (mBin (fIn false) (mVar 6) (mVar 2)))) (sSet 6 (mBin fIx (mLc (mStrI (mVar 3)) (gN 8) [8] (mAnd (mTest (mBin (fIn true) (mVar 8) (mVar 4))) (mTest (mBin (fIn true) (mVar 8) (mVar 2)))) (mVar 8) finL) (mC (.int 0)))) (sNx)) (sDrop (mMeth1 isSq fApp (mVar 4) (mVar 6)))))) (sRet (mVar 4)))
def f_law_names : MF := mDef finD 9 m_law_names
def d_law_odd.N : List Str := ["_law_bag_here", "_law_good", "_law_odd_here"]
def m_law_odd : MS := sSeq (sSet 2 (mCall fLst (mCons (mC (.str "")) (mCons (mC (.str "A")) (mCons (mC (.str "a1")) (mCons (mC (.str "a b")) (mCons (mC (.str "abcdefghi")) (mCons (mC (.str " a")) (mCons (mC (.str "a ")) (mCons (mC (.str "a\n")) (mCons (mC (.str "a-")) (mCons (mC (.int 0)) (mCons (mC (.int 1)) (mCons (mUn fNeg (mC (.int 1))) (mCons (mBin fPow (mC (.int 10)) (mC (.int 30))) (mCons (mC (.bl true)) (mCons (mC (.bl false)) (mCons (mC .non) (mNil))))))))))))))))))) (sSeq (sSet 2 (mBin fAdd (mVar 2) (mCall fLst (mCons (mCall fLst (mNil)) (mCons (mCall fLst (mCons (mVar 1) (mNil))) (mCons (mCall fTup (mCons (mVar 1) (mNil))) (mCons (mCall fTup (mNil)) (mCons (mC (.dic [] [])) (mCons (mBin fAdd (mVar 1) (mC (.str " "))) (mCons (mUn fUpper (mVar 1)) (mCons (mSliceS (mBin fAdd (mVar 1) (mC (.str "abcdefgh"))) none (some (mC (.int 9)))) (mCons (mBin fAdd (mC (.str " ")) (mVar 1)) (mNil))))))))))))) (sRet (mCall (cut 2 f_law_of []) (mCons (mVar 0) (mCons (mVar 2) (mNil))))))
def f_law_odd : MF := mDef finD 3 m_law_odd
def d_law_is_name.N : List Str := ["_law_thing", "_law_letter"]
def m_law_is_name : MS := sSeq (sIf (mOr (mNot (mTest (mUn (fIsi (subV "str")) (mVar 0)))) (mNot (mTest (mChain fLe fLe (mC (.int 1)) (mCall fLenS (mCons (mVar 0) (mNil))) (mC (.int 8)))))) (sRet (mC (.bl false))) (sNx)) (sRet (mBin (fNeE false) (mLc (mStrI (mVar 0)) (gN 1) [1] (mTest (mBin (fIn true) (mVar 1) (mC (.str "abcdefghijklmnopqrstuvwxyz")))) (mVar 1) finL) (mCall fLst (mNil))))
def f_law_is_name : MF := mDef finD 2 m_law_is_name
def d_law_twice.N : List Str := ["_law_things", "_law_k", "_law_thing"]
def m_law_twice : MS := sRet (mSlice (mLc (mEnI (mVar 0)) (gT [gN 1, gN 2]) [1, 2] (mTest (mBin (fIn false) (mVar 2) (mSlice (mVar 0) none (some (mVar 1))))) (mVar 2) finL) none (some (mC (.int 1))))
def f_law_twice : MF := mDef finD 3 m_law_twice
def d_law_is_move.N : List Str := ["_law_thing"]
def m_law_is_move : MS := sRet (mVal (mAnd (mTest (mUn (fIsi (subV "tuple")) (mVar 0))) (mAnd (mTest (mBin fEq (mCall fLenS (mCons (mVar 0) (mNil))) (mC (.int 2)))) (mAnd (mTest (mCall (cut 1 f_law_is_name []) (mCons (mBin fIx (mVar 0) (mC (.int 0))) (mNil)))) (mTest (mCall (cut 1 f_law_is_name []) (mCons (mBin fIx (mVar 0) (mC (.int 1))) (mNil))))))))
def f_law_is_move : MF := mDef finD 1 m_law_is_move
def d_law_due_names.N : List Str := ["_law_names_here", "_law_most", "_law_name"]
def m_law_due_names : MS := sSeq (sFor (mSeqI (mVar 0)) (gN 2) (sIf (mNot (mTest (mCall (cut 1 f_law_is_name []) (mCons (mVar 2) (mNil))))) (sRet (mCall fTup (mCons (mC (.str "name")) (mCons (mVar 2) (mNil))))) (sNx))) (sSeq (sIf (mTest (mBin (fNeE true) (mCall (cut 1 f_law_twice []) (mCons (mVar 0) (mNil))) (mCall fLst (mNil)))) (sRet (mCall fTup (mCons (mC (.str "twice")) (mCons (mBin fIx (mCall (cut 1 f_law_twice []) (mCons (mVar 0) (mNil))) (mC (.int 0))) (mNil))))) (sNx)) (sRet (mIf (mTest (mBin fGt (mCall fLenS (mCons (mVar 0) (mNil))) (mVar 1))) (mCall fTup (mCons (mC (.str "many")) (mCons (mVar 1) (mNil)))) (mC .non))))
def f_law_due_names : MF := mDef finD 3 m_law_due_names
def d_law_due_moves.N : List Str := ["_law_moves", "_law_move", "_law_again"]
def m_law_due_moves : MS := sSeq (sFor (mSeqI (mVar 0)) (gN 1) (sIf (mNot (mTest (mCall (cut 1 f_law_is_move []) (mCons (mVar 1) (mNil))))) (sRet (mCall fTup (mCons (mC (.str "move")) (mCons (mVar 1) (mNil))))) (sNx))) (sSeq (sSet 2 (mCall (cut 1 f_law_twice []) (mCons (mLc (mSeqI (mVar 0)) (gN 1) [1] (tOk) (mBin fIx (mVar 1) (mC (.int 0))) finL) (mNil)))) (sSeq (sIf (mTest (mBin (fNeE true) (mVar 2) (mCall fLst (mNil)))) (sRet (mCall fTup (mCons (mC (.str "twice")) (mCons (mBin fIx (mVar 2) (mC (.int 0))) (mNil))))) (sNx)) (sRet (mIf (mTest (mBin fGt (mCall fLenS (mCons (mVar 0) (mNil))) (mC (.int 4)))) (mCall fTup (mCons (mC (.str "many")) (mCons (mC (.int 4)) (mNil)))) (mC .non)))))
def f_law_due_moves : MF := mDef finD 3 m_law_due_moves
def d_law_first.N : List Str := ["_law_errors", "_law_memo", "_law_error"]
def m_law_first : MS := sSeq (sFor (mSeqI (mVar 0)) (gN 2) (sIf (mTest (mBin fNotN2 (mVar 2) (mC .non))) (sRet (mVar 2)) (sNx))) (sRet (mIf (mOr (mTest (mBin fIsN2 (mVar 1) (mC .non))) (mTest (mUn (fIsi (subJ 100)) (mVar 1)))) (mC .non) (mCall fTup (mCons (mC (.str "note")) (mCons (mVar 1) (mNil))))))
def f_law_first : MF := mDef finD 3 m_law_first
def d_law_raised.N : List Str := ["_law_way", "_law_name", "_law_parts", "_law_cols", "_law_memo", "e"]
def m_law_raised : MS := sSeq (sTry (sIf (mTest (mBin fEq (mVar 0) (mC (.str "change")))) (sDrop (mCmK 103 5 2 2 [.inl 0, .inl 1, .inl 2, .inl 3] [] fChange_of (mCons (mVar 1) (mCons (mVar 2) (mNil))) (mCons (mVar 3) (mCons (mVar 4) (mNil))))) (sIf (mTest (mBin fEq (mVar 0) (mC (.str "end")))) (sDrop (mCmK 104 4 2 1 [.inl 0, .inl 1, .inl 2] [] fEnd_of (mCons (mVar 1) (mCons (mVar 2) (mNil))) (mCons (mVar 4) (mNil)))) (sIf (mTest (mBin fEq (mVar 0) (mC (.str "two")))) (sDrop (mMkV 103 1 2 fChange___init__ (mC (.cls 103)) (mCons (mVar 1) (mCons (mBin fIx (mVar 2) (mC (.int 0))) (mCons (mBin fIx (mVar 2) (mC (.int 1))) (mNil)))) (mCons (mVar 3) (mCons (mVar 4) (mNil))))) (sDrop (mMkK 102 4 2 1 [.inl 0, .inl 1, .inl 2] [] fMake___init__ (mCons (mVar 1) (mCons (mBin fIx (mVar 2) (mC (.int 0))) (mNil))) (mCons (mVar 4) (mNil))))))) [⟨xmO 0, 5, sRet (mIf (mAnd (mTest (mUn (fIsi (subB 0)) (mVar 5))) (mNot (mTest (mUn (fIsi (subAny [subO 2, subO 1, subO 3])) (mVar 5))))) (mCall fTup (mCons (mC (.str "name")) (mCons (mUn (fAtt FL "name") (mVar 5)) (mNil)))) (mCall fTup (mNil)))⟩, ⟨xmO 2, 5, sRet (mIf (mAnd (mTest (mUn (fIsi (subB 0)) (mVar 5))) (mNot (mTest (mUn (fIsi (subAny [subO 1, subO 3])) (mVar 5))))) (mCall fTup (mCons (mC (.str "move")) (mCons (mUn (fAtt FL "move") (mVar 5)) (mNil)))) (mCall fTup (mNil)))⟩, ⟨xmO 1, 5, sRet (mIf (mAnd (mTest (mUn (fIsi (subB 0)) (mVar 5))) (mNot (mTest (mUn (fIsi (subO 3)) (mVar 5))))) (mCall fTup (mCons (mC (.str "note")) (mCons (mUn (fAtt FL "note") (mVar 5)) (mNil)))) (mCall fTup (mNil)))⟩, ⟨xmO 3, 5, sRet (mIf (mAnd (mTest (mUn (fIsi (subB 0)) (mVar 5))) (mNot (mTest (mUn (fIsi (subB 3)) (mVar 5))))) (mCall fTup (mCons (mC (.str "twice")) (mCons (mUn (fAtt FL "name") (mVar 5)) (mNil)))) (mCall fTup (mNil)))⟩, ⟨xmO 6, 5, sRet (mIf (mAnd (mTest (mUn (fIsi (subB 3)) (mVar 5))) (mNot (mTest (mUn (fIsi (subB 0)) (mVar 5))))) (mCall fTup (mCons (mC (.str "many")) (mCons (mUn (fAtt FL "limit") (mVar 5)) (mNil)))) (mCall fTup (mNil)))⟩]) (sRet (mC .non))
def f_law_raised : MF := mDef finD 6 m_law_raised
def d_law_spoil.N : List Str := ["_law_bag_here", "_law_things", "_law_odd_here", "_law_at", "_law_found"]
def m_law_spoil : MS := sSeq (sIf (mTest (mBin (fNeE false) (mVar 1) (mCall fLst (mNil)))) (sRet (mVar 1)) (sNx)) (sSeq (sPar 3 4 (mCons (mCall (cut 2 f_law_take []) (mCons (mVar 0) (mCons (mCall fLenS (mCons (mVar 1) (mNil))) (mNil)))) (mCons (mCall fListC (mCons (mVar 1) (mNil))) (mNil)))) (sSeq (sSub (mIf (mTest (mBin fEq (mCall (cut 2 f_law_take []) (mCons (mVar 0) (mCons (mC (.int 2)) (mNil)))) (mC (.int 0)))) (mVar 2) (mBin fIx (mVar 1) (mCall (cut 2 f_law_take []) (mCons (mVar 0) (mCons (mCall fLenS (mCons (mVar 1) (mNil))) (mNil)))))) (mVar 4) (mVar 3)) (sRet (mVar 4))))
def f_law_spoil : MF := mDef finD 5 m_law_spoil
def d_law_drawn.N : List Str := ["_law_bag_here", "_law_states", "_law_name", "_law_moves", "_law_state", "_law_cols", "_law_ends", "_law_memo", "_law_turn", "_law_way", "_law_odd_here", "_law_wrong"]
def m_law_drawn : MS := sSeq (sAsg (mCall fTup (mCons (mCall (cut 3 f_law_names []) (mCons (mVar 0) (mCons (mC (.int 6)) (mCons (mCall fLst (mNil)) (mNil))))) (mCons (mBin fIx (mCall (cut 3 f_law_names []) (mCons (mVar 0) (mCons (mC (.int 1)) (mCons (mCall fLst (mNil)) (mNil))))) (mC (.int 0))) (mNil)))) (gT [gN 1, gN 2])) (sSeq (sSet 3 (mLc (mSeqI (mSlice (mVar 1) none (some (mCall (cut 2 f_law_take []) (mCons (mVar 0) (mCons (mC (.int 7)) (mNil))))))) (gN 4) [4] (tOk) (mCall fTup (mCons (mVar 4) (mCons (mCall (cut 2 f_law_of []) (mCons (mVar 0) (mCons (mVar 1) (mNil)))) (mNil)))) finL)) (sSeq (sPar 5 6 (mCons (mCall (cut 3 f_law_names []) (mCons (mVar 0) (mCons (mCall (cut 2 f_law_take []) (mCons (mVar 0) (mCons (mC (.int 5)) (mNil)))) (mCons (mCall fLst (mNil)) (mNil))))) (mCons (mSlice (mVar 1) none (some (mCall (cut 2 f_law_take []) (mCons (mVar 0) (mCons (mC (.int 7)) (mNil)))))) (mNil)))) (sSeq (sSet 7 (mCall (cut 2 f_law_of []) (mCons (mVar 0) (mCons (mCall fLst (mCons (mC .non) (mCons (mMkK 100 5 0 0 [.inr 0, .inr 1, .inr 2, .inr 3] [.tup [], .tup [], .bl true, .bl false] fNote___init__ mNil (mNil)) (mCons (mMkK 100 5 0 2 [.inl 0, .inr 0, .inr 1, .inl 1] [.tup [], .bl true] fNote___init__ mNil (mCons (mCall fLst (mCons (mC (.str "price")) (mNil))) (mCons (mC (.bl true)) (mNil)))) (mNil))))) (mNil))))) (sSeq (sFor (mRgI (mCons (mCall (cut 2 f_law_take []) (mCons (mVar 0) (mCons (mC (.int 4)) (mNil)))) (mNil))) (gN 8) (sSeq (sSet 9 (mCall (cut 2 f_law_take []) (mCons (mVar 0) (mCons (mC (.int 5)) (mNil))))) (sSeq (sSet 10 (mCall (cut 2 f_law_odd []) (mCons (mVar 0) (mCons (mBin fIx (mVar 1) (mC (.int 0))) (mNil))))) (sSeq (sIf (mTest (mBin fEq (mVar 9) (mC (.int 0)))) (sSet 2 (mVar 10)) (sNx)) (sSeq (sIf (mTest (mBin fEq (mVar 9) (mC (.int 1)))) (sSeq (sSet 11 (mCall fLst (mCons (mVar 10) (mCons (mCall fTup (mCons (mBin fIx (mVar 1) (mC (.int 0))) (mCons (mVar 10) (mNil)))) (mCons (mCall fTup (mCons (mVar 10) (mCons (mBin fIx (mVar 1) (mC (.int 1))) (mNil)))) (mCons (mCall fTup (mCons (mBin fIx (mVar 1) (mC (.int 0))) (mNil))) (mCons (mCall fTup (mCons (mC (.str "a")) (mCons (mC (.str "b")) (mCons (mC (.str "c")) (mNil))))) (mCons (mCall fLst (mCons (mC (.str "a")) (mCons (mC (.str "b")) (mNil)))) (mNil))))))))) (sSeq (sSet 11 (mCall (cut 2 f_law_of []) (mCons (mVar 0) (mCons (mVar 11) (mNil))))) (sSet 3 (mCall (cut 3 f_law_spoil []) (mCons (mVar 0) (mCons (mVar 3) (mCons (mIf (mNot (mTest (mCall (cut 1 f_law_is_move []) (mCons (mVar 11) (mNil))))) (mVar 11) (mC .non)) (mNil)))))))) (sNx)) (sSeq (sIf (mTest (mBin fEq (mVar 9) (mC (.int 2)))) (sSet 5 (mCall (cut 3 f_law_spoil []) (mCons (mVar 0) (mCons (mVar 5) (mCons (mVar 10) (mNil)))))) (sNx)) (sSeq (sIf (mTest (mBin fEq (mVar 9) (mC (.int 3)))) (sSet 6 (mCall (cut 3 f_law_spoil []) (mCons (mVar 0) (mCons (mVar 6) (mCons (mVar 10) (mNil)))))) (sNx)) (sIf (mTest (mBin fEq (mVar 9) (mC (.int 4)))) (sSet 7 (mCall (cut 2 f_law_of []) (mCons (mVar 0) (mCons (mCall fLst (mCons (mC (.int 0)) (mCons (mC (.bl false)) (mCons (mC (.str "named")) (mCons (mCall fTup (mNil)) (mCons (mCall fLst (mCons (mC .non) (mNil))) (mCons (mC (.dic [] [])) (mNil)))))))) (mNil))))) (sNx))))))))) (sRet (mCall fTup (mCons (mVar 2) (mCons (mVar 3) (mCons (mVar 5) (mCons (mVar 6) (mCons (mVar 7) (mNil))))))))))))
def f_law_drawn : MF := mDef finD 12 m_law_drawn
def dlaw.N : List Str := ["_law_script", "_law_at", "_law_bag_here", "_law_name", "_law_moves", "_law_cols", "_law_ends", "_law_memo", "_law_kept", "_law_own", "_law_due"]
def mlaw : MS := sSeq (sFor (mRgI (mCons (mCall fMax (mCons (mC (.int 1)) (mCons (mCall fMin (mCons (mC (.int 8)) (mCons (mCall fLenS (mCons (mVar 0) (mNil))) (mNil)))) (mNil)))) (mNil))) (gN 1) (sSeq (sSet 2 (mCall (cut 2 f_law_bag []) (mCons (mVar 0) (mCons (mVar 1) (mNil))))) (sSeq (sAsg (mCall (cut 1 f_law_drawn []) (mCons (mVar 2) (mNil))) (gT [gN 3, gN 4, gN 5, gN 6, gN 7])) (sSeq (sSet 8 (mCall fReprR (mCons (mCall fTup (mCons (mVar 3) (mCons (mVar 4) (mCons (mVar 5) (mCons (mVar 6) (mNil)))))) (mNil)))) (sSeq (sSet 9 (mIf (mTest (mCall (cut 1 f_law_is_name []) (mCons (mVar 3) (mNil)))) (mC .non) (mCall fTup (mCons (mC (.str "name")) (mCons (mVar 3) (mNil)))))) (sSeq (sSet 10 (mCall (cut 2 f_law_first []) (mCons (mCall fLst (mCons (mVar 9) (mCons (mCall (cut 1 f_law_due_moves []) (mCons (mVar 4) (mNil))) (mCons (mCall (cut 2 f_law_due_names []) (mCons (mVar 5) (mCons (mC (.int 3)) (mNil)))) (mNil))))) (mCons (mVar 7) (mNil))))) (sSeq (sIf (mTest (mBin fNe (mCall fReprR (mCons (mCall (cut 5 f_law_raised []) (mCons (mC (.str "change")) (mCons (mVar 3) (mCons (mVar 4) (mCons (mVar 5) (mCons (mVar 7) (mNil))))))) (mNil))) (mCall fReprR (mCons (mVar 10) (mNil))))) (sRet (mC (.bl false))) (sNx)) (sSeq (sIf (mAnd (mTest (mBin fEq (mCall fLenS (mCons (mVar 4) (mNil))) (mC (.int 2)))) (mTest (mBin fNe (mCall fReprR (mCons (mCall (cut 5 f_law_raised []) (mCons (mC (.str "two")) (mCons (mVar 3) (mCons (mVar 4) (mCons (mVar 5) (mCons (mVar 7) (mNil))))))) (mNil))) (mCall fReprR (mCons (mVar 10) (mNil)))))) (sRet (mC (.bl false))) (sNx)) (sSeq (sSet 10 (mCall (cut 2 f_law_first []) (mCons (mCall fLst (mCons (mVar 9) (mCons (mCall (cut 2 f_law_due_names []) (mCons (mVar 6) (mCons (mC (.int 4)) (mNil)))) (mNil)))) (mCons (mVar 7) (mNil))))) (sSeq (sIf (mTest (mBin fNe (mCall fReprR (mCons (mCall (cut 5 f_law_raised []) (mCons (mC (.str "end")) (mCons (mVar 3) (mCons (mVar 6) (mCons (mCall fLst (mNil)) (mCons (mVar 7) (mNil))))))) (mNil))) (mCall fReprR (mCons (mVar 10) (mNil))))) (sRet (mC (.bl false))) (sNx)) (sSeq (sIf (mTest (mBin (fNeE true) (mVar 6) (mCall fLst (mNil)))) (sSeq (sSet 10 (mCall (cut 2 f_law_first []) (mCons (mCall fLst (mCons (mVar 9) (mCons (mCall (cut 2 f_law_due_names []) (mCons (mSlice (mVar 6) none (some (mC (.int 1)))) (mCons (mC (.int 1)) (mNil)))) (mNil)))) (mCons (mVar 7) (mNil))))) (sIf (mTest (mBin fNe (mCall fReprR (mCons (mCall (cut 5 f_law_raised []) (mCons (mC (.str "make")) (mCons (mVar 3) (mCons (mVar 6) (mCons (mCall fLst (mNil)) (mCons (mVar 7) (mNil))))))) (mNil))) (mCall fReprR (mCons (mVar 10) (mNil))))) (sRet (mC (.bl false))) (sNx))) (sNx)) (sIf (mTest (mBin fNe (mCall fReprR (mCons (mCall fTup (mCons (mVar 3) (mCons (mVar 4) (mCons (mVar 5) (mCons (mVar 6) (mNil)))))) (mNil))) (mVar 8))) (sRet (mC (.bl false))) (sNx))))))))))))) (sRet (mC (.bl true)))
def flaw : MF := mDef finD 11 mlaw
def glos : List Str := (["BadName", "BadNote", "BadMove", "Twice", "NoColumn", "NotAllowed", "TooMany", "is_name", "check_name", "check_once", "check_names", "Note"] : List Str) ++ (["check_note", "Deed", "Make", "Change", "End", "_law_bag", "_law_take", "_law_of", "_law_names", "_law_odd", "_law_is_name", "_law_twice"] : List Str) ++ (["_law_is_move", "_law_due_names", "_law_due_moves", "_law_first", "_law_raised", "_law_spoil", "_law_drawn", "law"] : List Str)
/-- what the head tells -/
structure Kn (P : Program) (w : World) (K : PySem.W.Frag) (mg : Str → Option Value) (base : Heap) : Prop where
  gl : ∀ x, x ∈ glos → mg x = some (.ref (He.ga K x))
  free_OverflowError : mg "OverflowError" = none
  free_ValueError : mg "ValueError" = none
  free_abs : mg "abs" = none
  free_all : mg "all" = none
  free_classmethod : mg "classmethod" = none
  free_enumerate : mg "enumerate" = none
  free_int : mg "int" = none
  free_isinstance : mg "isinstance" = none
  free_len : mg "len" = none
  free_list : mg "list" = none
  free_max : mg "max" = none
  free_min : mg "min" = none
  free_range : mg "range" = none
  free_repr : mg "repr" = none
  free_sorted : mg "sorted" = none
  free_str : mg "str" = none
  free_super : mg "super" = none
  free_tuple : mg "tuple" = none
  int_MOST_LETTERS : ∃ t, mg "MOST_LETTERS" = some (.int 8 t)
  int_MOST_MOVES : ∃ t, mg "MOST_MOVES" = some (.int 4 t)
  int_MOST_COLUMNS : ∃ t, mg "MOST_COLUMNS" = some (.int 3 t)
  int_MOST_WORDS : ∃ t, mg "MOST_WORDS" = some (.int 4 t)
  str_LETTERS : ∃ t, mg "LETTERS" = some (.str "abcdefghijklmnopqrstuvwxyz" t)
  nd : ∀ k, ((cc K).fl k).Nodup
  xm : ∀ j, j < 7 → ∀ k b, xmO j k = some b → PySem.W.exmOne K (.ref (He.ga K (CN k))) (.ref (He.ga K (CN j))) = some b
  si : ∀ j, j < 5 → ∀ t b, subI (j + 100) t = some b → t.ok (cc K) ∧ PySem.W.kitOne K (t.v (cc K)) (.ref (He.ga K (CN (j + 100)))) = some b
  ia100 : InsA K (He.ga K "Note")
  mkr100 : Mk K (He.ga K "Note") (He.ma K (He.ga K "Note") "__init__")
  ia101 : InsA K (He.ga K "Deed")
  mkr101 : Mk K (He.ga K "Deed") (He.ma K (He.ga K "Deed") "__init__")
  ia102 : InsA K (He.ga K "Make")
  mkr102 : Mk K (He.ga K "Make") (He.ma K (He.ga K "Make") "__init__")
  ia103 : InsA K (He.ga K "Change")
  mkr103 : Mk K (He.ga K "Change") (He.ma K (He.ga K "Change") "__init__")
  ia104 : InsA K (He.ga K "End")
  mkr104 : Mk K (He.ga K "End") (He.ma K (He.ga K "End") "__init__")
  sn : ∀ j, j < 5 → ∀ n, basic.contains n = true → PySem.W.kitOne K (.type n) (.ref (He.ga K (CN (j + 100)))) = some false
  cmChange_of : cmB K (He.ga K "Change") "of" = true
  cmEnd_of : cmB K (He.ga K "End") "of" = true
  su102 : SupK P K mg (He.ga K "Make") "__init__" (He.ma K (He.ga K "Deed") "__init__")
  su103 : SupK P K mg (He.ga K "Change") "__init__" (He.ma K (He.ga K "Deed") "__init__")
  su104 : SupK P K mg (He.ga K "End") "__init__" (He.ma K (He.ga K "Deed") "__init__")
  em_Note___init___old : emptB K (kwAt ("Note", some "__init__") "old" K) = true
  em_Note___init___new : emptB K (kwAt ("Note", some "__init__") "new" K) = true
  em_Change___init___columns : emptB K (kwAt ("Change", some "__init__") "columns" K) = true
  em_Change_of_columns : emptB K (kwAtC "Change" "of" "columns" K) = true
  sy : SysIn K
  ea : ∀ k, k < 7 → ErrA K (He.ga K (CN k))
  rc : RcOk (cc K)
  kc : ∀ k, k < 7 → PySem.W.keepIn K (.ref (He.ga K (CN k))) = true
  e0 : ∀ k, k < 7 → FL k = [] → PySem.W.excIn K (He.ga K (CN k)) (bmOf (bases.getD k 9)) (nidOf (bases.getD k 9)) = true
  so : ∀ j, j < 7 → ∀ t b, subO j t = some b → t.ok (cc K) ∧ PySem.W.kitOne K (t.v (cc K)) (.ref (He.ga K (CN j))) = some b
  sb : ∀ j, j < 4 → ∀ t b, subB j t = some b → t.ok (cc K) ∧ PySem.W.kitOne K (t.v (cc K)) (.type (bnOf j)) = some b
  mk0 : ErrM P w K mg base (cc K) 1 0 1
  mk1 : ErrM P w K mg base (cc K) 1 1 1
  mk2 : ErrM P w K mg base (cc K) 1 2 1
  mk3 : ErrM P w K mg base (cc K) 1 3 1
  mk4 : ErrM P w K mg base (cc K) 1 4 1
  mk5 : ErrM P w K mg base (cc K) 1 5 2
  mk6 : ErrM P w K mg base (cc K) 1 6 1
  fnis_name : ∃ fd, FunD K "is_name" "is_name" (defArgs (top 12)) (defBody (top 12)) (defScope (top 12)) [] [] (He.ga K "is_name") fd
  fncheck_name : ∃ fd, FunD K "check_name" "check_name" (defArgs (top 13)) (defBody (top 13)) (defScope (top 13)) [] [] (He.ga K "check_name") fd
  fncheck_once : ∃ fd, FunD K "check_once" "check_once" (defArgs (top 14)) (defBody (top 14)) (defScope (top 14)) [] [] (He.ga K "check_once") fd
  fncheck_names : ∃ fd, FunD K "check_names" "check_names" (defArgs (top 15)) (defBody (top 15)) (defScope (top 15)) [] [] (He.ga K "check_names") fd
  fnNote___init__ : ∃ fd, FunD K "__init__" "Note.__init__" (defArgs (met (top 18) 0)) (defBody (met (top 18) 0)) (defScope (met (top 18) 0)) [] [("old", .ref (kwAt ("Note", some "__init__") "old" K)), ("new", .ref (kwAt ("Note", some "__init__") "new" K)), ("named", .bl true), ("changed", .bl false)] (He.ma K (He.ga K "Note") "__init__") fd
  fncheck_note : ∃ fd, FunD K "check_note" "check_note" (defArgs (top 23)) (defBody (top 23)) (defScope (top 23)) [] [] (He.ga K "check_note") fd
  fnDeed___init__ : ∃ fd, FunD K "__init__" "Deed.__init__" (defArgs (met (top 24) 1)) (defBody (met (top 24) 1)) (defScope (met (top 24) 1)) [] [] (He.ma K (He.ga K "Deed") "__init__") fd
  fnMake___init__ : ∃ fd cda ccl, FunS P K "__init__" "Make.__init__" (defArgs (met (top 25) 1)) (defBody (met (top 25) 1)) (defScope (met (top 25) 1)) [] [("note", .non)] (He.ma K (He.ga K "Make") "__init__") fd cda ccl (He.ga K "Make")
  fnChange___init__ : ∃ fd cda ccl, FunS P K "__init__" "Change.__init__" (defArgs (met (top 26) 1)) (defBody (met (top 26) 1)) (defScope (met (top 26) 1)) [] [("columns", .ref (kwAt ("Change", some "__init__") "columns" K)), ("note", .non)] (He.ma K (He.ga K "Change") "__init__") fd cda ccl (He.ga K "Change")
  fnChange_of : ∃ fd, FunD K "of" "Change.of" (defArgs (met (top 26) 2)) (defBody (met (top 26) 2)) (defScope (met (top 26) 2)) [] [("columns", .ref (kwAtC "Change" "of" "columns" K)), ("note", .non)] (cmA K (He.ga K "Change") "of") fd
  fnEnd___init__ : ∃ fd cda ccl, FunS P K "__init__" "End.__init__" (defArgs (met (top 27) 1)) (defBody (met (top 27) 1)) (defScope (met (top 27) 1)) [] [("note", .non)] (He.ma K (He.ga K "End") "__init__") fd cda ccl (He.ga K "End")
  fnEnd_of : ∃ fd, FunD K "of" "End.of" (defArgs (met (top 27) 2)) (defBody (met (top 27) 2)) (defScope (met (top 27) 2)) [] [("note", .non)] (cmA K (He.ga K "End") "of") fd
  fn_law_bag : ∃ fd, FunD K "_law_bag" "_law_bag" (defArgs (top 29)) (defBody (top 29)) (defScope (top 29)) [] [] (He.ga K "_law_bag") fd
  fn_law_take : ∃ fd, FunD K "_law_take" "_law_take" (defArgs (top 30)) (defBody (top 30)) (defScope (top 30)) [] [] (He.ga K "_law_take") fd
  fn_law_of : ∃ fd, FunD K "_law_of" "_law_of" (defArgs (top 31)) (defBody (top 31)) (defScope (top 31)) [] [] (He.ga K "_law_of") fd
  fn_law_names : ∃ fd, FunD K "_law_names" "_law_names" (defArgs (top 32)) (defBody (top 32)) (defScope (top 32)) [] [] (He.ga K "_law_names") fd
  fn_law_odd : ∃ fd, FunD K "_law_odd" "_law_odd" (defArgs (top 33)) (defBody (top 33)) (defScope (top 33)) [] [] (He.ga K "_law_odd") fd
  fn_law_is_name : ∃ fd, FunD K "_law_is_name" "_law_is_name" (defArgs (top 34)) (defBody (top 34)) (defScope (top 34)) [] [] (He.ga K "_law_is_name") fd
  fn_law_twice : ∃ fd, FunD K "_law_twice" "_law_twice" (defArgs (top 35)) (defBody (top 35)) (defScope (top 35)) [] [] (He.ga K "_law_twice") fd
  fn_law_is_move : ∃ fd, FunD K "_law_is_move" "_law_is_move" (defArgs (top 36)) (defBody (top 36)) (defScope (top 36)) [] [] (He.ga K "_law_is_move") fd
  fn_law_due_names : ∃ fd, FunD K "_law_due_names" "_law_due_names" (defArgs (top 37)) (defBody (top 37)) (defScope (top 37)) [] [] (He.ga K "_law_due_names") fd
  fn_law_due_moves : ∃ fd, FunD K "_law_due_moves" "_law_due_moves" (defArgs (top 38)) (defBody (top 38)) (defScope (top 38)) [] [] (He.ga K "_law_due_moves") fd
  fn_law_first : ∃ fd, FunD K "_law_first" "_law_first" (defArgs (top 39)) (defBody (top 39)) (defScope (top 39)) [] [] (He.ga K "_law_first") fd
  fn_law_raised : ∃ fd, FunD K "_law_raised" "_law_raised" (defArgs (top 40)) (defBody (top 40)) (defScope (top 40)) [] [] (He.ga K "_law_raised") fd
  fn_law_spoil : ∃ fd, FunD K "_law_spoil" "_law_spoil" (defArgs (top 41)) (defBody (top 41)) (defScope (top 41)) [] [] (He.ga K "_law_spoil") fd
  fn_law_drawn : ∃ fd, FunD K "_law_drawn" "_law_drawn" (defArgs (top 42)) (defBody (top 42)) (defScope (top 42)) [] [] (He.ga K "_law_drawn") fd
  fnlaw : ∃ fd, FunD K "law" "law" (defArgs (top 43)) (defBody (top 43)) (defScope (top 43)) [] [] (He.ga K "law") fd
section
variable {P : Program} {w : World} {K : PySem.W.Frag} {mg : Str → Option Value} {base : Heap}
theorem wis_name (Y : Kn P w K mg base) {fd : FuncData} (F : FunD K "is_name" "is_name" (defArgs (top 12)) (defBody (top 12)) (defScope (top 12)) [] [] (He.ga K "is_name") fd) : FnG P w K mg base 1 (He.ga K "is_name") fd ["thing"] (spM (cc K) 1 fis_name) := by
  have S : FnScope dis_name.N ["thing"] (defScope (top 12)) := C8.fnScope_by (by decide +kernel)
  refine def_ok (c := cc K) (k := 0) (N := dis_name.N) (fin := finD) (m := mis_name) rfl rfl F S fin_keep (fun cdv A outer s H E cf => ?_)
  have tk : Takes (cxOf (L2.CX P w) P w K mg base dis_name.N "is_name" (defScope (top 12)) (He.ga K "is_name") cdv A outer s H E) (fun cls d _ H => E cls d H) := takes_of rfl rfl rfl rfl
  have hp : PassesOwn (model P w) (cxOf (L2.CX P w) P w K mg base dis_name.N "is_name" (defScope (top 12)) (He.ga K "is_name") cdv A outer s H E).A (cxOf (L2.CX P w) P w K mg base dis_name.N "is_name" (defScope (top 12)) (He.ga K "is_name") cdv A outer s H E).env (cxOf (L2.CX P w) P w K mg base dis_name.N "is_name" (defScope (top 12)) (He.ga K "is_name") cdv A outer s H E).xe := passes_of rfl
  show CSs _ _ _ _ mis_name
  unfold mis_name
  exact (cs_cons (cs_if (ct_bool (cw_or (ct_not (ct_val (ce_isi cf.q (ClsV.ty "str") (subV_ok (T := "str") (by decide)) (ce_v (i := 0)) (pe_bltn rfl Y.free_str PyProof.Rows.boot_str rfl) Y.free_isinstance))) (cw_or1 (ct_not (ct_chain or_le od_le pure_le or_le od_le ce_int (ce_callB (cr_len cf) cl_len rfl Y.free_len boot_len (ca_cons (ce_v (i := 0)) ca_nil)) (ce_gI (i := 8) rfl Y.int_MOST_LETTERS)))))) (cs_one (cs_ret ce_bl)) cs_nil) (cs_one (cs_ret (ce_callB (cr_allD cf) cl_all rfl Y.free_all PyProof.Rows.boot_all (ca_cons (ce_lc (own := [("letter", 1)]) cf S.nd finL_ok (ci_str (ce_v (i := 0))) (blk_by (by show blkB dis_name.N (defScope (top 12)) _ _ = true; decide +kernel)) (by decide) (fun _ _ _ _ _ => (cg_name (i := 1) S.nd)) (fun _ _ _ _ _ => cts_nil) (fun _ _ _ _ _ => (ce_cmp (or_in cf.blk) (od_in false) (ce_v (i := 1)) (ce_gS (z := "abcdefghijklmnopqrstuvwxyz") rfl Y.str_LETTERS)))) ca_nil)))))
theorem Cis_name (Y : Kn P w K mg base) : Cal P w K mg base (cc K) 1 "is_name" 1 fis_name := by
  obtain ⟨fd, F⟩ := Y.fnis_name
  exact ⟨_, fd, ["thing"], Y.gl "is_name" (by decide +kernel), F.kp, F.bindsN (fun _ _ _ _ _ _ us hl => match us, hl with | [_], _ => rfl), wis_name Y F⟩
theorem wcheck_name (Y : Kn P w K mg base) {fd : FuncData} (F : FunD K "check_name" "check_name" (defArgs (top 13)) (defBody (top 13)) (defScope (top 13)) [] [] (He.ga K "check_name") fd) : FnG P w K mg base 3 (He.ga K "check_name") fd ["thing"] (spM (cc K) 1 fcheck_name) := by
  have S : FnScope dcheck_name.N ["thing"] (defScope (top 13)) := C8.fnScope_by (by decide +kernel)
  refine def_ok (c := cc K) (k := 2) (N := dcheck_name.N) (fin := finD) (m := mcheck_name) rfl rfl F S fin_keep (fun cdv A outer s H E cf => ?_)
  have tk : Takes (cxOf (L2.CX P w) P w K mg base dcheck_name.N "check_name" (defScope (top 13)) (He.ga K "check_name") cdv A outer s H E) (fun cls d _ H => E cls d H) := takes_of rfl rfl rfl rfl
  have hp : PassesOwn (model P w) (cxOf (L2.CX P w) P w K mg base dcheck_name.N "check_name" (defScope (top 13)) (He.ga K "check_name") cdv A outer s H E).A (cxOf (L2.CX P w) P w K mg base dcheck_name.N "check_name" (defScope (top 13)) (He.ga K "check_name") cdv A outer s H E).env (cxOf (L2.CX P w) P w K mg base dcheck_name.N "check_name" (defScope (top 13)) (He.ga K "check_name") cdv A outer s H E).xe := passes_of rfl
  show CSs _ _ _ _ mcheck_name
  unfold mcheck_name
  exact (cs_one (cs_if (ct_not (ct_val (ce_cal cf tk (Cis_name Y) (by decide) (ca_cons (ce_v (i := 0)) ca_nil)))) (cs_one (cs_raise (j := 1) (cf.mono (by decide)) tk Y.mk0 (Y.gl "BadName" (by decide +kernel)) (ca_cons (ce_v (i := 0)) ca_nil))) cs_nil))
theorem Ccheck_name (Y : Kn P w K mg base) : Cal P w K mg base (cc K) 3 "check_name" 1 fcheck_name := by
  obtain ⟨fd, F⟩ := Y.fncheck_name
  exact ⟨_, fd, ["thing"], Y.gl "check_name" (by decide +kernel), F.kp, F.bindsN (fun _ _ _ _ _ _ us hl => match us, hl with | [_], _ => rfl), wcheck_name Y F⟩
theorem wcheck_once (Y : Kn P w K mg base) {fd : FuncData} (F : FunD K "check_once" "check_once" (defArgs (top 14)) (defBody (top 14)) (defScope (top 14)) [] [] (He.ga K "check_once") fd) : FnG P w K mg base 3 (He.ga K "check_once") fd ["names"] (spM (cc K) 1 fcheck_once) := by
  have S : FnScope dcheck_once.N ["names"] (defScope (top 14)) := C8.fnScope_by (by decide +kernel)
  refine def_ok (c := cc K) (k := 2) (N := dcheck_once.N) (fin := finD) (m := mcheck_once) rfl rfl F S fin_keep (fun cdv A outer s H E cf => ?_)
  have tk : Takes (cxOf (L2.CX P w) P w K mg base dcheck_once.N "check_once" (defScope (top 14)) (He.ga K "check_once") cdv A outer s H E) (fun cls d _ H => E cls d H) := takes_of rfl rfl rfl rfl
  have hp : PassesOwn (model P w) (cxOf (L2.CX P w) P w K mg base dcheck_once.N "check_once" (defScope (top 14)) (He.ga K "check_once") cdv A outer s H E).A (cxOf (L2.CX P w) P w K mg base dcheck_once.N "check_once" (defScope (top 14)) (He.ga K "check_once") cdv A outer s H E).env (cxOf (L2.CX P w) P w K mg base dcheck_once.N "check_once" (defScope (top 14)) (He.ga K "check_once") cdv A outer s H E).xe := passes_of rfl
  show CSs _ _ _ _ mcheck_once
  unfold mcheck_once
  exact (cs_one (cs_for cf hp (ci_enumS cf (ce_v (i := 0)) Y.free_enumerate) (cg_tup cf.kk cf.calm (cgs_cons (cg_name (i := 1) S.nd) (cgs_cons (cg_name (i := 2) S.nd) cgs_nil))) (cs_one (cs_if (ct_cmp (or_in cf) (od_in false) (ce_v (i := 2)) (ce_slice cf (ce_v (i := 0)) co_none (co_some (ce_v (i := 1))))) (cs_one (cs_raise (j := 1) (cf.mono (by decide)) tk Y.mk3 (Y.gl "Twice" (by decide +kernel)) (ca_cons (ce_v (i := 2)) ca_nil))) cs_nil))))
theorem Ccheck_once (Y : Kn P w K mg base) : Cal P w K mg base (cc K) 3 "check_once" 1 fcheck_once := by
  obtain ⟨fd, F⟩ := Y.fncheck_once
  exact ⟨_, fd, ["names"], Y.gl "check_once" (by decide +kernel), F.kp, F.bindsN (fun _ _ _ _ _ _ us hl => match us, hl with | [_], _ => rfl), wcheck_once Y F⟩
theorem wcheck_names (Y : Kn P w K mg base) {fd : FuncData} (F : FunD K "check_names" "check_names" (defArgs (top 15)) (defBody (top 15)) (defScope (top 15)) [] [] (He.ga K "check_names") fd) : FnG P w K mg base 4 (He.ga K "check_names") fd ["things", "most"] (spM (cc K) 2 fcheck_names) := by
  have S : FnScope dcheck_names.N ["things", "most"] (defScope (top 15)) := C8.fnScope_by (by decide +kernel)
  refine def_ok (c := cc K) (k := 3) (N := dcheck_names.N) (fin := finD) (m := mcheck_names) rfl rfl F S fin_keep (fun cdv A outer s H E cf => ?_)
  have tk : Takes (cxOf (L2.CX P w) P w K mg base dcheck_names.N "check_names" (defScope (top 15)) (He.ga K "check_names") cdv A outer s H E) (fun cls d _ H => E cls d H) := takes_of rfl rfl rfl rfl
  have hp : PassesOwn (model P w) (cxOf (L2.CX P w) P w K mg base dcheck_names.N "check_names" (defScope (top 15)) (He.ga K "check_names") cdv A outer s H E).A (cxOf (L2.CX P w) P w K mg base dcheck_names.N "check_names" (defScope (top 15)) (He.ga K "check_names") cdv A outer s H E).env (cxOf (L2.CX P w) P w K mg base dcheck_names.N "check_names" (defScope (top 15)) (He.ga K "check_names") cdv A outer s H E).xe := passes_of rfl
  show CSs _ _ _ _ mcheck_names
  unfold mcheck_names
  exact (cs_cons (cs_for cf hp (ci_sq cf (ce_v (i := 0))) (cg_name (i := 2) S.nd) (cs_one (cs_expr (ce_cal cf tk (Ccheck_name Y) (by decide) (ca_cons (ce_v (i := 2)) ca_nil))))) (cs_cons (cs_expr (ce_cal cf tk (Ccheck_once Y) (by decide) (ca_cons (ce_v (i := 0)) ca_nil))) (cs_cons (cs_if (ct_cmp op_gt od_gt (ce_callB (cr_len cf) cl_len rfl Y.free_len boot_len (ca_cons (ce_v (i := 0)) ca_nil)) (ce_v (i := 1))) (cs_one (cs_raise (j := 1) (cf.mono (by decide)) tk Y.mk6 (Y.gl "TooMany" (by decide +kernel)) (ca_cons (ce_v (i := 1)) ca_nil))) cs_nil) (cs_one (cs_ret (ce_callTy (cr_tupleD cf) cl_tuple rfl Y.free_tuple PyProof.Rows.boot_tuple (ca_cons (ce_callB (cr_sortQ cf) cl_sortQ rfl Y.free_sorted PyProof.Rows.boot_sorted (ca_cons (ce_v (i := 0)) ca_nil)) ca_nil)))))))
theorem Ccheck_names (Y : Kn P w K mg base) : Cal P w K mg base (cc K) 4 "check_names" 2 fcheck_names := by
  obtain ⟨fd, F⟩ := Y.fncheck_names
  exact ⟨_, fd, ["things", "most"], Y.gl "check_names" (by decide +kernel), F.kp, F.bindsN (fun _ _ _ _ _ _ us hl => match us, hl with | [_, _], _ => rfl), wcheck_names Y F⟩
theorem wNote___init__ (Y : Kn P w K mg base) {fd : FuncData} (F : FunD K "__init__" "Note.__init__" (defArgs (met (top 18) 0)) (defBody (met (top 18) 0)) (defScope (met (top 18) 0)) [] [("old", .ref (kwAt ("Note", some "__init__") "old" K)), ("new", .ref (kwAt ("Note", some "__init__") "new" K)), ("named", .bl true), ("changed", .bl false)] (He.ma K (He.ga K "Note") "__init__") fd) : FnG P w K mg base 5 (He.ma K (He.ga K "Note") "__init__") fd ["self", "old", "new", "named", "changed"] (spM (cc K) 5 fNote___init__) := by
  have S : FnScope dNote___init__.N ["self", "old", "new", "named", "changed"] (defScope (met (top 18) 0)) := C8.fnScope_by (by decide +kernel)
  refine def_ok (c := cc K) (k := 4) (N := dNote___init__.N) (fin := finD) (m := mNote___init__) rfl rfl F S fin_keep (fun cdv A outer s H E cf => ?_)
  have tk : Takes (cxOf (L2.CX P w) P w K mg base dNote___init__.N "Note.__init__" (defScope (met (top 18) 0)) (He.ma K (He.ga K "Note") "__init__") cdv A outer s H E) (fun cls d _ H => E cls d H) := takes_of rfl rfl rfl rfl
  have hp : PassesOwn (model P w) (cxOf (L2.CX P w) P w K mg base dNote___init__.N "Note.__init__" (defScope (met (top 18) 0)) (He.ma K (He.ga K "Note") "__init__") cdv A outer s H E).A (cxOf (L2.CX P w) P w K mg base dNote___init__.N "Note.__init__" (defScope (met (top 18) 0)) (He.ma K (He.ga K "Note") "__init__") cdv A outer s H E).env (cxOf (L2.CX P w) P w K mg base dNote___init__.N "Note.__init__" (defScope (met (top 18) 0)) (He.ma K (He.ga K "Note") "__init__") cdv A outer s H E).xe := passes_of rfl
  show CSs _ _ _ _ mNote___init__
  unfold mNote___init__
  exact (cs_cons (cs_attr cf Y.rc Y.nd rfl (ce_v (i := 0)) (ce_cal cf tk (Ccheck_names Y) (by decide) (ca_cons (ce_v (i := 1)) (ca_cons (ce_gI (i := 4) rfl Y.int_MOST_WORDS) ca_nil)))) (cs_cons (cs_attr cf Y.rc Y.nd rfl (ce_v (i := 0)) (ce_cal cf tk (Ccheck_names Y) (by decide) (ca_cons (ce_v (i := 2)) (ca_cons (ce_gI (i := 4) rfl Y.int_MOST_WORDS) ca_nil)))) (cs_cons (cs_attr cf Y.rc Y.nd rfl (ce_v (i := 0)) (ce_v (i := 3))) (cs_one (cs_attr cf Y.rc Y.nd rfl (ce_v (i := 0)) (ce_v (i := 4)))))))
theorem MI100_none (Y : Kn P w K mg base) : MkM P w K mg base (cc K) 5 100 5 0 [] [.inr 0, .inr 1, .inr 2, .inr 3] [.tup [], .tup [], .bl true, .bl false] fNote___init__ := by
  obtain ⟨fd, F⟩ := Y.fnNote___init__
  obtain ⟨mv, hb⟩ := F.kbinds0 (ps := ["self", "old", "new", "named", "changed"]) 1 [] [("old", .ref (kwAt ("Note", some "__init__") "old" K)), ("new", .ref (kwAt ("Note", some "__init__") "new" K)), ("named", .bl true), ("changed", .bl false)] (fun us mv ws => gC [.inr 0, .inr 1, .inr 2, .inr 3] us mv ws) (by simp) (fun q h => by
    simp only [List.mem_cons, List.not_mem_nil, or_false] at h ⊢
    rcases h with rfl | rfl | rfl | rfl <;> simp) vals_gC (fun D doc pm an cdv ct us mv ws h1 h2 h3 => match us, mv, ws, h1, h2, h3 with | [_], [_, _, _, _], [], _, _, _ => ⟨_, _, _, _, _, _, rfl, rfl, ⟨_, _, _, _, _, _, rfl, rfl, ⟨_, _, _, _, _, _, rfl, rfl, ⟨_, _, _, _, _, _, rfl, rfl, rfl⟩⟩⟩⟩)
  exact ⟨_, fd, _, _, mv, Y.mkr100, wNote___init__ Y F, hb, fun _ => (RepL.cons (empt_rep Y.em_Note___init___old) (RepL.cons (empt_rep Y.em_Note___init___new) (RepL.cons Rep.bl (RepL.cons Rep.bl RepL.nil))))⟩
theorem MI100_old_changed (Y : Kn P w K mg base) : MkM P w K mg base (cc K) 5 100 5 0 ["old", "changed"] [.inl 0, .inr 0, .inr 1, .inl 1] [.tup [], .bl true] fNote___init__ := by
  obtain ⟨fd, F⟩ := Y.fnNote___init__
  obtain ⟨mv, hb⟩ := F.kbinds0 (ps := ["self", "old", "new", "named", "changed"]) 1 ["old", "changed"] [("new", .ref (kwAt ("Note", some "__init__") "new" K)), ("named", .bl true)] (fun us mv ws => gC [.inl 0, .inr 0, .inr 1, .inl 1] us mv ws) (by simp) (fun q h => by
    simp only [List.mem_cons, List.not_mem_nil, or_false] at h ⊢
    rcases h with rfl | rfl <;> simp) vals_gC (fun D doc pm an cdv ct us mv ws h1 h2 h3 => match us, mv, ws, h1, h2, h3 with | [_], [_, _], [_, _], _, _, _ => ⟨_, _, _, _, _, _, rfl, rfl, ⟨_, _, _, _, _, _, rfl, rfl, rfl⟩⟩)
  exact ⟨_, fd, _, _, mv, Y.mkr100, wNote___init__ Y F, hb, fun _ => (RepL.cons (empt_rep Y.em_Note___init___new) (RepL.cons Rep.bl RepL.nil))⟩
theorem wcheck_note (Y : Kn P w K mg base) {fd : FuncData} (F : FunD K "check_note" "check_note" (defArgs (top 23)) (defBody (top 23)) (defScope (top 23)) [] [] (He.ga K "check_note") fd) : FnG P w K mg base 3 (He.ga K "check_note") fd ["note"] (spM (cc K) 1 fcheck_note) := by
  have S : FnScope dcheck_note.N ["note"] (defScope (top 23)) := C8.fnScope_by (by decide +kernel)
  refine def_ok (c := cc K) (k := 2) (N := dcheck_note.N) (fin := finD) (m := mcheck_note) rfl rfl F S fin_keep (fun cdv A outer s H E cf => ?_)
  have tk : Takes (cxOf (L2.CX P w) P w K mg base dcheck_note.N "check_note" (defScope (top 23)) (He.ga K "check_note") cdv A outer s H E) (fun cls d _ H => E cls d H) := takes_of rfl rfl rfl rfl
  have hp : PassesOwn (model P w) (cxOf (L2.CX P w) P w K mg base dcheck_note.N "check_note" (defScope (top 23)) (He.ga K "check_note") cdv A outer s H E).A (cxOf (L2.CX P w) P w K mg base dcheck_note.N "check_note" (defScope (top 23)) (He.ga K "check_note") cdv A outer s H E).env (cxOf (L2.CX P w) P w K mg base dcheck_note.N "check_note" (defScope (top 23)) (He.ga K "check_note") cdv A outer s H E).xe := passes_of rfl
  show CSs _ _ _ _ mcheck_note
  unfold mcheck_note
  exact (cs_one (cs_if (ct_bool (cw_and (ct_cmp op_notN od_notN (ce_v (i := 0)) ce_non) (cw_and1 (ct_not (ct_val (ce_isi cf.q (ClsV.own _) (subJ_ok (fun t b h => Y.si 0 (by decide) t b (by cases t <;> exact h)) (Y.sn 0 (by decide))) (ce_v (i := 0)) (pe_glob rfl (Y.gl "Note" (by decide +kernel)) rfl) Y.free_isinstance)))))) (cs_one (cs_raise (j := 1) (cf.mono (by decide)) tk Y.mk1 (Y.gl "BadNote" (by decide +kernel)) (ca_cons (ce_v (i := 0)) ca_nil))) cs_nil))
theorem Ccheck_note (Y : Kn P w K mg base) : Cal P w K mg base (cc K) 3 "check_note" 1 fcheck_note := by
  obtain ⟨fd, F⟩ := Y.fncheck_note
  exact ⟨_, fd, ["note"], Y.gl "check_note" (by decide +kernel), F.kp, F.bindsN (fun _ _ _ _ _ _ us hl => match us, hl with | [_], _ => rfl), wcheck_note Y F⟩
theorem wDeed___init__ (Y : Kn P w K mg base) {fd : FuncData} (F : FunD K "__init__" "Deed.__init__" (defArgs (met (top 24) 1)) (defBody (met (top 24) 1)) (defScope (met (top 24) 1)) [] [] (He.ma K (He.ga K "Deed") "__init__") fd) : FnG P w K mg base 4 (He.ma K (He.ga K "Deed") "__init__") fd ["self", "name", "moves", "columns", "note"] (spM (cc K) 5 fDeed___init__) := by
  have S : FnScope dDeed___init__.N ["self", "name", "moves", "columns", "note"] (defScope (met (top 24) 1)) := C8.fnScope_by (by decide +kernel)
  refine def_ok (c := cc K) (k := 3) (N := dDeed___init__.N) (fin := finD) (m := mDeed___init__) rfl rfl F S fin_keep (fun cdv A outer s H E cf => ?_)
  have tk : Takes (cxOf (L2.CX P w) P w K mg base dDeed___init__.N "Deed.__init__" (defScope (met (top 24) 1)) (He.ma K (He.ga K "Deed") "__init__") cdv A outer s H E) (fun cls d _ H => E cls d H) := takes_of rfl rfl rfl rfl
  have hp : PassesOwn (model P w) (cxOf (L2.CX P w) P w K mg base dDeed___init__.N "Deed.__init__" (defScope (met (top 24) 1)) (He.ma K (He.ga K "Deed") "__init__") cdv A outer s H E).A (cxOf (L2.CX P w) P w K mg base dDeed___init__.N "Deed.__init__" (defScope (met (top 24) 1)) (He.ma K (He.ga K "Deed") "__init__") cdv A outer s H E).env (cxOf (L2.CX P w) P w K mg base dDeed___init__.N "Deed.__init__" (defScope (met (top 24) 1)) (He.ma K (He.ga K "Deed") "__init__") cdv A outer s H E).xe := passes_of rfl
  show CSs _ _ _ _ mDeed___init__
  unfold mDeed___init__
  exact (cs_cons (cs_expr (ce_cal cf tk (Ccheck_note Y) (by decide) (ca_cons (ce_v (i := 4)) ca_nil))) (cs_cons (cs_attr cf Y.rc Y.nd rfl (ce_v (i := 0)) (ce_v (i := 1))) (cs_cons (cs_attr cf Y.rc Y.nd rfl (ce_v (i := 0)) (ce_callTy (cr_tupleD cf) cl_tuple rfl Y.free_tuple PyProof.Rows.boot_tuple (ca_cons (ce_callB (cr_sortP cf) cl_sortP rfl Y.free_sorted PyProof.Rows.boot_sorted (ca_cons (ce_v (i := 2)) ca_nil)) ca_nil))) (cs_cons (cs_attr cf Y.rc Y.nd rfl (ce_v (i := 0)) (ce_v (i := 3))) (cs_one (cs_attr cf Y.rc Y.nd rfl (ce_v (i := 0)) (ce_v (i := 4))))))))
theorem wMake___init__ (Y : Kn P w K mg base) {fd : FuncData} {cda ccl : Addr} (F : FunS P K "__init__" "Make.__init__" (defArgs (met (top 25) 1)) (defBody (met (top 25) 1)) (defScope (met (top 25) 1)) [] [("note", .non)] (He.ma K (He.ga K "Make") "__init__") fd cda ccl (He.ga K "Make")) : FnG P w K mg base 6 (He.ma K (He.ga K "Make") "__init__") fd ["self", "name", "state", "note"] (spM (cc K) 4 fMake___init__) := by
  have S : FnScopeS dMake___init__.N ["self", "name", "state", "note"] (defScope (met (top 25) 1)) := ⟨rfl, rfl, rfl, by decide +kernel, by decide +kernel, by decide +kernel, by decide +kernel, fun y h => freeB_ok (by decide +kernel) h⟩
  obtain ⟨fdb, Fb⟩ := Y.fnDeed___init__
  refine def_okU (c := cc K) (k := 5) (N := dMake___init__.N) (fin := finD) (m := mMake___init__) rfl rfl F S fin_keep (fun A outer s H E cf => ?_)
  have tk : Takes (supCx P w K mg base dMake___init__.N "Make.__init__" (defScope (met (top 25) 1)) (He.ma K (He.ga K "Make") "__init__") cda ccl A outer s H E) (fun cls d _ H => E cls d H) := takes_of rfl rfl rfl rfl
  have hp : PassesOwn (model P w) (supCx P w K mg base dMake___init__.N "Make.__init__" (defScope (met (top 25) 1)) (He.ma K (He.ga K "Make") "__init__") cda ccl A outer s H E).A (supCx P w K mg base dMake___init__.N "Make.__init__" (defScope (met (top 25) 1)) (He.ma K (He.ga K "Make") "__init__") cda ccl A outer s H E).env (supCx P w K mg base dMake___init__.N "Make.__init__" (defScope (met (top 25) 1)) (He.ma K (He.ga K "Make") "__init__") cda ccl A outer s H E).xe := passes_of rfl
  show PSA _ _ _ (sM _ _ mMake___init__)
  unfold mMake___init__
  exact (psa_cons (cs_expr (ce_cal cf tk (Ccheck_name Y) (by decide) (ca_cons (ce_v (i := 1)) ca_nil))) (psa_cons (cs_expr (ce_cal cf tk (Ccheck_name Y) (by decide) (ca_cons (ce_v (i := 2)) ca_nil))) (psa_supF F cf tk Y.su102 ((wDeed___init__ Y Fb).mono (by decide)) (Fb.bindsN (fun _ _ _ _ _ _ us hl => match us, hl with | [_, _, _, _, _], _ => rfl)) (ca_cons (ce_v (i := 1)) (ca_cons (ce_tup (ca_cons (ce_tup (ca_cons ce_str (ca_cons (ce_v (i := 2)) ca_nil))) ca_nil)) (ca_cons (ce_tup ca_nil) (ca_cons (ce_v (i := 3)) ca_nil)))) (by rfl) (by decide +kernel) (by decide +kernel) (by decide +kernel) (by rfl) (by decide) rfl rfl rfl rfl rfl)))
theorem MI102_2_note (Y : Kn P w K mg base) : MkM P w K mg base (cc K) 6 102 4 2 ["note"] [.inl 0, .inl 1, .inl 2] [] fMake___init__ := by
  obtain ⟨fd, cda, ccl, F⟩ := Y.fnMake___init__
  obtain ⟨mv, hb⟩ := F.kbinds0 (ps := ["self", "name", "state", "note"]) 3 ["note"] [] (fun us mv ws => gC [.inl 0, .inl 1, .inl 2] us mv ws) (by simp) (fun q h => by cases h) vals_gC (fun D doc pm an ct us mv ws h1 h2 h3 => match us, mv, ws, h1, h2, h3 with | [_, _, _], [], [_], _, _, _ => rfl)
  exact ⟨_, fd, _, _, mv, Y.mkr102, wMake___init__ Y F, hb, fun _ => RepL.nil⟩
theorem wChange___init__ (Y : Kn P w K mg base) {fd : FuncData} {cda ccl : Addr} (F : FunS P K "__init__" "Change.__init__" (defArgs (met (top 26) 1)) (defBody (met (top 26) 1)) (defScope (met (top 26) 1)) [] [("columns", .ref (kwAt ("Change", some "__init__") "columns" K)), ("note", .non)] (He.ma K (He.ga K "Change") "__init__") fd cda ccl (He.ga K "Change")) : FnV P w K mg base 6 (He.ma K (He.ga K "Change") "__init__") 2 ["columns", "note"] (cc K) fChange___init__ := by
  have S : FnScopeS dChange___init__.N ["self", "name", "columns", "note", "moves"] (defScope (met (top 26) 1)) := ⟨rfl, rfl, rfl, by decide +kernel, by decide +kernel, by decide +kernel, by decide +kernel, fun y h => freeB_ok (by decide +kernel) h⟩
  obtain ⟨fdb, Fb⟩ := Y.fnDeed___init__
  refine def_okV (c := cc K) (k := 5) (N := dChange___init__.N) (ps := ["self", "name"]) (ks := ["columns", "note"]) (pv := "moves") (fin := finD) (m := mChange___init__) rfl rfl F S fin_keep (fun _ _ _ _ _ us rest ws hl h2 => match us, rest, ws, hl, h2 with | [_, _], [], [_, _], _, _ => rfl | [_, _], _ :: _, [_, _], _, _ => rfl) (fun A outer s H E cf => ?_)
  have tk : Takes (supCx P w K mg base dChange___init__.N "Change.__init__" (defScope (met (top 26) 1)) (He.ma K (He.ga K "Change") "__init__") cda ccl A outer s H E) (fun cls d _ H => E cls d H) := takes_of rfl rfl rfl rfl
  have hp : PassesOwn (model P w) (supCx P w K mg base dChange___init__.N "Change.__init__" (defScope (met (top 26) 1)) (He.ma K (He.ga K "Change") "__init__") cda ccl A outer s H E).A (supCx P w K mg base dChange___init__.N "Change.__init__" (defScope (met (top 26) 1)) (He.ma K (He.ga K "Change") "__init__") cda ccl A outer s H E).env (supCx P w K mg base dChange___init__.N "Change.__init__" (defScope (met (top 26) 1)) (He.ma K (He.ga K "Change") "__init__") cda ccl A outer s H E).xe := passes_of rfl
  show PSA _ _ _ (sM _ _ mChange___init__)
  unfold mChange___init__
  exact (psa_cons (cs_expr (ce_cal cf tk (Ccheck_name Y) (by decide) (ca_cons (ce_v (i := 1)) ca_nil))) (psa_cons (cs_for cf hp (ci_tup cf (ce_v (i := 4))) (cg_name (i := 5) S.nd) (cs_one (cs_if (ct_bool (cw_or (ct_not (ct_val (ce_isi cf.q (ClsV.ty "tuple") (subV_ok (T := "tuple") (by decide)) (ce_v (i := 5)) (pe_bltn rfl Y.free_tuple PyProof.Rows.boot_tuple rfl) Y.free_isinstance))) (cw_or (ct_cmp (or_ne cf.q) od_ne (ce_callB (cr_len cf) cl_len rfl Y.free_len boot_len (ca_cons (ce_v (i := 5)) ca_nil)) ce_int) (cw_or (ct_not (ct_val (ce_cal cf tk (Cis_name Y) (by decide) (ca_cons (ce_ix cf (ce_v (i := 5)) ce_int) ca_nil)))) (cw_or1 (ct_not (ct_val (ce_cal cf tk (Cis_name Y) (by decide) (ca_cons (ce_ix cf (ce_v (i := 5)) ce_int) ca_nil))))))))) (cs_one (cs_raise (j := 1) (cf.mono (by decide)) tk Y.mk2 (Y.gl "BadMove" (by decide +kernel)) (ca_cons (ce_v (i := 5)) ca_nil))) cs_nil))) (psa_cons (cs_expr (ce_cal cf tk (Ccheck_once Y) (by decide) (ca_cons (ce_lc (own := [("move", 5)]) cf S.nd finL_ok (ci_tup cf (ce_v (i := 4))) (blk_by (by show blkB dChange___init__.N (defScope (met (top 26) 1)) _ _ = true; decide +kernel)) (by decide) (fun _ _ _ _ _ => (cg_name (i := 5) S.nd)) (fun _ _ _ _ _ => cts_nil) (fun _ _ _ _ _ => (ce_ix cf.blk (ce_v (i := 5)) ce_int))) ca_nil))) (psa_cons (cs_if (ct_cmp op_gt od_gt (ce_callB (cr_len cf) cl_len rfl Y.free_len boot_len (ca_cons (ce_v (i := 4)) ca_nil)) (ce_gI (i := 4) rfl Y.int_MOST_MOVES)) (cs_one (cs_raise (j := 1) (cf.mono (by decide)) tk Y.mk6 (Y.gl "TooMany" (by decide +kernel)) (ca_cons (ce_gI (i := 4) rfl Y.int_MOST_MOVES) ca_nil))) cs_nil) (psa_supF F cf tk Y.su103 ((wDeed___init__ Y Fb).mono (by decide)) (Fb.bindsN (fun _ _ _ _ _ _ us hl => match us, hl with | [_, _, _, _, _], _ => rfl)) (ca_cons (ce_v (i := 1)) (ca_cons (ce_v (i := 4)) (ca_cons (ce_cal cf tk (Ccheck_names Y) (by decide) (ca_cons (ce_v (i := 2)) (ca_cons (ce_gI (i := 3) rfl Y.int_MOST_COLUMNS) ca_nil))) (ca_cons (ce_v (i := 3)) ca_nil)))) (by rfl) (by decide +kernel) (by decide +kernel) (by decide +kernel) (by rfl) (by decide) rfl rfl rfl rfl rfl)))))
theorem MV103 (Y : Kn P w K mg base) : MkV P w K mg base (cc K) 6 103 1 ["columns", "note"] fChange___init__ := by
  obtain ⟨fd, cda, ccl, F⟩ := Y.fnChange___init__
  exact ⟨_, Y.mkr103, wChange___init__ Y F⟩
theorem wChange_of (Y : Kn P w K mg base) {fd : FuncData} (F : FunD K "of" "Change.of" (defArgs (met (top 26) 2)) (defBody (met (top 26) 2)) (defScope (met (top 26) 2)) [] [("columns", .ref (kwAtC "Change" "of" "columns" K)), ("note", .non)] (cmA K (He.ga K "Change") "of") fd) : FnG P w K mg base 8 (cmA K (He.ga K "Change") "of") fd ["cls", "name", "moves", "columns", "note"] (spM (cc K) 5 fChange_of) := by
  have S : FnScope dChange_of.N ["cls", "name", "moves", "columns", "note"] (defScope (met (top 26) 2)) := C8.fnScope_by (by decide +kernel)
  refine def_ok (c := cc K) (k := 7) (N := dChange_of.N) (fin := finD) (m := mChange_of) rfl rfl F S fin_keep (fun cdv A outer s H E cf => ?_)
  have tk : Takes (cxOf (L2.CX P w) P w K mg base dChange_of.N "Change.of" (defScope (met (top 26) 2)) (cmA K (He.ga K "Change") "of") cdv A outer s H E) (fun cls d _ H => E cls d H) := takes_of rfl rfl rfl rfl
  have hp : PassesOwn (model P w) (cxOf (L2.CX P w) P w K mg base dChange_of.N "Change.of" (defScope (met (top 26) 2)) (cmA K (He.ga K "Change") "of") cdv A outer s H E).A (cxOf (L2.CX P w) P w K mg base dChange_of.N "Change.of" (defScope (met (top 26) 2)) (cmA K (He.ga K "Change") "of") cdv A outer s H E).env (cxOf (L2.CX P w) P w K mg base dChange_of.N "Change.of" (defScope (met (top 26) 2)) (cmA K (He.ga K "Change") "of") cdv A outer s H E).xe := passes_of rfl
  show CSs _ _ _ _ mChange_of
  unfold mChange_of
  exact (cs_one (cs_ret (ce_mkVS (j := 6) (cf.mono (by decide)) tk (MV103 Y) (by decide) (ce_v (i := 0)) (ca_cons (ce_v (i := 1)) (ca_star cf (ce_v (i := 2)) ca_nil)) (ck_cons (ce_v (i := 3)) (ck_cons (ce_v (i := 4)) ck_nil)))))
theorem CK103_of_columns_note (Y : Kn P w K mg base) : CmK P w K mg base (cc K) 8 103 "of" 5 2 ["columns", "note"] [.inl 0, .inl 1, .inl 2, .inl 3] [] fChange_of := by
  obtain ⟨fd, F⟩ := Y.fnChange_of
  obtain ⟨mv, hb⟩ := F.kbinds0 (ps := ["cls", "name", "moves", "columns", "note"]) 3 ["columns", "note"] [] (fun us mv ws => gC [.inl 0, .inl 1, .inl 2, .inl 3] us mv ws) (by simp) (fun q h => by cases h) vals_gC (fun D doc pm an cdv ct us mv ws h1 h2 h3 => match us, mv, ws, h1, h2, h3 with | [_, _, _], [], [_, _], _, _, _ => rfl)
  exact ⟨_, _, _, fd, _, _, mv, (cmB_ok Y.cmChange_of).1, (cmB_ok Y.cmChange_of).2, wChange_of Y F, hb, fun _ => RepL.nil⟩
theorem wEnd___init__ (Y : Kn P w K mg base) {fd : FuncData} {cda ccl : Addr} (F : FunS P K "__init__" "End.__init__" (defArgs (met (top 27) 1)) (defBody (met (top 27) 1)) (defScope (met (top 27) 1)) [] [("note", .non)] (He.ma K (He.ga K "End") "__init__") fd cda ccl (He.ga K "End")) : FnV P w K mg base 6 (He.ma K (He.ga K "End") "__init__") 2 ["note"] (cc K) fEnd___init__ := by
  have S : FnScopeS dEnd___init__.N ["self", "name", "note", "states"] (defScope (met (top 27) 1)) := ⟨rfl, rfl, rfl, by decide +kernel, by decide +kernel, by decide +kernel, by decide +kernel, fun y h => freeB_ok (by decide +kernel) h⟩
  obtain ⟨fdb, Fb⟩ := Y.fnDeed___init__
  refine def_okV (c := cc K) (k := 5) (N := dEnd___init__.N) (ps := ["self", "name"]) (ks := ["note"]) (pv := "states") (fin := finD) (m := mEnd___init__) rfl rfl F S fin_keep (fun _ _ _ _ _ us rest ws hl h2 => match us, rest, ws, hl, h2 with | [_, _], [], [_], _, _ => rfl | [_, _], _ :: _, [_], _, _ => rfl) (fun A outer s H E cf => ?_)
  have tk : Takes (supCx P w K mg base dEnd___init__.N "End.__init__" (defScope (met (top 27) 1)) (He.ma K (He.ga K "End") "__init__") cda ccl A outer s H E) (fun cls d _ H => E cls d H) := takes_of rfl rfl rfl rfl
  have hp : PassesOwn (model P w) (supCx P w K mg base dEnd___init__.N "End.__init__" (defScope (met (top 27) 1)) (He.ma K (He.ga K "End") "__init__") cda ccl A outer s H E).A (supCx P w K mg base dEnd___init__.N "End.__init__" (defScope (met (top 27) 1)) (He.ma K (He.ga K "End") "__init__") cda ccl A outer s H E).env (supCx P w K mg base dEnd___init__.N "End.__init__" (defScope (met (top 27) 1)) (He.ma K (He.ga K "End") "__init__") cda ccl A outer s H E).xe := passes_of rfl
  show PSA _ _ _ (sM _ _ mEnd___init__)
  unfold mEnd___init__
  exact (psa_cons (cs_expr (ce_cal cf tk (Ccheck_name Y) (by decide) (ca_cons (ce_v (i := 1)) ca_nil))) (psa_cons (cs_for cf hp (ci_tup cf (ce_v (i := 3))) (cg_name (i := 4) S.nd) (cs_one (cs_if (ct_not (ct_val (ce_cal cf tk (Cis_name Y) (by decide) (ca_cons (ce_v (i := 4)) ca_nil)))) (cs_one (cs_raise (j := 1) (cf.mono (by decide)) tk Y.mk0 (Y.gl "BadName" (by decide +kernel)) (ca_cons (ce_v (i := 4)) ca_nil))) cs_nil))) (psa_cons (cs_expr (ce_cal cf tk (Ccheck_once Y) (by decide) (ca_cons (ce_v (i := 3)) ca_nil))) (psa_cons (cs_if (ct_cmp op_gt od_gt (ce_callB (cr_len cf) cl_len rfl Y.free_len boot_len (ca_cons (ce_v (i := 3)) ca_nil)) (ce_gI (i := 4) rfl Y.int_MOST_MOVES)) (cs_one (cs_raise (j := 1) (cf.mono (by decide)) tk Y.mk6 (Y.gl "TooMany" (by decide +kernel)) (ca_cons (ce_gI (i := 4) rfl Y.int_MOST_MOVES) ca_nil))) cs_nil) (psa_supF F cf tk Y.su104 ((wDeed___init__ Y Fb).mono (by decide)) (Fb.bindsN (fun _ _ _ _ _ _ us hl => match us, hl with | [_, _, _, _, _], _ => rfl)) (ca_cons (ce_v (i := 1)) (ca_cons (ce_lc (own := [("state", 4)]) cf S.nd finL_ok (ci_tup cf (ce_v (i := 3))) (blk_by (by show blkB dEnd___init__.N (defScope (met (top 27) 1)) _ _ = true; decide +kernel)) (by decide) (fun _ _ _ _ _ => (cg_name (i := 4) S.nd)) (fun _ _ _ _ _ => cts_nil) (fun _ _ _ _ _ => (ce_tup (ca_cons (ce_v (i := 4)) (ca_cons ce_str ca_nil))))) (ca_cons (ce_tup ca_nil) (ca_cons (ce_v (i := 2)) ca_nil)))) (by rfl) (by decide +kernel) (by decide +kernel) (by decide +kernel) (by rfl) (by decide) rfl rfl rfl rfl rfl)))))
theorem MV104 (Y : Kn P w K mg base) : MkV P w K mg base (cc K) 6 104 1 ["note"] fEnd___init__ := by
  obtain ⟨fd, cda, ccl, F⟩ := Y.fnEnd___init__
  exact ⟨_, Y.mkr104, wEnd___init__ Y F⟩
theorem wEnd_of (Y : Kn P w K mg base) {fd : FuncData} (F : FunD K "of" "End.of" (defArgs (met (top 27) 2)) (defBody (met (top 27) 2)) (defScope (met (top 27) 2)) [] [("note", .non)] (cmA K (He.ga K "End") "of") fd) : FnG P w K mg base 8 (cmA K (He.ga K "End") "of") fd ["cls", "name", "states", "note"] (spM (cc K) 4 fEnd_of) := by
  have S : FnScope dEnd_of.N ["cls", "name", "states", "note"] (defScope (met (top 27) 2)) := C8.fnScope_by (by decide +kernel)
  refine def_ok (c := cc K) (k := 7) (N := dEnd_of.N) (fin := finD) (m := mEnd_of) rfl rfl F S fin_keep (fun cdv A outer s H E cf => ?_)
  have tk : Takes (cxOf (L2.CX P w) P w K mg base dEnd_of.N "End.of" (defScope (met (top 27) 2)) (cmA K (He.ga K "End") "of") cdv A outer s H E) (fun cls d _ H => E cls d H) := takes_of rfl rfl rfl rfl
  have hp : PassesOwn (model P w) (cxOf (L2.CX P w) P w K mg base dEnd_of.N "End.of" (defScope (met (top 27) 2)) (cmA K (He.ga K "End") "of") cdv A outer s H E).A (cxOf (L2.CX P w) P w K mg base dEnd_of.N "End.of" (defScope (met (top 27) 2)) (cmA K (He.ga K "End") "of") cdv A outer s H E).env (cxOf (L2.CX P w) P w K mg base dEnd_of.N "End.of" (defScope (met (top 27) 2)) (cmA K (He.ga K "End") "of") cdv A outer s H E).xe := passes_of rfl
  show CSs _ _ _ _ mEnd_of
  unfold mEnd_of
  exact (cs_one (cs_ret (ce_mkVS (j := 6) (cf.mono (by decide)) tk (MV104 Y) (by decide) (ce_v (i := 0)) (ca_cons (ce_v (i := 1)) (ca_star cf (ce_v (i := 2)) ca_nil)) (ck_cons (ce_v (i := 3)) ck_nil))))
theorem CK104_of_note (Y : Kn P w K mg base) : CmK P w K mg base (cc K) 8 104 "of" 4 2 ["note"] [.inl 0, .inl 1, .inl 2] [] fEnd_of := by
  obtain ⟨fd, F⟩ := Y.fnEnd_of
  obtain ⟨mv, hb⟩ := F.kbinds0 (ps := ["cls", "name", "states", "note"]) 3 ["note"] [] (fun us mv ws => gC [.inl 0, .inl 1, .inl 2] us mv ws) (by simp) (fun q h => by cases h) vals_gC (fun D doc pm an cdv ct us mv ws h1 h2 h3 => match us, mv, ws, h1, h2, h3 with | [_, _, _], [], [_], _, _, _ => rfl)
  exact ⟨_, _, _, fd, _, _, mv, (cmB_ok Y.cmEnd_of).1, (cmB_ok Y.cmEnd_of).2, wEnd_of Y F, hb, fun _ => RepL.nil⟩
theorem w_law_bag (Y : Kn P w K mg base) {fd : FuncData} (F : FunD K "_law_bag" "_law_bag" (defArgs (top 29)) (defBody (top 29)) (defScope (top 29)) [] [] (He.ga K "_law_bag") fd) : FnG P w K mg base 1 (He.ga K "_law_bag") fd ["_law_script", "_law_at"] (spM (cc K) 2 f_law_bag) := by
  have S : FnScope d_law_bag.N ["_law_script", "_law_at"] (defScope (top 29)) := C8.fnScope_by (by decide +kernel)
  refine def_ok (c := cc K) (k := 0) (N := d_law_bag.N) (fin := finK) (m := m_law_bag) rfl rfl F S fin_cell (fun cdv A outer s H E cf => ?_)
  have tk : Takes (cxOf (L2.CX P w) P w K mg base d_law_bag.N "_law_bag" (defScope (top 29)) (He.ga K "_law_bag") cdv A outer s H E) (fun cls d _ H => E cls d H) := takes_of rfl rfl rfl rfl
  have hp : PassesOwn (model P w) (cxOf (L2.CX P w) P w K mg base d_law_bag.N "_law_bag" (defScope (top 29)) (He.ga K "_law_bag") cdv A outer s H E).A (cxOf (L2.CX P w) P w K mg base d_law_bag.N "_law_bag" (defScope (top 29)) (He.ga K "_law_bag") cdv A outer s H E).env (cxOf (L2.CX P w) P w K mg base d_law_bag.N "_law_bag" (defScope (top 29)) (He.ga K "_law_bag") cdv A outer s H E).xe := passes_of rfl
  show CSs _ _ _ _ m_law_bag
  unfold m_law_bag
  exact (cs_cons (cs_set (i := 2) S.nd (ce_if (ct_cmp op_lt od_lt (ce_v (i := 1)) (ce_callB (cr_len cf) cl_len rfl Y.free_len boot_len (ca_cons (ce_v (i := 0)) ca_nil))) (ce_ix cf (ce_v (i := 0)) (ce_v (i := 1))) ce_int)) (cs_cons (cs_set (i := 3) S.nd (ce_op (or_add cf) od_add (ce_op op_mul od_mul ce_int (ce_v (i := 1))) ce_int)) (cs_cons (cs_for cf hp (ci_enum cf (ce_slice cf (ce_v (i := 0)) co_none (co_some ce_int)) Y.free_enumerate) (cg_tup cf.kk cf.calm (cgs_cons (cg_name (i := 4) S.nd) (cgs_cons (cg_name (i := 5) S.nd) cgs_nil))) (cs_one (cs_set (i := 3) S.nd (ce_op op_mod od_mod (ce_callTy call_int1 cl_int rfl Y.free_int boot_int (ca_cons (ce_op (or_add cf) od_add (ce_op (or_add cf) od_add (ce_op (or_add cf) od_add (ce_op op_mul od_mul (ce_v (i := 3)) ce_int) (ce_op op_mod od_mod (ce_callTy call_int1 cl_int rfl Y.free_int boot_int (ca_cons (ce_v (i := 5)) ca_nil)) ce_int)) (ce_op op_mul od_mul ce_int (ce_v (i := 4)))) ce_int) ca_nil)) ce_int)))) (cs_one (cs_ret (ce_lstC (ca_cons (ce_if (ct_cmp op_ge od_ge (ce_callB call_abs cl_abs rfl Y.free_abs boot_abs (ca_cons (ce_v (i := 2)) ca_nil)) (ce_op op_pow od_pow ce_int ce_int)) (ce_callB call_abs cl_abs rfl Y.free_abs boot_abs (ca_cons (ce_v (i := 2)) ca_nil)) ce_int) (ca_cons (ce_v (i := 3)) ca_nil))))))))
theorem C_law_bag (Y : Kn P w K mg base) : Cal P w K mg base (cc K) 1 "_law_bag" 2 f_law_bag := by
  obtain ⟨fd, F⟩ := Y.fn_law_bag
  exact ⟨_, fd, ["_law_script", "_law_at"], Y.gl "_law_bag" (by decide +kernel), F.kp, F.bindsN (fun _ _ _ _ _ _ us hl => match us, hl with | [_, _], _ => rfl), w_law_bag Y F⟩
theorem w_law_take (Y : Kn P w K mg base) {fd : FuncData} (F : FunD K "_law_take" "_law_take" (defArgs (top 30)) (defBody (top 30)) (defScope (top 30)) [] [] (He.ga K "_law_take") fd) : FnG P w K mg base 1 (He.ga K "_law_take") fd ["_law_bag_here", "_law_many"] (spM (cc K) 2 f_law_take) := by
  have S : FnScope d_law_take.N ["_law_bag_here", "_law_many"] (defScope (top 30)) := C8.fnScope_by (by decide +kernel)
  refine def_ok (c := cc K) (k := 0) (N := d_law_take.N) (fin := finD) (m := m_law_take) rfl rfl F S fin_keep (fun cdv A outer s H E cf => ?_)
  have tk : Takes (cxOf (L2.CX P w) P w K mg base d_law_take.N "_law_take" (defScope (top 30)) (He.ga K "_law_take") cdv A outer s H E) (fun cls d _ H => E cls d H) := takes_of rfl rfl rfl rfl
  have hp : PassesOwn (model P w) (cxOf (L2.CX P w) P w K mg base d_law_take.N "_law_take" (defScope (top 30)) (He.ga K "_law_take") cdv A outer s H E).A (cxOf (L2.CX P w) P w K mg base d_law_take.N "_law_take" (defScope (top 30)) (He.ga K "_law_take") cdv A outer s H E).env (cxOf (L2.CX P w) P w K mg base d_law_take.N "_law_take" (defScope (top 30)) (He.ga K "_law_take") cdv A outer s H E).xe := passes_of rfl
  show CSs _ _ _ _ m_law_take
  unfold m_law_take
  exact (cs_cons (cs_if (ct_cmp op_gt od_gt (ce_ix cf (ce_v (i := 0)) ce_int) ce_int) (cs_cons (cs_set (i := 2) S.nd (ce_op op_mod od_mod (ce_callTy call_int1 cl_int rfl Y.free_int boot_int (ca_cons (ce_ix cf (ce_v (i := 0)) ce_int) ca_nil)) (ce_v (i := 1)))) (cs_cons (cs_sub (ce_op op_fdivW od_div (ce_ix cf (ce_v (i := 0)) ce_int) (ce_v (i := 1))) (ce_v (i := 0)) ce_int (hg := pg_sub (ce_v (i := 0)) ce_int set_list)) (cs_one (cs_ret (ce_v (i := 2)))))) cs_nil) (cs_cons (cs_sub (ce_op op_mod od_mod (ce_callTy call_int1 cl_int rfl Y.free_int boot_int (ca_cons (ce_op (or_add cf) od_add (ce_op op_mul od_mul (ce_ix cf (ce_v (i := 0)) ce_int) ce_int) ce_int) ca_nil)) ce_int) (ce_v (i := 0)) ce_int (hg := pg_sub (ce_v (i := 0)) ce_int set_list)) (cs_one (cs_ret (ce_op op_mod od_mod (ce_op op_fdivW od_div (ce_op op_mod od_mod (ce_callTy call_int1 cl_int rfl Y.free_int boot_int (ca_cons (ce_op op_mul od_mul (ce_op op_fdivW od_div (ce_ix cf (ce_v (i := 0)) ce_int) ce_int) ce_int) ca_nil)) ce_int) ce_int) (ce_v (i := 1)))))))
theorem C_law_take (Y : Kn P w K mg base) : Cal P w K mg base (cc K) 1 "_law_take" 2 f_law_take := by
  obtain ⟨fd, F⟩ := Y.fn_law_take
  exact ⟨_, fd, ["_law_bag_here", "_law_many"], Y.gl "_law_take" (by decide +kernel), F.kp, F.bindsN (fun _ _ _ _ _ _ us hl => match us, hl with | [_, _], _ => rfl), w_law_take Y F⟩
theorem w_law_of (Y : Kn P w K mg base) {fd : FuncData} (F : FunD K "_law_of" "_law_of" (defArgs (top 31)) (defBody (top 31)) (defScope (top 31)) [] [] (He.ga K "_law_of") fd) : FnG P w K mg base 2 (He.ga K "_law_of") fd ["_law_bag_here", "_law_some"] (spM (cc K) 2 f_law_of) := by
  have S : FnScope d_law_of.N ["_law_bag_here", "_law_some"] (defScope (top 31)) := C8.fnScope_by (by decide +kernel)
  refine def_ok (c := cc K) (k := 1) (N := d_law_of.N) (fin := finD) (m := m_law_of) rfl rfl F S fin_keep (fun cdv A outer s H E cf => ?_)
  have tk : Takes (cxOf (L2.CX P w) P w K mg base d_law_of.N "_law_of" (defScope (top 31)) (He.ga K "_law_of") cdv A outer s H E) (fun cls d _ H => E cls d H) := takes_of rfl rfl rfl rfl
  have hp : PassesOwn (model P w) (cxOf (L2.CX P w) P w K mg base d_law_of.N "_law_of" (defScope (top 31)) (He.ga K "_law_of") cdv A outer s H E).A (cxOf (L2.CX P w) P w K mg base d_law_of.N "_law_of" (defScope (top 31)) (He.ga K "_law_of") cdv A outer s H E).env (cxOf (L2.CX P w) P w K mg base d_law_of.N "_law_of" (defScope (top 31)) (He.ga K "_law_of") cdv A outer s H E).xe := passes_of rfl
  show CSs _ _ _ _ m_law_of
  unfold m_law_of
  exact (cs_one (cs_ret (ce_ix cf (ce_v (i := 1)) (ce_cal cf tk (C_law_take Y) (by decide) (ca_cons (ce_v (i := 0)) (ca_cons (ce_callB (cr_len cf) cl_len rfl Y.free_len boot_len (ca_cons (ce_v (i := 1)) ca_nil)) ca_nil))))))
theorem C_law_of (Y : Kn P w K mg base) : Cal P w K mg base (cc K) 2 "_law_of" 2 f_law_of := by
  obtain ⟨fd, F⟩ := Y.fn_law_of
  exact ⟨_, fd, ["_law_bag_here", "_law_some"], Y.gl "_law_of" (by decide +kernel), F.kp, F.bindsN (fun _ _ _ _ _ _ us hl => match us, hl with | [_, _], _ => rfl), w_law_of Y F⟩
theorem w_law_names (Y : Kn P w K mg base) {fd : FuncData} (F : FunD K "_law_names" "_law_names" (defArgs (top 32)) (defBody (top 32)) (defScope (top 32)) [] [] (He.ga K "_law_names") fd) : FnG P w K mg base 3 (He.ga K "_law_names") fd ["_law_bag_here", "_law_many", "_law_banned"] (spM (cc K) 3 f_law_names) := by
  have S : FnScope d_law_names.N ["_law_bag_here", "_law_many", "_law_banned"] (defScope (top 32)) := C8.fnScope_by (by decide +kernel)
  refine def_ok (c := cc K) (k := 2) (N := d_law_names.N) (fin := finD) (m := m_law_names) rfl rfl F S fin_keep (fun cdv A outer s H E cf => ?_)
  have tk : Takes (cxOf (L2.CX P w) P w K mg base d_law_names.N "_law_names" (defScope (top 32)) (He.ga K "_law_names") cdv A outer s H E) (fun cls d _ H => E cls d H) := takes_of rfl rfl rfl rfl
  have hp : PassesOwn (model P w) (cxOf (L2.CX P w) P w K mg base d_law_names.N "_law_names" (defScope (top 32)) (He.ga K "_law_names") cdv A outer s H E).A (cxOf (L2.CX P w) P w K mg base d_law_names.N "_law_names" (defScope (top 32)) (He.ga K "_law_names") cdv A outer s H E).env (cxOf (L2.CX P w) P w K mg base d_law_names.N "_law_names" (defScope (top 32)) (He.ga K "_law_names") cdv A outer s H E).xe := passes_of rfl
  show CSs _ _ _ _ m_law_names
  unfold m_law_names
  exact (cs_cons (cs_asg (ce_tup (ca_cons ce_str (ca_cons (ce_lstC ca_nil) ca_nil))) (cg_tup cf.kk cf.calm (cgs_cons (cg_name (i := 3) S.nd) (cgs_cons (cg_name (i := 4) S.nd) cgs_nil)))) (cs_cons (cs_for cf hp (ci_range (ca_cons (ce_v (i := 1)) ca_nil) Y.free_range) (cg_name (i := 5) S.nd) (cs_cons (cs_set (i := 6) S.nd (ce_join cf ce_str (ce_lc (own := [("_law_k", 7)]) cf S.nd finL_ok (ci_range (ca_cons (ce_cal cf tk (C_law_of Y) (by decide) (ca_cons (ce_v (i := 0)) (ca_cons (ce_lst (ca_cons ce_int (ca_cons ce_int (ca_cons ce_int (ca_cons ce_int ca_nil))))) ca_nil))) ca_nil) Y.free_range) (blk_by (by show blkB d_law_names.N (defScope (top 32)) _ _ = true; decide +kernel)) (by decide) (fun _ _ _ _ _ => (cg_name (i := 7) S.nd)) (fun _ _ _ _ _ => cts_nil) (fun _ _ _ _ _ => (ce_ix cf.blk (ce_v (i := 3)) (ce_cal cf.blk takes0 (C_law_take Y) (by decide) (ca_cons (ce_v (i := 0)) (ca_cons ce_int ca_nil)))))))) (cs_cons (cs_if (ct_bool (cw_or (ct_cmp (or_in cf) (od_in false) (ce_v (i := 6)) (ce_v (i := 4))) (cw_or1 (ct_cmp (or_in cf) (od_in false) (ce_v (i := 6)) (ce_v (i := 2)))))) (cs_one (cs_set (i := 6) S.nd (ce_ix cf (ce_lc (own := [("_law_letter", 8)]) cf S.nd finL_ok (ci_str (ce_v (i := 3))) (blk_by (by show blkB d_law_names.N (defScope (top 32)) _ _ = true; decide +kernel)) (by decide) (fun _ _ _ _ _ => (cg_name (i := 8) S.nd)) (fun _ _ _ _ _ => (cts_one (ct_bool (cw_and (ct_cmp (or_notIn cf.blk) (od_in true) (ce_v (i := 8)) (ce_v (i := 4))) (cw_and1 (ct_cmp (or_notIn cf.blk) (od_in true) (ce_v (i := 8)) (ce_v (i := 2)))))))) (fun _ _ _ _ _ => (ce_v (i := 8)))) ce_int))) cs_nil) (cs_one (cs_expr (ce_app cf (ce_v (i := 4)) (ce_v (i := 6)))))))) (cs_one (cs_ret (ce_v (i := 4))))))
theorem C_law_names (Y : Kn P w K mg base) : Cal P w K mg base (cc K) 3 "_law_names" 3 f_law_names := by
  obtain ⟨fd, F⟩ := Y.fn_law_names
  exact ⟨_, fd, ["_law_bag_here", "_law_many", "_law_banned"], Y.gl "_law_names" (by decide +kernel), F.kp, F.bindsN (fun _ _ _ _ _ _ us hl => match us, hl with | [_, _, _], _ => rfl), w_law_names Y F⟩
theorem w_law_odd (Y : Kn P w K mg base) {fd : FuncData} (F : FunD K "_law_odd" "_law_odd" (defArgs (top 33)) (defBody (top 33)) (defScope (top 33)) [] [] (He.ga K "_law_odd") fd) : FnG P w K mg base 3 (He.ga K "_law_odd") fd ["_law_bag_here", "_law_good"] (spM (cc K) 2 f_law_odd) := by
  have S : FnScope d_law_odd.N ["_law_bag_here", "_law_good"] (defScope (top 33)) := C8.fnScope_by (by decide +kernel)
  refine def_ok (c := cc K) (k := 2) (N := d_law_odd.N) (fin := finD) (m := m_law_odd) rfl rfl F S fin_keep (fun cdv A outer s H E cf => ?_)
  have tk : Takes (cxOf (L2.CX P w) P w K mg base d_law_odd.N "_law_odd" (defScope (top 33)) (He.ga K "_law_odd") cdv A outer s H E) (fun cls d _ H => E cls d H) := takes_of rfl rfl rfl rfl
  have hp : PassesOwn (model P w) (cxOf (L2.CX P w) P w K mg base d_law_odd.N "_law_odd" (defScope (top 33)) (He.ga K "_law_odd") cdv A outer s H E).A (cxOf (L2.CX P w) P w K mg base d_law_odd.N "_law_odd" (defScope (top 33)) (He.ga K "_law_odd") cdv A outer s H E).env (cxOf (L2.CX P w) P w K mg base d_law_odd.N "_law_odd" (defScope (top 33)) (He.ga K "_law_odd") cdv A outer s H E).xe := passes_of rfl
  show CSs _ _ _ _ m_law_odd
  unfold m_law_odd
  exact (cs_cons (cs_set (i := 2) S.nd (ce_lst (ca_cons ce_str (ca_cons ce_str (ca_cons ce_str (ca_cons ce_str (ca_cons ce_str (ca_cons ce_str (ca_cons ce_str (ca_cons ce_str (ca_cons ce_str (ca_cons ce_int (ca_cons ce_int (ca_cons (ce_un un_neg ud_neg ce_int) (ca_cons (ce_op op_pow od_pow ce_int ce_int) (ca_cons ce_bl (ca_cons ce_bl (ca_cons ce_non ca_nil)))))))))))))))))) (cs_cons (cs_set (i := 2) S.nd (ce_op (or_add cf) od_add (ce_v (i := 2)) (ce_lst (ca_cons (ce_lst ca_nil) (ca_cons (ce_lst (ca_cons (ce_v (i := 1)) ca_nil)) (ca_cons (ce_tup (ca_cons (ce_v (i := 1)) ca_nil)) (ca_cons (ce_tup ca_nil) (ca_cons ce_dic0 (ca_cons (ce_op (or_add cf) od_add (ce_v (i := 1)) ce_str) (ca_cons (ce_upper (ce_v (i := 1))) (ca_cons (ce_sliceS (ce_op (or_add cf) od_add (ce_v (i := 1)) ce_str) co_none (co_some ce_int)) (ca_cons (ce_op (or_add cf) od_add ce_str (ce_v (i := 1))) ca_nil)))))))))))) (cs_one (cs_ret (ce_cal cf tk (C_law_of Y) (by decide) (ca_cons (ce_v (i := 0)) (ca_cons (ce_v (i := 2)) ca_nil)))))))
theorem C_law_odd (Y : Kn P w K mg base) : Cal P w K mg base (cc K) 3 "_law_odd" 2 f_law_odd := by
  obtain ⟨fd, F⟩ := Y.fn_law_odd
  exact ⟨_, fd, ["_law_bag_here", "_law_good"], Y.gl "_law_odd" (by decide +kernel), F.kp, F.bindsN (fun _ _ _ _ _ _ us hl => match us, hl with | [_, _], _ => rfl), w_law_odd Y F⟩
theorem w_law_is_name (Y : Kn P w K mg base) {fd : FuncData} (F : FunD K "_law_is_name" "_law_is_name" (defArgs (top 34)) (defBody (top 34)) (defScope (top 34)) [] [] (He.ga K "_law_is_name") fd) : FnG P w K mg base 1 (He.ga K "_law_is_name") fd ["_law_thing"] (spM (cc K) 1 f_law_is_name) := by
  have S : FnScope d_law_is_name.N ["_law_thing"] (defScope (top 34)) := C8.fnScope_by (by decide +kernel)
  refine def_ok (c := cc K) (k := 0) (N := d_law_is_name.N) (fin := finD) (m := m_law_is_name) rfl rfl F S fin_keep (fun cdv A outer s H E cf => ?_)
  have tk : Takes (cxOf (L2.CX P w) P w K mg base d_law_is_name.N "_law_is_name" (defScope (top 34)) (He.ga K "_law_is_name") cdv A outer s H E) (fun cls d _ H => E cls d H) := takes_of rfl rfl rfl rfl
  have hp : PassesOwn (model P w) (cxOf (L2.CX P w) P w K mg base d_law_is_name.N "_law_is_name" (defScope (top 34)) (He.ga K "_law_is_name") cdv A outer s H E).A (cxOf (L2.CX P w) P w K mg base d_law_is_name.N "_law_is_name" (defScope (top 34)) (He.ga K "_law_is_name") cdv A outer s H E).env (cxOf (L2.CX P w) P w K mg base d_law_is_name.N "_law_is_name" (defScope (top 34)) (He.ga K "_law_is_name") cdv A outer s H E).xe := passes_of rfl
  show CSs _ _ _ _ m_law_is_name
  unfold m_law_is_name
  exact (cs_cons (cs_if (ct_bool (cw_or (ct_not (ct_val (ce_isi cf.q (ClsV.ty "str") (subV_ok (T := "str") (by decide)) (ce_v (i := 0)) (pe_bltn rfl Y.free_str PyProof.Rows.boot_str rfl) Y.free_isinstance))) (cw_or1 (ct_not (ct_chain or_le od_le pure_le or_le od_le ce_int (ce_callB (cr_len cf) cl_len rfl Y.free_len boot_len (ca_cons (ce_v (i := 0)) ca_nil)) ce_int))))) (cs_one (cs_ret ce_bl)) cs_nil) (cs_one (cs_ret (ce_cmp (or_eqE cf) od_eqE (ce_lc (own := [("_law_letter", 1)]) cf S.nd finL_ok (ci_str (ce_v (i := 0))) (blk_by (by show blkB d_law_is_name.N (defScope (top 34)) _ _ = true; decide +kernel)) (by decide) (fun _ _ _ _ _ => (cg_name (i := 1) S.nd)) (fun _ _ _ _ _ => (cts_one (ct_cmp (or_notIn cf.blk) (od_in true) (ce_v (i := 1)) ce_str))) (fun _ _ _ _ _ => (ce_v (i := 1)))) (ce_lst ca_nil)))))
theorem C_law_is_name (Y : Kn P w K mg base) : Cal P w K mg base (cc K) 1 "_law_is_name" 1 f_law_is_name := by
  obtain ⟨fd, F⟩ := Y.fn_law_is_name
  exact ⟨_, fd, ["_law_thing"], Y.gl "_law_is_name" (by decide +kernel), F.kp, F.bindsN (fun _ _ _ _ _ _ us hl => match us, hl with | [_], _ => rfl), w_law_is_name Y F⟩
theorem w_law_twice (Y : Kn P w K mg base) {fd : FuncData} (F : FunD K "_law_twice" "_law_twice" (defArgs (top 35)) (defBody (top 35)) (defScope (top 35)) [] [] (He.ga K "_law_twice") fd) : FnG P w K mg base 1 (He.ga K "_law_twice") fd ["_law_things"] (spM (cc K) 1 f_law_twice) := by
  have S : FnScope d_law_twice.N ["_law_things"] (defScope (top 35)) := C8.fnScope_by (by decide +kernel)
  refine def_ok (c := cc K) (k := 0) (N := d_law_twice.N) (fin := finD) (m := m_law_twice) rfl rfl F S fin_keep (fun cdv A outer s H E cf => ?_)
  have tk : Takes (cxOf (L2.CX P w) P w K mg base d_law_twice.N "_law_twice" (defScope (top 35)) (He.ga K "_law_twice") cdv A outer s H E) (fun cls d _ H => E cls d H) := takes_of rfl rfl rfl rfl
  have hp : PassesOwn (model P w) (cxOf (L2.CX P w) P w K mg base d_law_twice.N "_law_twice" (defScope (top 35)) (He.ga K "_law_twice") cdv A outer s H E).A (cxOf (L2.CX P w) P w K mg base d_law_twice.N "_law_twice" (defScope (top 35)) (He.ga K "_law_twice") cdv A outer s H E).env (cxOf (L2.CX P w) P w K mg base d_law_twice.N "_law_twice" (defScope (top 35)) (He.ga K "_law_twice") cdv A outer s H E).xe := passes_of rfl
  show CSs _ _ _ _ m_law_twice
  unfold m_law_twice
  exact (cs_one (cs_ret (ce_slice cf (ce_lc (own := [("_law_k", 1), ("_law_thing", 2)]) cf S.nd finL_ok (ci_enum cf (ce_v (i := 0)) Y.free_enumerate) (blk_by (by show blkB d_law_twice.N (defScope (top 35)) _ _ = true; decide +kernel)) (by decide) (fun _ _ _ _ _ => (cg_tup cf.blk.kk cf.blk.calm (cgs_cons (cg_name (i := 1) S.nd) (cgs_cons (cg_name (i := 2) S.nd) cgs_nil)))) (fun _ _ _ _ _ => (cts_one (ct_cmp (or_in cf.blk) (od_in false) (ce_v (i := 2)) (ce_slice cf.blk (ce_v (i := 0)) co_none (co_some (ce_v (i := 1))))))) (fun _ _ _ _ _ => (ce_v (i := 2)))) co_none (co_some ce_int))))
theorem C_law_twice (Y : Kn P w K mg base) : Cal P w K mg base (cc K) 1 "_law_twice" 1 f_law_twice := by
  obtain ⟨fd, F⟩ := Y.fn_law_twice
  exact ⟨_, fd, ["_law_things"], Y.gl "_law_twice" (by decide +kernel), F.kp, F.bindsN (fun _ _ _ _ _ _ us hl => match us, hl with | [_], _ => rfl), w_law_twice Y F⟩
theorem w_law_is_move (Y : Kn P w K mg base) {fd : FuncData} (F : FunD K "_law_is_move" "_law_is_move" (defArgs (top 36)) (defBody (top 36)) (defScope (top 36)) [] [] (He.ga K "_law_is_move") fd) : FnG P w K mg base 2 (He.ga K "_law_is_move") fd ["_law_thing"] (spM (cc K) 1 f_law_is_move) := by
  have S : FnScope d_law_is_move.N ["_law_thing"] (defScope (top 36)) := C8.fnScope_by (by decide +kernel)
  refine def_ok (c := cc K) (k := 1) (N := d_law_is_move.N) (fin := finD) (m := m_law_is_move) rfl rfl F S fin_keep (fun cdv A outer s H E cf => ?_)
  have tk : Takes (cxOf (L2.CX P w) P w K mg base d_law_is_move.N "_law_is_move" (defScope (top 36)) (He.ga K "_law_is_move") cdv A outer s H E) (fun cls d _ H => E cls d H) := takes_of rfl rfl rfl rfl
  have hp : PassesOwn (model P w) (cxOf (L2.CX P w) P w K mg base d_law_is_move.N "_law_is_move" (defScope (top 36)) (He.ga K "_law_is_move") cdv A outer s H E).A (cxOf (L2.CX P w) P w K mg base d_law_is_move.N "_law_is_move" (defScope (top 36)) (He.ga K "_law_is_move") cdv A outer s H E).env (cxOf (L2.CX P w) P w K mg base d_law_is_move.N "_law_is_move" (defScope (top 36)) (He.ga K "_law_is_move") cdv A outer s H E).xe := passes_of rfl
  show CSs _ _ _ _ m_law_is_move
  unfold m_law_is_move
  exact (cs_one (cs_ret (ce_and (ce_isi cf.q (ClsV.ty "tuple") (subV_ok (T := "tuple") (by decide)) (ce_v (i := 0)) (pe_bltn rfl Y.free_tuple PyProof.Rows.boot_tuple rfl) Y.free_isinstance) (ce_and (ce_cmp (or_eq cf.q) od_eq (ce_callB (cr_len cf) cl_len rfl Y.free_len boot_len (ca_cons (ce_v (i := 0)) ca_nil)) ce_int) (ce_and (ce_cal cf tk (C_law_is_name Y) (by decide) (ca_cons (ce_ix cf (ce_v (i := 0)) ce_int) ca_nil)) (ce_one (ce_cal cf tk (C_law_is_name Y) (by decide) (ca_cons (ce_ix cf (ce_v (i := 0)) ce_int) ca_nil))))))))
theorem C_law_is_move (Y : Kn P w K mg base) : Cal P w K mg base (cc K) 2 "_law_is_move" 1 f_law_is_move := by
  obtain ⟨fd, F⟩ := Y.fn_law_is_move
  exact ⟨_, fd, ["_law_thing"], Y.gl "_law_is_move" (by decide +kernel), F.kp, F.bindsN (fun _ _ _ _ _ _ us hl => match us, hl with | [_], _ => rfl), w_law_is_move Y F⟩
theorem w_law_due_names (Y : Kn P w K mg base) {fd : FuncData} (F : FunD K "_law_due_names" "_law_due_names" (defArgs (top 37)) (defBody (top 37)) (defScope (top 37)) [] [] (He.ga K "_law_due_names") fd) : FnG P w K mg base 2 (He.ga K "_law_due_names") fd ["_law_names_here", "_law_most"] (spM (cc K) 2 f_law_due_names) := by
  have S : FnScope d_law_due_names.N ["_law_names_here", "_law_most"] (defScope (top 37)) := C8.fnScope_by (by decide +kernel)
  refine def_ok (c := cc K) (k := 1) (N := d_law_due_names.N) (fin := finD) (m := m_law_due_names) rfl rfl F S fin_keep (fun cdv A outer s H E cf => ?_)
  have tk : Takes (cxOf (L2.CX P w) P w K mg base d_law_due_names.N "_law_due_names" (defScope (top 37)) (He.ga K "_law_due_names") cdv A outer s H E) (fun cls d _ H => E cls d H) := takes_of rfl rfl rfl rfl
  have hp : PassesOwn (model P w) (cxOf (L2.CX P w) P w K mg base d_law_due_names.N "_law_due_names" (defScope (top 37)) (He.ga K "_law_due_names") cdv A outer s H E).A (cxOf (L2.CX P w) P w K mg base d_law_due_names.N "_law_due_names" (defScope (top 37)) (He.ga K "_law_due_names") cdv A outer s H E).env (cxOf (L2.CX P w) P w K mg base d_law_due_names.N "_law_due_names" (defScope (top 37)) (He.ga K "_law_due_names") cdv A outer s H E).xe := passes_of rfl
  show CSs _ _ _ _ m_law_due_names
  unfold m_law_due_names
  exact (cs_cons (cs_for cf hp (ci_list cf (ce_v (i := 0))) (cg_name (i := 2) S.nd) (cs_one (cs_if (ct_not (ct_val (ce_cal cf tk (C_law_is_name Y) (by decide) (ca_cons (ce_v (i := 2)) ca_nil)))) (cs_one (cs_ret (ce_tup (ca_cons ce_str (ca_cons (ce_v (i := 2)) ca_nil))))) cs_nil))) (cs_cons (cs_if (ct_cmp (or_neE cf) od_neE (ce_cal cf tk (C_law_twice Y) (by decide) (ca_cons (ce_v (i := 0)) ca_nil)) (ce_lst ca_nil)) (cs_one (cs_ret (ce_tup (ca_cons ce_str (ca_cons (ce_ix cf (ce_cal cf tk (C_law_twice Y) (by decide) (ca_cons (ce_v (i := 0)) ca_nil)) ce_int) ca_nil))))) cs_nil) (cs_one (cs_ret (ce_if (ct_cmp op_gt od_gt (ce_callB (cr_len cf) cl_len rfl Y.free_len boot_len (ca_cons (ce_v (i := 0)) ca_nil)) (ce_v (i := 1))) (ce_tup (ca_cons ce_str (ca_cons (ce_v (i := 1)) ca_nil))) ce_non)))))
theorem C_law_due_names (Y : Kn P w K mg base) : Cal P w K mg base (cc K) 2 "_law_due_names" 2 f_law_due_names := by
  obtain ⟨fd, F⟩ := Y.fn_law_due_names
  exact ⟨_, fd, ["_law_names_here", "_law_most"], Y.gl "_law_due_names" (by decide +kernel), F.kp, F.bindsN (fun _ _ _ _ _ _ us hl => match us, hl with | [_, _], _ => rfl), w_law_due_names Y F⟩
theorem w_law_due_moves (Y : Kn P w K mg base) {fd : FuncData} (F : FunD K "_law_due_moves" "_law_due_moves" (defArgs (top 38)) (defBody (top 38)) (defScope (top 38)) [] [] (He.ga K "_law_due_moves") fd) : FnG P w K mg base 3 (He.ga K "_law_due_moves") fd ["_law_moves"] (spM (cc K) 1 f_law_due_moves) := by
  have S : FnScope d_law_due_moves.N ["_law_moves"] (defScope (top 38)) := C8.fnScope_by (by decide +kernel)
  refine def_ok (c := cc K) (k := 2) (N := d_law_due_moves.N) (fin := finD) (m := m_law_due_moves) rfl rfl F S fin_keep (fun cdv A outer s H E cf => ?_)
  have tk : Takes (cxOf (L2.CX P w) P w K mg base d_law_due_moves.N "_law_due_moves" (defScope (top 38)) (He.ga K "_law_due_moves") cdv A outer s H E) (fun cls d _ H => E cls d H) := takes_of rfl rfl rfl rfl
  have hp : PassesOwn (model P w) (cxOf (L2.CX P w) P w K mg base d_law_due_moves.N "_law_due_moves" (defScope (top 38)) (He.ga K "_law_due_moves") cdv A outer s H E).A (cxOf (L2.CX P w) P w K mg base d_law_due_moves.N "_law_due_moves" (defScope (top 38)) (He.ga K "_law_due_moves") cdv A outer s H E).env (cxOf (L2.CX P w) P w K mg base d_law_due_moves.N "_law_due_moves" (defScope (top 38)) (He.ga K "_law_due_moves") cdv A outer s H E).xe := passes_of rfl
  show CSs _ _ _ _ m_law_due_moves
  unfold m_law_due_moves
  exact (cs_cons (cs_for cf hp (ci_list cf (ce_v (i := 0))) (cg_name (i := 1) S.nd) (cs_one (cs_if (ct_not (ct_val (ce_cal cf tk (C_law_is_move Y) (by decide) (ca_cons (ce_v (i := 1)) ca_nil)))) (cs_one (cs_ret (ce_tup (ca_cons ce_str (ca_cons (ce_v (i := 1)) ca_nil))))) cs_nil))) (cs_cons (cs_set (i := 2) S.nd (ce_cal cf tk (C_law_twice Y) (by decide) (ca_cons (ce_lc (own := [("_law_move", 1)]) cf S.nd finL_ok (ci_list cf (ce_v (i := 0))) (blk_by (by show blkB d_law_due_moves.N (defScope (top 38)) _ _ = true; decide +kernel)) (by decide) (fun _ _ _ _ _ => (cg_name (i := 1) S.nd)) (fun _ _ _ _ _ => cts_nil) (fun _ _ _ _ _ => (ce_ix cf.blk (ce_v (i := 1)) ce_int))) ca_nil))) (cs_cons (cs_if (ct_cmp (or_neE cf) od_neE (ce_v (i := 2)) (ce_lst ca_nil)) (cs_one (cs_ret (ce_tup (ca_cons ce_str (ca_cons (ce_ix cf (ce_v (i := 2)) ce_int) ca_nil))))) cs_nil) (cs_one (cs_ret (ce_if (ct_cmp op_gt od_gt (ce_callB (cr_len cf) cl_len rfl Y.free_len boot_len (ca_cons (ce_v (i := 0)) ca_nil)) ce_int) (ce_tup (ca_cons ce_str (ca_cons ce_int ca_nil))) ce_non))))))
theorem C_law_due_moves (Y : Kn P w K mg base) : Cal P w K mg base (cc K) 3 "_law_due_moves" 1 f_law_due_moves := by
  obtain ⟨fd, F⟩ := Y.fn_law_due_moves
  exact ⟨_, fd, ["_law_moves"], Y.gl "_law_due_moves" (by decide +kernel), F.kp, F.bindsN (fun _ _ _ _ _ _ us hl => match us, hl with | [_], _ => rfl), w_law_due_moves Y F⟩
theorem w_law_first (Y : Kn P w K mg base) {fd : FuncData} (F : FunD K "_law_first" "_law_first" (defArgs (top 39)) (defBody (top 39)) (defScope (top 39)) [] [] (He.ga K "_law_first") fd) : FnG P w K mg base 1 (He.ga K "_law_first") fd ["_law_errors", "_law_memo"] (spM (cc K) 2 f_law_first) := by
  have S : FnScope d_law_first.N ["_law_errors", "_law_memo"] (defScope (top 39)) := C8.fnScope_by (by decide +kernel)
  refine def_ok (c := cc K) (k := 0) (N := d_law_first.N) (fin := finD) (m := m_law_first) rfl rfl F S fin_keep (fun cdv A outer s H E cf => ?_)
  have tk : Takes (cxOf (L2.CX P w) P w K mg base d_law_first.N "_law_first" (defScope (top 39)) (He.ga K "_law_first") cdv A outer s H E) (fun cls d _ H => E cls d H) := takes_of rfl rfl rfl rfl
  have hp : PassesOwn (model P w) (cxOf (L2.CX P w) P w K mg base d_law_first.N "_law_first" (defScope (top 39)) (He.ga K "_law_first") cdv A outer s H E).A (cxOf (L2.CX P w) P w K mg base d_law_first.N "_law_first" (defScope (top 39)) (He.ga K "_law_first") cdv A outer s H E).env (cxOf (L2.CX P w) P w K mg base d_law_first.N "_law_first" (defScope (top 39)) (He.ga K "_law_first") cdv A outer s H E).xe := passes_of rfl
  show CSs _ _ _ _ m_law_first
  unfold m_law_first
  exact (cs_cons (cs_for cf hp (ci_list cf (ce_v (i := 0))) (cg_name (i := 2) S.nd) (cs_one (cs_if (ct_cmp op_notN od_notN (ce_v (i := 2)) ce_non) (cs_one (cs_ret (ce_v (i := 2)))) cs_nil))) (cs_one (cs_ret (ce_if (ct_bool (cw_or (ct_cmp op_isN od_isN (ce_v (i := 1)) ce_non) (cw_or1 (ct_val (ce_isi cf.q (ClsV.own _) (subJ_ok (fun t b h => Y.si 0 (by decide) t b (by cases t <;> exact h)) (Y.sn 0 (by decide))) (ce_v (i := 1)) (pe_glob rfl (Y.gl "Note" (by decide +kernel)) rfl) Y.free_isinstance))))) ce_non (ce_tup (ca_cons ce_str (ca_cons (ce_v (i := 1)) ca_nil)))))))
theorem C_law_first (Y : Kn P w K mg base) : Cal P w K mg base (cc K) 1 "_law_first" 2 f_law_first := by
  obtain ⟨fd, F⟩ := Y.fn_law_first
  exact ⟨_, fd, ["_law_errors", "_law_memo"], Y.gl "_law_first" (by decide +kernel), F.kp, F.bindsN (fun _ _ _ _ _ _ us hl => match us, hl with | [_, _], _ => rfl), w_law_first Y F⟩
theorem w_law_raised (Y : Kn P w K mg base) {fd : FuncData} (F : FunD K "_law_raised" "_law_raised" (defArgs (top 40)) (defBody (top 40)) (defScope (top 40)) [] [] (He.ga K "_law_raised") fd) : FnG P w K mg base 9 (He.ga K "_law_raised") fd ["_law_way", "_law_name", "_law_parts", "_law_cols", "_law_memo"] (spM (cc K) 5 f_law_raised) := by
  have S : FnScope d_law_raised.N ["_law_way", "_law_name", "_law_parts", "_law_cols", "_law_memo"] (defScope (top 40)) := C8.fnScope_by (by decide +kernel)
  refine def_ok (c := cc K) (k := 8) (N := d_law_raised.N) (fin := finD) (m := m_law_raised) rfl rfl F S fin_keep (fun cdv A outer s H E cf => ?_)
  have tk : Takes (cxOf (L2.CX P w) P w K mg base d_law_raised.N "_law_raised" (defScope (top 40)) (He.ga K "_law_raised") cdv A outer s H E) (fun cls d _ H => E cls d H) := takes_of rfl rfl rfl rfl
  have hp : PassesOwn (model P w) (cxOf (L2.CX P w) P w K mg base d_law_raised.N "_law_raised" (defScope (top 40)) (He.ga K "_law_raised") cdv A outer s H E).A (cxOf (L2.CX P w) P w K mg base d_law_raised.N "_law_raised" (defScope (top 40)) (He.ga K "_law_raised") cdv A outer s H E).env (cxOf (L2.CX P w) P w K mg base d_law_raised.N "_law_raised" (defScope (top 40)) (He.ga K "_law_raised") cdv A outer s H E).xe := passes_of rfl
  show CSs _ _ _ _ m_law_raised
  unfold m_law_raised
  exact (cs_cons (cs_try cf rfl rfl S.nd tk (fun _ _ _ tk2 hp2 => (cs_one (cs_if (ct_cmp (or_eq cf.tr.q) od_eq (ce_v (i := 0)) ce_str) (cs_one (cs_expr (ce_cmK cf.tr tk2 (CK103_of_columns_note Y) (by decide) (pe_glob rfl (Y.gl "Change" (by decide +kernel)) rfl) (ca_cons (ce_v (i := 1)) (ca_cons (ce_v (i := 2)) ca_nil)) (ck_cons (ce_v (i := 3)) (ck_cons (ce_v (i := 4)) ck_nil))))) (cs_one (cs_if (ct_cmp (or_eq cf.tr.q) od_eq (ce_v (i := 0)) ce_str) (cs_one (cs_expr (ce_cmK cf.tr tk2 (CK104_of_note Y) (by decide) (pe_glob rfl (Y.gl "End" (by decide +kernel)) rfl) (ca_cons (ce_v (i := 1)) (ca_cons (ce_v (i := 2)) ca_nil)) (ck_cons (ce_v (i := 4)) ck_nil)))) (cs_one (cs_if (ct_cmp (or_eq cf.tr.q) od_eq (ce_v (i := 0)) ce_str) (cs_one (cs_expr (ce_mkVP (j := 6) (cf.tr.mono (by decide)) tk2 (MV103 Y) (by decide) (ce_ofC (pe_glob rfl (Y.gl "Change" (by decide +kernel)) rfl)) (ca_cons (ce_v (i := 1)) (ca_cons (ce_ix cf.tr (ce_v (i := 2)) ce_int) (ca_cons (ce_ix cf.tr (ce_v (i := 2)) ce_int) ca_nil))) (ck_cons (ce_v (i := 3)) (ck_cons (ce_v (i := 4)) ck_nil))))) (cs_one (cs_expr (ce_mkIp (j := 6) (cf.tr.mono (by decide)) tk2 (MI102_2_note Y) (by decide) (Y.gl "Make" (by decide +kernel)) (ca_cons (ce_v (i := 1)) (ca_cons (ce_ix cf.tr (ce_v (i := 2)) ce_int) ca_nil)) (ck_cons (ce_v (i := 4)) ck_nil))))))))))) (HdD.cons ⟨rfl, by decide, .inl (Y.gl "BadName" (by decide +kernel))⟩ rfl rfl (Y.xm 0 (by decide)) (fun _ _ _ _ cq => (cs_one (cs_ret (ce_if (ct_bool (cw_and (ct_val (ce_isi cq (ClsV.ty "ValueError") (Y.sb 0 (by decide)) (ce_v (i := 5)) (pe_bltn rfl Y.free_ValueError PyProof.Rows.Boot.ValueError rfl) Y.free_isinstance)) (cw_and1 (ct_not (ct_val (ce_isiT (q := (subO 2, .ref (He.ga K "BadMove"))) (l := [(subO 1, .ref (He.ga K "BadNote")), (subO 3, .ref (He.ga K "Twice"))]) (cs := [.ref (He.ga K "BadMove"), .ref (He.ga K "BadNote"), .ref (He.ga K "Twice")]) cq (.cons (ClsV.own _) (.cons (ClsV.own _) (.cons (ClsV.own _) .nil))) (sub_cons (Y.so 2 (by decide)) (sub_cons (Y.so 1 (by decide)) (sub_cons (Y.so 3 (by decide)) sub_nil))) (ce_v (i := 5)) (pa_cls (pe_glob rfl (Y.gl "BadMove" (by decide +kernel)) rfl) (pa_cls (pe_glob rfl (Y.gl "BadNote" (by decide +kernel)) rfl) (pa_cls (pe_glob rfl (Y.gl "Twice" (by decide +kernel)) rfl) pa_cls0))) rfl Y.free_isinstance)))))) (ce_tup (ca_cons ce_str (ca_cons (ce_att cq Y.rc.ex rfl (ce_v (i := 5))) ca_nil))) (ce_tup ca_nil))))) (HdD.cons ⟨rfl, by decide, .inl (Y.gl "BadMove" (by decide +kernel))⟩ rfl rfl (Y.xm 2 (by decide)) (fun _ _ _ _ cq => (cs_one (cs_ret (ce_if (ct_bool (cw_and (ct_val (ce_isi cq (ClsV.ty "ValueError") (Y.sb 0 (by decide)) (ce_v (i := 5)) (pe_bltn rfl Y.free_ValueError PyProof.Rows.Boot.ValueError rfl) Y.free_isinstance)) (cw_and1 (ct_not (ct_val (ce_isiT (q := (subO 1, .ref (He.ga K "BadNote"))) (l := [(subO 3, .ref (He.ga K "Twice"))]) (cs := [.ref (He.ga K "BadNote"), .ref (He.ga K "Twice")]) cq (.cons (ClsV.own _) (.cons (ClsV.own _) .nil)) (sub_cons (Y.so 1 (by decide)) (sub_cons (Y.so 3 (by decide)) sub_nil)) (ce_v (i := 5)) (pa_cls (pe_glob rfl (Y.gl "BadNote" (by decide +kernel)) rfl) (pa_cls (pe_glob rfl (Y.gl "Twice" (by decide +kernel)) rfl) pa_cls0)) rfl Y.free_isinstance)))))) (ce_tup (ca_cons ce_str (ca_cons (ce_att cq Y.rc.ex rfl (ce_v (i := 5))) ca_nil))) (ce_tup ca_nil))))) (HdD.cons ⟨rfl, by decide, .inl (Y.gl "BadNote" (by decide +kernel))⟩ rfl rfl (Y.xm 1 (by decide)) (fun _ _ _ _ cq => (cs_one (cs_ret (ce_if (ct_bool (cw_and (ct_val (ce_isi cq (ClsV.ty "ValueError") (Y.sb 0 (by decide)) (ce_v (i := 5)) (pe_bltn rfl Y.free_ValueError PyProof.Rows.Boot.ValueError rfl) Y.free_isinstance)) (cw_and1 (ct_not (ct_val (ce_isi cq (ClsV.own _) (Y.so 3 (by decide)) (ce_v (i := 5)) (pe_glob rfl (Y.gl "Twice" (by decide +kernel)) rfl) Y.free_isinstance)))))) (ce_tup (ca_cons ce_str (ca_cons (ce_att cq Y.rc.ex rfl (ce_v (i := 5))) ca_nil))) (ce_tup ca_nil))))) (HdD.cons ⟨rfl, by decide, .inl (Y.gl "Twice" (by decide +kernel))⟩ rfl rfl (Y.xm 3 (by decide)) (fun _ _ _ _ cq => (cs_one (cs_ret (ce_if (ct_bool (cw_and (ct_val (ce_isi cq (ClsV.ty "ValueError") (Y.sb 0 (by decide)) (ce_v (i := 5)) (pe_bltn rfl Y.free_ValueError PyProof.Rows.Boot.ValueError rfl) Y.free_isinstance)) (cw_and1 (ct_not (ct_val (ce_isi cq (ClsV.ty "OverflowError") (Y.sb 3 (by decide)) (ce_v (i := 5)) (pe_bltn rfl Y.free_OverflowError PyProof.Rows.Boot.OverflowError rfl) Y.free_isinstance)))))) (ce_tup (ca_cons ce_str (ca_cons (ce_att cq Y.rc.ex rfl (ce_v (i := 5))) ca_nil))) (ce_tup ca_nil))))) (HdD.cons ⟨rfl, by decide, .inl (Y.gl "TooMany" (by decide +kernel))⟩ rfl rfl (Y.xm 6 (by decide)) (fun _ _ _ _ cq => (cs_one (cs_ret (ce_if (ct_bool (cw_and (ct_val (ce_isi cq (ClsV.ty "OverflowError") (Y.sb 3 (by decide)) (ce_v (i := 5)) (pe_bltn rfl Y.free_OverflowError PyProof.Rows.Boot.OverflowError rfl) Y.free_isinstance)) (cw_and1 (ct_not (ct_val (ce_isi cq (ClsV.ty "ValueError") (Y.sb 0 (by decide)) (ce_v (i := 5)) (pe_bltn rfl Y.free_ValueError PyProof.Rows.Boot.ValueError rfl) Y.free_isinstance)))))) (ce_tup (ca_cons ce_str (ca_cons (ce_att cq Y.rc.ex rfl (ce_v (i := 5))) ca_nil))) (ce_tup ca_nil))))) HdD.nil)))))) (cs_one (cs_ret ce_non)))
theorem C_law_raised (Y : Kn P w K mg base) : Cal P w K mg base (cc K) 9 "_law_raised" 5 f_law_raised := by
  obtain ⟨fd, F⟩ := Y.fn_law_raised
  exact ⟨_, fd, ["_law_way", "_law_name", "_law_parts", "_law_cols", "_law_memo"], Y.gl "_law_raised" (by decide +kernel), F.kp, F.bindsN (fun _ _ _ _ _ _ us hl => match us, hl with | [_, _, _, _, _], _ => rfl), w_law_raised Y F⟩
theorem w_law_spoil (Y : Kn P w K mg base) {fd : FuncData} (F : FunD K "_law_spoil" "_law_spoil" (defArgs (top 41)) (defBody (top 41)) (defScope (top 41)) [] [] (He.ga K "_law_spoil") fd) : FnG P w K mg base 2 (He.ga K "_law_spoil") fd ["_law_bag_here", "_law_things", "_law_odd_here"] (spM (cc K) 3 f_law_spoil) := by
  have S : FnScope d_law_spoil.N ["_law_bag_here", "_law_things", "_law_odd_here"] (defScope (top 41)) := C8.fnScope_by (by decide +kernel)
  refine def_ok (c := cc K) (k := 1) (N := d_law_spoil.N) (fin := finD) (m := m_law_spoil) rfl rfl F S fin_keep (fun cdv A outer s H E cf => ?_)
  have tk : Takes (cxOf (L2.CX P w) P w K mg base d_law_spoil.N "_law_spoil" (defScope (top 41)) (He.ga K "_law_spoil") cdv A outer s H E) (fun cls d _ H => E cls d H) := takes_of rfl rfl rfl rfl
  have hp : PassesOwn (model P w) (cxOf (L2.CX P w) P w K mg base d_law_spoil.N "_law_spoil" (defScope (top 41)) (He.ga K "_law_spoil") cdv A outer s H E).A (cxOf (L2.CX P w) P w K mg base d_law_spoil.N "_law_spoil" (defScope (top 41)) (He.ga K "_law_spoil") cdv A outer s H E).env (cxOf (L2.CX P w) P w K mg base d_law_spoil.N "_law_spoil" (defScope (top 41)) (He.ga K "_law_spoil") cdv A outer s H E).xe := passes_of rfl
  show CSs _ _ _ _ m_law_spoil
  unfold m_law_spoil
  exact (cs_cons (cs_if (ct_cmp (or_eqE cf) od_eqE (ce_v (i := 1)) (ce_lst ca_nil)) (cs_one (cs_ret (ce_v (i := 1)))) cs_nil) (cs_cons (cs_par (i := 3) (j := 4) cf S.nd (ca_cons (ce_cal cf tk (C_law_take Y) (by decide) (ca_cons (ce_v (i := 0)) (ca_cons (ce_callB (cr_len cf) cl_len rfl Y.free_len boot_len (ca_cons (ce_v (i := 1)) ca_nil)) ca_nil))) (ca_cons (ce_callTy (cr_listD cf) cl_listC rfl Y.free_list PyProof.Rows.boot_list (ca_cons (ce_v (i := 1)) ca_nil)) ca_nil))) (cs_cons (cs_sub (ce_if (ct_cmp (or_eq cf.q) od_eq (ce_cal cf tk (C_law_take Y) (by decide) (ca_cons (ce_v (i := 0)) (ca_cons ce_int ca_nil))) ce_int) (ce_v (i := 2)) (ce_ix cf (ce_v (i := 1)) (ce_cal cf tk (C_law_take Y) (by decide) (ca_cons (ce_v (i := 0)) (ca_cons (ce_callB (cr_len cf) cl_len rfl Y.free_len boot_len (ca_cons (ce_v (i := 1)) ca_nil)) ca_nil))))) (ce_v (i := 4)) (ce_v (i := 3)) (hg := pg_sub (ce_v (i := 4)) (ce_v (i := 3)) set_list)) (cs_one (cs_ret (ce_v (i := 4)))))))
theorem C_law_spoil (Y : Kn P w K mg base) : Cal P w K mg base (cc K) 2 "_law_spoil" 3 f_law_spoil := by
  obtain ⟨fd, F⟩ := Y.fn_law_spoil
  exact ⟨_, fd, ["_law_bag_here", "_law_things", "_law_odd_here"], Y.gl "_law_spoil" (by decide +kernel), F.kp, F.bindsN (fun _ _ _ _ _ _ us hl => match us, hl with | [_, _, _], _ => rfl), w_law_spoil Y F⟩
theorem w_law_drawn (Y : Kn P w K mg base) {fd : FuncData} (F : FunD K "_law_drawn" "_law_drawn" (defArgs (top 42)) (defBody (top 42)) (defScope (top 42)) [] [] (He.ga K "_law_drawn") fd) : FnG P w K mg base 7 (He.ga K "_law_drawn") fd ["_law_bag_here"] (spM (cc K) 1 f_law_drawn) := by
  have S : FnScope d_law_drawn.N ["_law_bag_here"] (defScope (top 42)) := C8.fnScope_by (by decide +kernel)
  refine def_ok (c := cc K) (k := 6) (N := d_law_drawn.N) (fin := finD) (m := m_law_drawn) rfl rfl F S fin_keep (fun cdv A outer s H E cf => ?_)
  have tk : Takes (cxOf (L2.CX P w) P w K mg base d_law_drawn.N "_law_drawn" (defScope (top 42)) (He.ga K "_law_drawn") cdv A outer s H E) (fun cls d _ H => E cls d H) := takes_of rfl rfl rfl rfl
  have hp : PassesOwn (model P w) (cxOf (L2.CX P w) P w K mg base d_law_drawn.N "_law_drawn" (defScope (top 42)) (He.ga K "_law_drawn") cdv A outer s H E).A (cxOf (L2.CX P w) P w K mg base d_law_drawn.N "_law_drawn" (defScope (top 42)) (He.ga K "_law_drawn") cdv A outer s H E).env (cxOf (L2.CX P w) P w K mg base d_law_drawn.N "_law_drawn" (defScope (top 42)) (He.ga K "_law_drawn") cdv A outer s H E).xe := passes_of rfl
  show CSs _ _ _ _ m_law_drawn
  unfold m_law_drawn
  exact (cs_cons (cs_asg (ce_tup (ca_cons (ce_cal cf tk (C_law_names Y) (by decide) (ca_cons (ce_v (i := 0)) (ca_cons ce_int (ca_cons (ce_lst ca_nil) ca_nil)))) (ca_cons (ce_ix cf (ce_cal cf tk (C_law_names Y) (by decide) (ca_cons (ce_v (i := 0)) (ca_cons ce_int (ca_cons (ce_lst ca_nil) ca_nil)))) ce_int) ca_nil))) (cg_tup cf.kk cf.calm (cgs_cons (cg_name (i := 1) S.nd) (cgs_cons (cg_name (i := 2) S.nd) cgs_nil)))) (cs_cons (cs_setLc (own := [("_law_state", 4)]) cf S.nd finL_ok (ci_list cf (ce_slice cf (ce_v (i := 1)) co_none (co_some (ce_cal cf tk (C_law_take Y) (by decide) (ca_cons (ce_v (i := 0)) (ca_cons ce_int ca_nil)))))) (blk_by (by show blkB d_law_drawn.N (defScope (top 42)) _ _ = true; decide +kernel)) (by decide) (fun _ _ _ _ _ => (cg_name (i := 4) S.nd)) (fun _ _ _ _ _ => cts_nil) (fun _ _ _ _ _ => (ce_tup (ca_cons (ce_v (i := 4)) (ca_cons (ce_cal cf.blk takes0 (C_law_of Y) (by decide) (ca_cons (ce_v (i := 0)) (ca_cons (ce_v (i := 1)) ca_nil))) ca_nil)))) (by rfl)) (cs_cons (cs_par (i := 5) (j := 6) cf S.nd (ca_cons (ce_cal cf tk (C_law_names Y) (by decide) (ca_cons (ce_v (i := 0)) (ca_cons (ce_cal cf tk (C_law_take Y) (by decide) (ca_cons (ce_v (i := 0)) (ca_cons ce_int ca_nil))) (ca_cons (ce_lst ca_nil) ca_nil)))) (ca_cons (ce_slice cf (ce_v (i := 1)) co_none (co_some (ce_cal cf tk (C_law_take Y) (by decide) (ca_cons (ce_v (i := 0)) (ca_cons ce_int ca_nil))))) ca_nil))) (cs_cons (cs_set (i := 7) S.nd (ce_cal cf tk (C_law_of Y) (by decide) (ca_cons (ce_v (i := 0)) (ca_cons (ce_lst (ca_cons ce_non (ca_cons (ce_mkI (j := 5) (cf.mono (by decide)) tk (MI100_none Y) (by decide) (Y.gl "Note" (by decide +kernel)) ck_nil) (ca_cons (ce_mkI (j := 5) (cf.mono (by decide)) tk (MI100_old_changed Y) (by decide) (Y.gl "Note" (by decide +kernel)) (ck_cons (ce_lst (ca_cons ce_str ca_nil)) (ck_cons ce_bl ck_nil))) ca_nil)))) ca_nil)))) (cs_cons (cs_for cf hp (ci_range (ca_cons (ce_cal cf tk (C_law_take Y) (by decide) (ca_cons (ce_v (i := 0)) (ca_cons ce_int ca_nil))) ca_nil) Y.free_range) (cg_name (i := 8) S.nd) (cs_cons (cs_set (i := 9) S.nd (ce_cal cf tk (C_law_take Y) (by decide) (ca_cons (ce_v (i := 0)) (ca_cons ce_int ca_nil)))) (cs_cons (cs_set (i := 10) S.nd (ce_cal cf tk (C_law_odd Y) (by decide) (ca_cons (ce_v (i := 0)) (ca_cons (ce_ix cf (ce_v (i := 1)) ce_int) ca_nil)))) (cs_cons (cs_if (ct_cmp (or_eq cf.q) od_eq (ce_v (i := 9)) ce_int) (cs_one (cs_set (i := 2) S.nd (ce_v (i := 10)))) cs_nil) (cs_cons (cs_if (ct_cmp (or_eq cf.q) od_eq (ce_v (i := 9)) ce_int) (cs_cons (cs_set (i := 11) S.nd (ce_lst (ca_cons (ce_v (i := 10)) (ca_cons (ce_tup (ca_cons (ce_ix cf (ce_v (i := 1)) ce_int) (ca_cons (ce_v (i := 10)) ca_nil))) (ca_cons (ce_tup (ca_cons (ce_v (i := 10)) (ca_cons (ce_ix cf (ce_v (i := 1)) ce_int) ca_nil))) (ca_cons (ce_tup (ca_cons (ce_ix cf (ce_v (i := 1)) ce_int) ca_nil)) (ca_cons (ce_tup (ca_cons ce_str (ca_cons ce_str (ca_cons ce_str ca_nil)))) (ca_cons (ce_lst (ca_cons ce_str (ca_cons ce_str ca_nil))) ca_nil)))))))) (cs_cons (cs_set (i := 11) S.nd (ce_cal cf tk (C_law_of Y) (by decide) (ca_cons (ce_v (i := 0)) (ca_cons (ce_v (i := 11)) ca_nil)))) (cs_one (cs_set (i := 3) S.nd (ce_cal cf tk (C_law_spoil Y) (by decide) (ca_cons (ce_v (i := 0)) (ca_cons (ce_v (i := 3)) (ca_cons (ce_if (ct_not (ct_val (ce_cal cf tk (C_law_is_move Y) (by decide) (ca_cons (ce_v (i := 11)) ca_nil)))) (ce_v (i := 11)) ce_non) ca_nil)))))))) cs_nil) (cs_cons (cs_if (ct_cmp (or_eq cf.q) od_eq (ce_v (i := 9)) ce_int) (cs_one (cs_set (i := 5) S.nd (ce_cal cf tk (C_law_spoil Y) (by decide) (ca_cons (ce_v (i := 0)) (ca_cons (ce_v (i := 5)) (ca_cons (ce_v (i := 10)) ca_nil)))))) cs_nil) (cs_cons (cs_if (ct_cmp (or_eq cf.q) od_eq (ce_v (i := 9)) ce_int) (cs_one (cs_set (i := 6) S.nd (ce_cal cf tk (C_law_spoil Y) (by decide) (ca_cons (ce_v (i := 0)) (ca_cons (ce_v (i := 6)) (ca_cons (ce_v (i := 10)) ca_nil)))))) cs_nil) (cs_one (cs_if (ct_cmp (or_eq cf.q) od_eq (ce_v (i := 9)) ce_int) (cs_one (cs_set (i := 7) S.nd (ce_cal cf tk (C_law_of Y) (by decide) (ca_cons (ce_v (i := 0)) (ca_cons (ce_lst (ca_cons ce_int (ca_cons ce_bl (ca_cons ce_str (ca_cons (ce_tup ca_nil) (ca_cons (ce_lst (ca_cons ce_non ca_nil)) (ca_cons ce_dic0 ca_nil))))))) ca_nil))))) cs_nil))))))))) (cs_one (cs_ret (ce_tup (ca_cons (ce_v (i := 2)) (ca_cons (ce_v (i := 3)) (ca_cons (ce_v (i := 5)) (ca_cons (ce_v (i := 6)) (ca_cons (ce_v (i := 7)) ca_nil)))))))))))))
theorem C_law_drawn (Y : Kn P w K mg base) : Cal P w K mg base (cc K) 7 "_law_drawn" 1 f_law_drawn := by
  obtain ⟨fd, F⟩ := Y.fn_law_drawn
  exact ⟨_, fd, ["_law_bag_here"], Y.gl "_law_drawn" (by decide +kernel), F.kp, F.bindsN (fun _ _ _ _ _ _ us hl => match us, hl with | [_], _ => rfl), w_law_drawn Y F⟩
theorem wlaw (Y : Kn P w K mg base) {fd : FuncData} (F : FunD K "law" "law" (defArgs (top 43)) (defBody (top 43)) (defScope (top 43)) [] [] (He.ga K "law") fd) : FnG P w K mg base 10 (He.ga K "law") fd ["_law_script"] (spM (cc K) 1 flaw) := by
  have S : FnScope dlaw.N ["_law_script"] (defScope (top 43)) := C8.fnScope_by (by decide +kernel)
  refine def_ok (c := cc K) (k := 9) (N := dlaw.N) (fin := finD) (m := mlaw) rfl rfl F S fin_keep (fun cdv A outer s H E cf => ?_)
  have tk : Takes (cxOf (L2.CX P w) P w K mg base dlaw.N "law" (defScope (top 43)) (He.ga K "law") cdv A outer s H E) (fun cls d _ H => E cls d H) := takes_of rfl rfl rfl rfl
  have hp : PassesOwn (model P w) (cxOf (L2.CX P w) P w K mg base dlaw.N "law" (defScope (top 43)) (He.ga K "law") cdv A outer s H E).A (cxOf (L2.CX P w) P w K mg base dlaw.N "law" (defScope (top 43)) (He.ga K "law") cdv A outer s H E).env (cxOf (L2.CX P w) P w K mg base dlaw.N "law" (defScope (top 43)) (He.ga K "law") cdv A outer s H E).xe := passes_of rfl
  show CSs _ _ _ _ mlaw
  unfold mlaw
  exact (cs_cons (cs_for cf hp (ci_range (ca_cons (ce_callB (call_max2 cf.calm) cl_max rfl Y.free_max boot_max (ca_cons ce_int (ca_cons (ce_callB (call_min2 cf.calm) cl_min rfl Y.free_min boot_min (ca_cons ce_int (ca_cons (ce_callB (cr_len cf) cl_len rfl Y.free_len boot_len (ca_cons (ce_v (i := 0)) ca_nil)) ca_nil))) ca_nil))) ca_nil) Y.free_range) (cg_name (i := 1) S.nd) (cs_cons (cs_set (i := 2) S.nd (ce_cal cf tk (C_law_bag Y) (by decide) (ca_cons (ce_v (i := 0)) (ca_cons (ce_v (i := 1)) ca_nil)))) (cs_cons (cs_asg (ce_cal cf tk (C_law_drawn Y) (by decide) (ca_cons (ce_v (i := 2)) ca_nil)) (cg_tup cf.kk cf.calm (cgs_cons (cg_name (i := 3) S.nd) (cgs_cons (cg_name (i := 4) S.nd) (cgs_cons (cg_name (i := 5) S.nd) (cgs_cons (cg_name (i := 6) S.nd) (cgs_cons (cg_name (i := 7) S.nd) cgs_nil))))))) (cs_cons (cs_set (i := 8) S.nd (ce_callB (call_rpr cf Y.sy) cl_reprR rfl Y.free_repr PyProof.Rows.boot_repr (ca_cons (ce_tup (ca_cons (ce_v (i := 3)) (ca_cons (ce_v (i := 4)) (ca_cons (ce_v (i := 5)) (ca_cons (ce_v (i := 6)) ca_nil))))) ca_nil))) (cs_cons (cs_set (i := 9) S.nd (ce_if (ct_val (ce_cal cf tk (C_law_is_name Y) (by decide) (ca_cons (ce_v (i := 3)) ca_nil))) ce_non (ce_tup (ca_cons ce_str (ca_cons (ce_v (i := 3)) ca_nil))))) (cs_cons (cs_set (i := 10) S.nd (ce_cal cf tk (C_law_first Y) (by decide) (ca_cons (ce_lst (ca_cons (ce_v (i := 9)) (ca_cons (ce_cal cf tk (C_law_due_moves Y) (by decide) (ca_cons (ce_v (i := 4)) ca_nil)) (ca_cons (ce_cal cf tk (C_law_due_names Y) (by decide) (ca_cons (ce_v (i := 5)) (ca_cons ce_int ca_nil))) ca_nil)))) (ca_cons (ce_v (i := 7)) ca_nil)))) (cs_cons (cs_if (ct_cmp (or_ne cf.q) od_ne (ce_callB (call_rpr cf Y.sy) cl_reprR rfl Y.free_repr PyProof.Rows.boot_repr (ca_cons (ce_cal cf tk (C_law_raised Y) (by decide) (ca_cons ce_str (ca_cons (ce_v (i := 3)) (ca_cons (ce_v (i := 4)) (ca_cons (ce_v (i := 5)) (ca_cons (ce_v (i := 7)) ca_nil)))))) ca_nil)) (ce_callB (call_rpr cf Y.sy) cl_reprR rfl Y.free_repr PyProof.Rows.boot_repr (ca_cons (ce_v (i := 10)) ca_nil))) (cs_one (cs_ret ce_bl)) cs_nil) (cs_cons (cs_if (ct_bool (cw_and (ct_cmp (or_eq cf.q) od_eq (ce_callB (cr_len cf) cl_len rfl Y.free_len boot_len (ca_cons (ce_v (i := 4)) ca_nil)) ce_int) (cw_and1 (ct_cmp (or_ne cf.q) od_ne (ce_callB (call_rpr cf Y.sy) cl_reprR rfl Y.free_repr PyProof.Rows.boot_repr (ca_cons (ce_cal cf tk (C_law_raised Y) (by decide) (ca_cons ce_str (ca_cons (ce_v (i := 3)) (ca_cons (ce_v (i := 4)) (ca_cons (ce_v (i := 5)) (ca_cons (ce_v (i := 7)) ca_nil)))))) ca_nil)) (ce_callB (call_rpr cf Y.sy) cl_reprR rfl Y.free_repr PyProof.Rows.boot_repr (ca_cons (ce_v (i := 10)) ca_nil)))))) (cs_one (cs_ret ce_bl)) cs_nil) (cs_cons (cs_set (i := 10) S.nd (ce_cal cf tk (C_law_first Y) (by decide) (ca_cons (ce_lst (ca_cons (ce_v (i := 9)) (ca_cons (ce_cal cf tk (C_law_due_names Y) (by decide) (ca_cons (ce_v (i := 6)) (ca_cons ce_int ca_nil))) ca_nil))) (ca_cons (ce_v (i := 7)) ca_nil)))) (cs_cons (cs_if (ct_cmp (or_ne cf.q) od_ne (ce_callB (call_rpr cf Y.sy) cl_reprR rfl Y.free_repr PyProof.Rows.boot_repr (ca_cons (ce_cal cf tk (C_law_raised Y) (by decide) (ca_cons ce_str (ca_cons (ce_v (i := 3)) (ca_cons (ce_v (i := 6)) (ca_cons (ce_lst ca_nil) (ca_cons (ce_v (i := 7)) ca_nil)))))) ca_nil)) (ce_callB (call_rpr cf Y.sy) cl_reprR rfl Y.free_repr PyProof.Rows.boot_repr (ca_cons (ce_v (i := 10)) ca_nil))) (cs_one (cs_ret ce_bl)) cs_nil) (cs_cons (cs_if (ct_cmp (or_neE cf) od_neE (ce_v (i := 6)) (ce_lst ca_nil)) (cs_cons (cs_set (i := 10) S.nd (ce_cal cf tk (C_law_first Y) (by decide) (ca_cons (ce_lst (ca_cons (ce_v (i := 9)) (ca_cons (ce_cal cf tk (C_law_due_names Y) (by decide) (ca_cons (ce_slice cf (ce_v (i := 6)) co_none (co_some ce_int)) (ca_cons ce_int ca_nil))) ca_nil))) (ca_cons (ce_v (i := 7)) ca_nil)))) (cs_one (cs_if (ct_cmp (or_ne cf.q) od_ne (ce_callB (call_rpr cf Y.sy) cl_reprR rfl Y.free_repr PyProof.Rows.boot_repr (ca_cons (ce_cal cf tk (C_law_raised Y) (by decide) (ca_cons ce_str (ca_cons (ce_v (i := 3)) (ca_cons (ce_v (i := 6)) (ca_cons (ce_lst ca_nil) (ca_cons (ce_v (i := 7)) ca_nil)))))) ca_nil)) (ce_callB (call_rpr cf Y.sy) cl_reprR rfl Y.free_repr PyProof.Rows.boot_repr (ca_cons (ce_v (i := 10)) ca_nil))) (cs_one (cs_ret ce_bl)) cs_nil))) cs_nil) (cs_one (cs_if (ct_cmp (or_ne cf.q) od_ne (ce_callB (call_rpr cf Y.sy) cl_reprR rfl Y.free_repr PyProof.Rows.boot_repr (ca_cons (ce_tup (ca_cons (ce_v (i := 3)) (ca_cons (ce_v (i := 4)) (ca_cons (ce_v (i := 5)) (ca_cons (ce_v (i := 6)) ca_nil))))) ca_nil)) (ce_v (i := 8))) (cs_one (cs_ret ce_bl)) cs_nil))))))))))))) (cs_one (cs_ret ce_bl)))
theorem Claw (Y : Kn P w K mg base) : Cal P w K mg base (cc K) 10 "law" 1 flaw := by
  obtain ⟨fd, F⟩ := Y.fnlaw
  exact ⟨_, fd, ["_law_script"], Y.gl "law" (by decide +kernel), F.kp, F.bindsN (fun _ _ _ _ _ _ us hl => match us, hl with | [_], _ => rfl), wlaw Y F⟩
end
end K07

end
section
namespace K07
open PySem PySem.Spec L2 DL
/-! the law's bag of numbers -/
theorem bag_loop (s0 s1 s2 : Option D) (S : Sto) : ∀ (items : List D), (∀ d ∈ items, ∃ k x, d = .tup [.int k, .int x]) → ∀ (b : Int) (u v : Option D),
    ∃ b' u' v', forGo (gT [gN 4, gN 5]) (sSet 3 (mBin fMod (mCall fInt (mCons (mBin fAdd (mBin fAdd (mBin fAdd (mBin fMul (mVar 3) (mC (.int 40014))) (mBin fMod (mCall fInt (mCons (mVar 5) (mNil))) (mC (.int 2147483399)))) (mBin fMul (mC (.int 53)) (mVar 4))) (mC (.int 17))) (mNil))) (mC (.int 2147483563)))) items [s0, s1, s2, some (.int b), u, v] S = .nx [s0, s1, s2, some (.int b'), u', v'] S
  | [], _, b, u, v => ⟨b, u, v, rfl⟩
  | d :: r, h, b, u, v => by
    obtain ⟨k, x, rfl⟩ := h d List.mem_cons_self
    obtain ⟨b', u', v', e⟩ := bag_loop s0 s1 s2 S r (fun d hd => h d (List.mem_cons_of_mem _ hd)) ((b * 40014 + x % 2147483399 + 53 * k + 17) % 2147483563) (some (.int k)) (some (.int x))
    refine ⟨b', u', v', ?_⟩
    rw [← e]
    simp [forGo, gT, gTs, gN, sSet, mBin, mCall, mCons, mNil, mVar, mC, fMod, fInt, fAdd, fMul]
theorem cell_of (ns : List Int) (i : Nat) (S : Sto) (r : List (Option D)) : ∃ a : Int, mIf (mTest (mBin fLt (mVar 1) (mCall fLenS (mCons (mVar 0) (mNil))))) (mBin fIx (mVar 0) (mVar 1)) (mC (.int 0)) (some (.lst (ns.map D.int)) :: some (.int i) :: r) S = .ok (.int a) S := by
  by_cases h : i < ns.length
  · refine ⟨ns[i], ?_⟩
    have h' : (i : Int) < ns.length := by omega
    simp [mIf, mTest, mBin, mVar, mCall, mCons, mNil, fLt, fLenS, D.sq, D.seq, h', fIx, atI, ixN, h]
  · refine ⟨0, ?_⟩
    have h' : ¬ (i : Int) < ns.length := by omega
    simp [mIf, mTest, mBin, mVar, mCall, mCons, mNil, mC, fLt, fLenS, D.sq, D.seq, h']
theorem big_of (a : Int) (S : Sto) (s0 s1 : Option D) (r : List (Option D)) : ∃ a' : Int, mIf (mTest (mBin fGe (mCall fAbs (mCons (mVar 2) (mNil))) (mBin fPow (mC (.int 10)) (mC (.int 18))))) (mCall fAbs (mCons (mVar 2) (mNil))) (mC (.int 0)) (s0 :: s1 :: some (.int a) :: r) S = .ok (.int a') S := by
  by_cases h : (1000000000000000000 : Int) ≤ (if a < 0 then -a else a)
  · refine ⟨if a < 0 then -a else a, ?_⟩
    simp [mIf, mTest, mBin, mVar, mCall, mCons, mNil, mC, fGe, fAbs, fPow, h]
  · refine ⟨0, ?_⟩
    simp [mIf, mTest, mBin, mVar, mCall, mCons, mNil, mC, fGe, fAbs, fPow, h]
theorem bag (ns : List Int) (i : Nat) (S : Sto) : ∃ a b, f_law_bag [.lst (ns.map D.int), .int i] S = .ok (.loc S.length) (S ++ [.lst [.int a, .int b]]) := by
  obtain ⟨a, ea⟩ := cell_of ns i S [none, none, none, none]
  obtain ⟨b', u', v', e⟩ := bag_loop (some (.lst (ns.map D.int))) (some (.int i)) (some (.int a)) S _ (enum_shape (ns := ns) (lo := none) (hi := some 40)) (7411 * i + 271) none none
  obtain ⟨a', ea'⟩ := big_of a S (some (.lst (ns.map D.int))) (some (.int i)) [some (.int b'), u', v']
  refine ⟨a', b', ?_⟩
  have e0 : m_law_bag [some (.lst (ns.map D.int)), some (.int i), none, none, none, none] S = .ret (.loc S.length) (S ++ [.lst [.int a', .int b']]) := by
    unfold m_law_bag
    rw [seq_nx (set_ok ea), seq_nx (set_ok (d := .int (7411 * i + 271)) (S1 := S) (by simp [mBin, mC, mVar, fMul, fAdd])), seq_nx (δ1 := [some (.lst (ns.map D.int)), some (.int i), some (.int a), some (.int b'), u', v']) (S1 := S)]
    · exact ret_ok (by
        rw [call_ok (cons_ok ea' (cons_ok (var_ok rfl) nil_ok))]
        simp [fLstC, D.cleanL, D.clean])
    · rw [for_ok' (ds := (cutD (ns.map D.int) none (some 40)).mapIdx (fun i x => D.tup [.int (i : Int), x])) (S1 := S)]
      · exact e
      · simp [mEnI, mSlice, mVar, mPart, mC, fCut, D.seq]
  simp [f_law_bag, mDef, e0, finK]
theorem take (n : Nat) (a b many : Int) (S : Sto) (hS : S[n]? = some (.lst [.int a, .int b])) (h0 : 0 < many) (h1 : many < 2 ^ 200) : ∃ d a' b', f_law_take [.loc n, .int many] S = .ok (.int d) (S.set n (.lst [.int a', .int b'])) ∧ 0 ≤ d ∧ d < many := by
  have hn : n < S.length := (List.getElem?_eq_some_iff.mp hS).1
  have h1' : many < 1606938044258990275541962092341162602522202993782792835301376 := by simpa using h1
  by_cases h : 0 < a
  · refine ⟨a % many, a / many, b, ?_, Int.emod_nonneg _ (by omega), Int.emod_lt_of_pos _ h0⟩
    have e0 : m_law_take [some (.loc n), some (.int many), none] S = .ret (.int (a % many)) (S.set n (.lst [.int (a / many), .int b])) := by
      unfold m_law_take
      have ix : mBin fIx (mVar 0) (mC (.int 0)) [some (.loc n), some (.int many), none] S = .ok (.int a) S := by simp [mBin, mVar, mC, fIx, D.sq, D.seq, hS, atI, ixN]
      refine seq_ret ?_
      rw [if_t (S1 := S) (test_ok (by rw [bin_ok ix c_ok]; simp [fGt, h]))]
      rw [seq_nx (set_ok (d := .int (a % many)) (S1 := S) (by rw [bin_ok (call_ok (cons_ok ix nil_ok)) (var_ok rfl)]; simp [fInt, fMod, h0]))]
      rw [seq_nx (δ1 := [some (.loc n), some (.int many), some (.int (a % many))]) (S1 := S.set n (.lst [.int (a / many), .int b]))]
      · exact ret_ok (var_ok rfl)
      · simp [sSub, mBin, mVar, mC, fIx, D.sq, D.seq, hS, atI, ixN, fDiv, h0, h1', D.clean, hS]
    simp [f_law_take, mDef, e0, finD]
  · refine ⟨((b * 40692 + 3571) % 2147483399 / 13 * 69691) % 2147483563 / 16 % many, a, (b * 40692 + 3571) % 2147483399, ?_, Int.emod_nonneg _ (by omega), Int.emod_lt_of_pos _ h0⟩
    have e0 : m_law_take [some (.loc n), some (.int many), none] S = .ret (.int (((b * 40692 + 3571) % 2147483399 / 13 * 69691) % 2147483563 / 16 % many)) (S.set n (.lst [.int a, .int ((b * 40692 + 3571) % 2147483399)])) := by
      unfold m_law_take
      have ix : mBin fIx (mVar 0) (mC (.int 0)) [some (.loc n), some (.int many), none] S = .ok (.int a) S := by simp [mBin, mVar, mC, fIx, D.sq, D.seq, hS, atI, ixN]
      rw [seq_nx (δ1 := [some (.loc n), some (.int many), none]) (S1 := S) (by rw [if_f (S1 := S) (test_ok (by rw [bin_ok ix c_ok]; simp [fGt, h]))]; rfl)]
      rw [seq_nx (δ1 := [some (.loc n), some (.int many), none]) (S1 := S.set n (.lst [.int a, .int ((b * 40692 + 3571) % 2147483399)]))]
      · refine ret_ok ?_
        simp [mBin, mVar, mC, mCall, mCons, mNil, fIx, D.sq, D.seq, hn, atI, ixN, fDiv, fMod, fMul, fInt, h0]
      · simp [sSub, mBin, mVar, mC, mCall, mCons, mNil, fIx, D.sq, D.seq, hS, atI, ixN, fMul, fAdd, fInt, fMod, D.clean]
    simp [f_law_take, mDef, e0, finD]
theorem of_ok (n : Nat) (a b : Int) (xs : List D) (S : Sto) (hS : S[n]? = some (.lst [.int a, .int b])) (h0 : 0 < xs.length) (h1 : xs.length ≤ 1000) : ∃ d a' b', f_law_of [.loc n, .lst xs] S = .ok d (S.set n (.lst [.int a', .int b'])) ∧ d ∈ xs := by
  have h1' : ((xs.length : Nat) : Int) < 2 ^ 200 := by
    have : ((xs.length : Nat) : Int) ≤ 1000 := by omega
    exact Int.lt_of_le_of_lt this (by decide)
  obtain ⟨d, a', b', e, d0, d1⟩ := take n a b xs.length S hS (by omega) h1'
  obtain ⟨k, rfl⟩ := Int.eq_ofNat_of_zero_le d0
  have hk : k < xs.length := by omega
  refine ⟨xs[k], a', b', ?_, List.getElem_mem hk⟩
  have e0 : m_law_of [some (.loc n), some (.lst xs)] S = .ret xs[k] (S.set n (.lst [.int a', .int b'])) := by
    unfold m_law_of
    refine ret_ok ?_
    rw [bin_ok (var_ok (d := .lst xs) rfl) (y := .int k) (S2 := S.set n (.lst [.int a', .int b']))]
    · simp [fIx, D.sq, D.seq, atI_nat hk]
    · rw [call_ok (cons_ok (var_ok rfl) (cons_ok (d := .int xs.length) (S1 := S) (by rw [call_ok (cons_ok (var_ok rfl) nil_ok)]; simp [fLenS, D.sq, D.seq]) nil_ok))]
      simp [cut, e]
  simp [f_law_of, mDef, e0, finD]
end K07

end
section
namespace K07
open PySem PySem.Spec L2 DL
/-! the law's names -/
theorem letter_ok {n : Nat} {a b : Int} {A : Sto} {δ : Sl} (hA : A[n]? = some (.lst [.int a, .int b])) (h0 : δ[0]? = some (some (.loc n))) (h3 : δ[3]? = some (some (.str letters))) :
    ∃ v a' b', mBin fIx (mVar 3) (mCall (cut 2 f_law_take []) (mCons (mVar 0) (mCons (mC (.int 26)) mNil))) δ A = .ok v (A.set n (.lst [.int a', .int b'])) ∧ oneL v := by
  obtain ⟨d, a', b', e, d0, d1⟩ := take n a b 26 A hA (by decide) (by decide)
  obtain ⟨k, rfl⟩ := Int.eq_ofNat_of_zero_le d0
  have hk : k < letters.cps.toList.length := by
    rw [letters_list]
    omega
  refine ⟨.str (one letters.cps.toList[k]), a', b', ?_, _, List.getElem_mem hk, rfl⟩
  rw [bin_ok (var_ok h3) ((call2 (var_ok h0) c_ok).trans e)]
  have hl : letters.length ≤ 16777216 := by rw [letters_len]; decide
  simp only [fIx]
  rw [if_pos hl, atI_nat hk]
def nameE : ME := mMeth1 isStr fJoin (mC (.str "")) (mLc (mRgI (mCons (mCall (cut 2 f_law_of []) (mCons (mVar 0) (mCons (mCall fLst (mCons (mC (.int 1)) (mCons (mC (.int 1)) (mCons (mC (.int 2)) (mCons (mC (.int 8)) (mNil)))))) (mNil)))) (mNil))) (gN 7) [7] (tOk) (mBin fIx (mVar 3) (mCall (cut 2 f_law_take []) (mCons (mVar 0) (mCons (mC (.int 26)) (mNil))))) finL)
theorem name_e {n : Nat} {a b : Int} {A : Sto} {s1 s2 s4 s5 s6 s7 s8 : Option D} (hA : A[n]? = some (.lst [.int a, .int b])) :
    ∃ x a' b', nameE [some (.loc n), s1, s2, some (.str letters), s4, s5, s6, s7, s8] A = .ok (.str x) (A.set n (.lst [.int a', .int b'])) ∧ isLet x := by
  have hn : n < A.length := (List.getElem?_eq_some_iff.mp hA).1
  obtain ⟨d, a1, b1, e1, hd⟩ := of_ok n a b [.int 1, .int 1, .int 2, .int 8] A hA (by decide) (by decide)
  obtain ⟨k, rfl, k1, k8⟩ : ∃ k : Nat, d = .int (k : Int) ∧ 1 ≤ k ∧ k ≤ 8 := by
    simp only [List.mem_cons, List.not_mem_nil, or_false] at hd
    rcases hd with rfl | rfl | rfl | rfl
    · exact ⟨1, rfl, by decide, by decide⟩
    · exact ⟨1, rfl, by decide, by decide⟩
    · exact ⟨2, rfl, by decide, by decide⟩
    · exact ⟨8, rfl, by decide, by decide⟩
  obtain ⟨vs, S', e2, ⟨a2, b2, rfl⟩, hl, hR⟩ := lc_keep (gm := gN 7) (e := mBin fIx (mVar 3) (mCall (cut 2 f_law_take []) (mCons (mVar 0) (mCons (mC (.int 26)) (mNil))))) (δ := wipeD [some (.loc n), s1, s2, some (.str letters), s4, s5, s6, s7, s8] [7])
    (Q := fun S => ∃ a b, S = A.set n (.lst [.int a, .int b])) (T := oneL) (items := (List.range k).map fun (i : Nat) => D.int (i : Int)) (fun d hd S hQ => by
      obtain ⟨a, b, rfl⟩ := hQ
      obtain ⟨v, a', b', e, hv⟩ := letter_ok (δ := [some (.loc n), s1, s2, some (.str letters), s4, s5, s6, some d, s8]) (bagAt0 hn) rfl rfl
      exact ⟨_, v, _, rfl, e, ⟨a', b', by rw [List.set_set]⟩, hv⟩) [] (A.set n (.lst [.int a1, .int b1])) ⟨_, _, rfl⟩
  obtain ⟨ks, rfl, hks⟩ := ones_of hR
  have lk : ks.length = k := by simpa using hl
  have jo := join_one ks
  refine ⟨Txt.join "" (ks.map one), a2, b2, ?_, ?_⟩
  · unfold nameE mMeth1
    simp only [c_ok, R.bind_ok, isStr, if_true]
    have e3 : mRgI (mCons (mCall (cut 2 f_law_of []) (mCons (mVar 0) (mCons (mCall fLst (mCons (mC (.int 1)) (mCons (mC (.int 1)) (mCons (mC (.int 2)) (mCons (mC (.int 8)) (mNil)))))) (mNil)))) (mNil)) [some (.loc n), s1, s2, some (.str letters), s4, s5, s6, s7, s8] A = .ok ((List.range k).map fun (i : Nat) => D.int (i : Int)) (A.set n (.lst [.int a1, .int b1])) :=
      range_of ((call2 (var_ok rfl) ((call_ok (cons_ok c_ok (cons_ok c_ok (cons_ok c_ok (cons_ok c_ok nil_ok))))).trans rfl)).trans e1) (by omega)
    have e4 : mLc (mRgI (mCons (mCall (cut 2 f_law_of []) (mCons (mVar 0) (mCons (mCall fLst (mCons (mC (.int 1)) (mCons (mC (.int 1)) (mCons (mC (.int 2)) (mCons (mC (.int 8)) (mNil)))))) (mNil)))) (mNil))) (gN 7) [7] (tOk) (mBin fIx (mVar 3) (mCall (cut 2 f_law_take []) (mCons (mVar 0) (mCons (mC (.int 26)) (mNil))))) finL [some (.loc n), s1, s2, some (.str letters), s4, s5, s6, s7, s8] A = .ok (.lst (ks.map fun k => D.str (one k))) (A.set n (.lst [.int a2, .int b2])) := by
      unfold mLc
      rw [e3, R.bind_ok, if_pos (by rw [List.length_map, List.length_range]; omega), e2]
      rfl
    rw [e4]
    simp only [R.bind_ok, fJoin, D.sq, D.seq]
    have e5 : (ks.map fun k => D.str (one k)) = (ks.map one).map D.str := by simp
    rw [e5, strsOf_map]
    simp only
    rw [if_pos]
    rw [sum_ones, List.length_map]
    have z : ("" : Str).length = 0 := by decide +kernel
    rw [z]
    omega
  · refine ⟨?_, ?_, ?_⟩
    · have : (Txt.join "" (ks.map one)).length = ks.length := (Array.length_toList (xs := (Txt.join "" (ks.map one)).cps)).symm.trans (congrArg List.length jo)
      omega
    · have : (Txt.join "" (ks.map one)).length = ks.length := (Array.length_toList (xs := (Txt.join "" (ks.map one)).cps)).symm.trans (congrArg List.length jo)
      omega
    · intro j hj
      rw [jo] at hj
      exact hks j hj
def pickE : ME := mBin fIx (mLc (mStrI (mVar 3)) (gN 8) [8] (mAnd (mTest (mBin (fIn true) (mVar 8) (mVar 4))) (mTest (mBin (fIn true) (mVar 8) (mVar 2)))) (mVar 8) finL) (mC (.int 0))
theorem pick_ok {m : Nat} {found banned : List Str} {A : Sto} {s0 s1 s5 s6 s7 s8 : Option D} (hA : A[m]? = some (.lst (found.map D.str))) (h : found.length + banned.length < 26) :
    ∃ x, pickE [s0, s1, some (.lst (banned.map D.str)), some (.str letters), some (.loc m), s5, s6, s7, s8] A = .ok (.str x) A ∧ isLet x ∧ x ∉ found ∧ x ∉ banned := by
  obtain ⟨k0, hk0, hf, hb⟩ := left_over found banned h
  have e : mLc (mStrI (mVar 3)) (gN 8) [8] (mAnd (mTest (mBin (fIn true) (mVar 8) (mVar 4))) (mTest (mBin (fIn true) (mVar 8) (mVar 2)))) (mVar 8) finL [s0, s1, some (.lst (banned.map D.str)), some (.str letters), some (.loc m), s5, s6, s7, s8] A = .ok (.lst (((letters.cps.toList.filter fun k => !decide (one k ∈ found) && !decide (one k ∈ banned)).map one).map D.str)) A := by
    rw [lc_filter (items := letters.cps.toList.map fun k => D.str (one k)) (S := A) (f := id) (p := fun d => match d with | .str x => !decide (x ∈ found) && !decide (x ∈ banned) | _ => false) rfl (by rw [List.length_map, letters_list]; decide)]
    · simp only [finL, List.map_id, List.filter_map, List.map_map]
      rfl
    · intro d hd
      obtain ⟨k, hk, rfl⟩ := List.mem_map.mp hd
      refine ⟨_, rfl, ?_, fun _ => var_ok rfl⟩
      have t1 := test_ok ((bin_ok (f := fIn true) (var_ok (i := 8) (δ := [s0, s1, some (.lst (banned.map D.str)), some (.str letters), some (.loc m), s5, s6, s7, some (.str (one k))]) (S := A) rfl) (var_ok (i := 4) rfl)).trans (in_loc (neg := true) hA))
      have t2 := test_ok ((bin_ok (f := fIn true) (var_ok (i := 8) (δ := [s0, s1, some (.lst (banned.map D.str)), some (.str letters), some (.loc m), s5, s6, s7, some (.str (one k))]) (S := A) rfl) (var_ok (i := 2) rfl)).trans (in_lst (neg := true) (ss := banned)))
      by_cases c : one k ∈ found
      · simp only [c, decide_true, Bool.not_true, if_true] at t1
        simp only [c, decide_true, Bool.not_true, Bool.false_and]
        exact and_f t1
      · simp only [c, decide_false, Bool.not_false, if_true] at t1
        simp only [c, decide_false, Bool.not_false, Bool.true_and]
        simp only [if_true] at t2
        exact and_t t1 t2
  generalize hks : (letters.cps.toList.filter fun k => !decide (one k ∈ found) && !decide (one k ∈ banned)) = ks at e
  cases ks with
  | nil =>
    have : k0 ∈ letters.cps.toList.filter fun k => !decide (one k ∈ found) && !decide (one k ∈ banned) := List.mem_filter.mpr ⟨hk0, by simp [hf, hb]⟩
    rw [hks] at this
    cases this
  | cons k r =>
    have hk : k ∈ letters.cps.toList.filter fun k => !decide (one k ∈ found) && !decide (one k ∈ banned) := by
      rw [hks]
      exact List.mem_cons_self
    obtain ⟨hk1, hk2⟩ := List.mem_filter.mp hk
    refine ⟨one k, ?_, isLet_one hk1, fun hm => by simp [hm] at hk2, fun hm => by simp [hm] at hk2⟩
    unfold pickE
    rw [bin_ok e c_ok]
    simp [fIx, D.sq, D.seq, atI, ixN]
    try rw [if_pos (by omega)]
    try simp
def namesBody : MS := (sSeq (sSet 6 nameE) (sSeq (sIf (mOr (mTest (mBin (fIn false) (mVar 6) (mVar 4))) (mTest (mBin (fIn false) (mVar 6) (mVar 2)))) (sSet 6 pickE) (sNx)) (sDrop (mMeth1 isSq fApp (mVar 4) (mVar 6)))))
theorem mnames_eq : m_law_names = sSeq (sAsg (mCall fTup (mCons (mC (.str letters)) (mCons (mCall fLstC (mNil)) (mNil)))) (gT [gN 3, gN 4])) (sSeq (sFor (mRgI (mCons (mVar 1) (mNil))) (gN 5) namesBody) (sRet (mVar 4))) := rfl
theorem start_ok {S : Sto} {s0 s1 s2 s3 s4 s5 s6 s7 s8 : Option D} : sAsg (mCall fTup (mCons (mC (.str letters)) (mCons (mCall fLstC (mNil)) (mNil)))) (gT [gN 3, gN 4]) [s0, s1, s2, s3, s4, s5, s6, s7, s8] S = .nx [s0, s1, s2, some (.str letters), some (.loc S.length), s5, s6, s7, s8] (S ++ [.lst []]) := by
  refine asg_ok (gm := gT [gN 3, gN 4]) (d := .tup [.str letters, .loc S.length]) (S1 := S ++ [.lst []]) ?_ (by rfl)
  rw [call_ok (cons_ok c_ok (cons_ok (d := .loc S.length) (S1 := S ++ [.lst []]) ((call_ok nil_ok).trans (by simp [fLstC, D.cleanL])) nil_ok))]
  simp [fTup]
abbrev naS (n many : Nat) (banned : List Str) (S : Sto) (s5 s6 s7 s8 : Option D) : Sl := [some (.loc n), some (.int many), some (.lst (banned.map D.str)), some (.str letters), some (.loc S.length), s5, s6, s7, s8]
/-- names that were found so far -/
structure Fnd (bn xs : List Str) : Prop where
  l : ∀ x ∈ xs, isLet x
  n : xs.Nodup
  d : ∀ x ∈ xs, x ∉ bn
theorem Fnd.add {bn l : List Str} {x : Str} (h : Fnd bn l) (hx : isLet x) (hn : x ∉ l) (hb : x ∉ bn) : Fnd bn (l ++ [x]) := by
  refine ⟨fun y hy => ?_, List.nodup_append.mpr ⟨h.n, by simp, fun a ha b hb e => ?_⟩, fun y hy => ?_⟩
  · rcases List.mem_append.mp hy with hy | hy
    · exact h.l y hy
    · rw [List.mem_singleton.mp hy]
      exact hx
  · rw [List.mem_singleton.mp hb] at e
    subst e
    exact hn ha
  · rcases List.mem_append.mp hy with hy | hy
    · exact h.d y hy
    · rw [List.mem_singleton.mp hy]
      exact hb
theorem names_step {n : Nat} {banned found : List Str} {a b : Int} {S : Sto} {s1 s5 s6 s7 s8 : Option D} (hn : n < S.length) (h : Fnd banned found) (hl : found.length + banned.length < 26) :
    ∃ x a' b', namesBody [some (.loc n), s1, some (.lst (banned.map D.str)), some (.str letters), some (.loc S.length), s5, s6, s7, s8] (S.set n (.lst [.int a, .int b]) ++ [.lst (found.map D.str)]) =
      .nx [some (.loc n), s1, some (.lst (banned.map D.str)), some (.str letters), some (.loc S.length), s5, some (.str x), s7, s8] (S.set n (.lst [.int a', .int b']) ++ [.lst ((found ++ [x]).map D.str)]) ∧ Fnd banned (found ++ [x]) := by
  obtain ⟨x, a', b', e1, hx⟩ := name_e (n := n) (a := a) (b := b) (A := S.set n (.lst [.int a, .int b]) ++ [.lst (found.map D.str)]) (s1 := s1) (s2 := some (.lst (banned.map D.str))) (s4 := some (.loc S.length)) (s5 := s5) (s6 := s6) (s7 := s7) (s8 := s8) (bagAt hn)
  rw [bagSet hn] at e1
  have hf : (S.set n (.lst [.int a', .int b']) ++ [.lst (found.map D.str)])[S.length]? = some (.lst (found.map D.str)) := by
    rw [List.getElem?_append_right (by simp)]
    simp
  have fin : ∀ y, isLet y → y ∉ found → sDrop (mMeth1 isSq fApp (mVar 4) (mVar 6)) [some (.loc n), s1, some (.lst (banned.map D.str)), some (.str letters), some (.loc S.length), s5, some (.str y), s7, s8] (S.set n (.lst [.int a', .int b']) ++ [.lst (found.map D.str)]) = .nx [some (.loc n), s1, some (.lst (banned.map D.str)), some (.str letters), some (.loc S.length), s5, some (.str y), s7, s8] (S.set n (.lst [.int a', .int b']) ++ [.lst ((found ++ [y]).map D.str)]) := fun y _ _ => by
    have e := app_step (A := S.set n (.lst [.int a', .int b'])) (rows := found.map D.str) (v := .str y) (i := 4) (e := mVar 6) (δ := [some (.loc n), s1, some (.lst (banned.map D.str)), some (.str letters), some (.loc S.length), s5, some (.str y), s7, s8]) (by simp) (var_ok rfl) rfl (by rw [List.length_map]; omega)
    rw [e]
    simp
  have t1 := test_ok ((bin_ok (f := fIn false) (var_ok (i := 6) (δ := [some (.loc n), s1, some (.lst (banned.map D.str)), some (.str letters), some (.loc S.length), s5, some (.str x), s7, s8]) (S := S.set n (.lst [.int a', .int b']) ++ [.lst (found.map D.str)]) rfl) (var_ok (i := 4) rfl)).trans (in_loc (neg := false) hf))
  have t2 := test_ok ((bin_ok (f := fIn false) (var_ok (i := 6) (δ := [some (.loc n), s1, some (.lst (banned.map D.str)), some (.str letters), some (.loc S.length), s5, some (.str x), s7, s8]) (S := S.set n (.lst [.int a', .int b']) ++ [.lst (found.map D.str)]) rfl) (var_ok (i := 2) rfl)).trans (in_lst (neg := false) (ss := banned)))
  simp only [Bool.false_eq_true, if_false] at t1 t2
  by_cases c : x ∈ found ∨ x ∈ banned
  · have t : mOr (mTest (mBin (fIn false) (mVar 6) (mVar 4))) (mTest (mBin (fIn false) (mVar 6) (mVar 2))) [some (.loc n), s1, some (.lst (banned.map D.str)), some (.str letters), some (.loc S.length), s5, some (.str x), s7, s8] (S.set n (.lst [.int a', .int b']) ++ [.lst (found.map D.str)]) = .ok true (S.set n (.lst [.int a', .int b']) ++ [.lst (found.map D.str)]) := by
      by_cases c1 : x ∈ found
      · simp only [c1, decide_true] at t1
        exact or_t t1
      · have c2 : x ∈ banned := c.resolve_left c1
        simp only [c1, decide_false] at t1
        simp only [c2, decide_true] at t2
        exact or_f t1 t2
    obtain ⟨y, e2, hy, hyn, hyb⟩ := pick_ok (m := S.length) (found := found) (banned := banned) (A := S.set n (.lst [.int a', .int b']) ++ [.lst (found.map D.str)]) (s0 := some (.loc n)) (s1 := s1) (s5 := s5) (s6 := some (.str x)) (s7 := s7) (s8 := s8) hf hl
    refine ⟨y, a', b', ?_, h.add hy hyn hyb⟩
    unfold namesBody
    rw [seq_nx (set_ok e1), seq_nx (δ1 := [some (.loc n), s1, some (.lst (banned.map D.str)), some (.str letters), some (.loc S.length), s5, some (.str y), s7, s8]) (S1 := S.set n (.lst [.int a', .int b']) ++ [.lst (found.map D.str)])]
    · exact fin y hy hyn
    · refine (if_t t).trans ?_
      exact set_ok e2
  · have hxf : x ∉ found := fun z => c (.inl z)
    have hxb : x ∉ banned := fun z => c (.inr z)
    simp only [hxf, decide_false] at t1
    simp only [hxb, decide_false] at t2
    refine ⟨x, a', b', ?_, h.add hx hxf hxb⟩
    unfold namesBody
    rw [seq_nx (set_ok e1)]
    exact (seq_nx (if_pass (or_ff t1 t2))).trans (fin x hx hxf)
theorem names_loop {n : Nat} {a b : Int} {many : Nat} {banned : List Str} {S : Sto} (hS : S[n]? = some (.lst [.int a, .int b])) (hm : many ≤ 9) (hb : banned.length ≤ 9) :
    ∃ δ' ws a' b', forGo (gN 5) namesBody ((List.range many).map fun (i : Nat) => D.int (i : Int)) (naS n many banned S none none none none) (S ++ [.lst []]) = .nx δ' (S.set n (.lst [.int a', .int b']) ++ [.lst (ws.map D.str)]) ∧ δ'[4]? = some (some (.loc S.length)) ∧ ws.length = many ∧ Fnd banned ws := by
  have hn : n < S.length := (List.getElem?_eq_some_iff.mp hS).1
  obtain ⟨δ', S', e, h⟩ := for_keepN (k := 0) (gm := gN 5) (b := namesBody) (ds := (List.range many).map fun (i : Nat) => D.int (i : Int)) (P := fun i δ S' => ∃ ws a b s5 s6 s7 s8, δ = naS n many banned S s5 s6 s7 s8 ∧ S' = S.set n (.lst [.int a, .int b]) ++ [.lst (ws.map D.str)] ∧ ws.length = i ∧ Fnd banned ws) (fun i d hd δ S1 hP => by
    obtain ⟨ws, a, b, s5, s6, s7, s8, rfl, rfl, hl, hw⟩ := hP
    have hi : i < many := by
      have := (List.getElem?_eq_some_iff.mp hd).1
      rw [List.length_map, List.length_range] at this
      exact this
    obtain ⟨x, a', b', e, h⟩ := names_step (n := n) (banned := banned) (found := ws) (a := a) (b := b) (S := S) (s1 := some (.int many)) (s5 := some d) (s6 := s6) (s7 := s7) (s8 := s8) hn hw (by omega)
    exact ⟨_, _, _, rfl, e, ws ++ [x], a', b', _, _, _, _, rfl, rfl, by rw [List.length_append, hl, List.length_singleton], h⟩) (naS n many banned S none none none none) (S ++ [.lst []]) ⟨[], a, b, none, none, none, none, rfl, by rw [set_at hS, List.map_nil], rfl, ⟨fun x hx => absurd hx (List.not_mem_nil), List.nodup_nil, fun x hx => absurd hx (List.not_mem_nil)⟩⟩
  obtain ⟨ws, a', b', s5, s6, s7, s8, rfl, rfl, hl, hw⟩ := h
  refine ⟨_, ws, a', b', e, rfl, ?_, hw⟩
  rw [hl, List.length_map, List.length_range, Nat.zero_add]
theorem names_body {n : Nat} {many : Nat} {banned : List Str} {S S' : Sto} {δ' : Sl} (hm : many ≤ 9) (e : forGo (gN 5) namesBody ((List.range many).map fun (i : Nat) => D.int (i : Int)) (naS n many banned S none none none none) (S ++ [.lst []]) = .nx δ' S') (h4 : δ'[4]? = some (some (.loc S.length))) :
    m_law_names [some (.loc n), some (.int many), some (.lst (banned.map D.str)), none, none, none, none, none, none] S = .ret (.loc S.length) S' := by
  rw [mnames_eq]
  rw [seq_nx start_ok]
  have er : mRgI (mCons (mVar 1) (mNil)) (naS n many banned S none none none none) (S ++ [.lst []]) = .ok ((List.range many).map fun (i : Nat) => D.int (i : Int)) (S ++ [.lst []]) := range_of (var_ok rfl) (Nat.lt_of_le_of_lt hm (by decide))
  rw [seq_nx ((for_ok' er).trans e)]
  exact ret_ok (var_ok h4)
theorem pad_names {d1 d2 d3 : D} : (([d1, d2, d3] : List D).map some ++ List.replicate (9 - ([d1, d2, d3] : List D).length) none) = [some d1, some d2, some d3, none, none, none, none, none, none] := rfl
theorem run_names {d1 d2 d3 r : D} {S S' : Sto} (h : m_law_names [some d1, some d2, some d3, none, none, none, none, none, none] S = .ret r S') : f_law_names [d1, d2, d3] S = finD S.length r S' := by
  have e1 : mDef finD 9 m_law_names [d1, d2, d3] S = finD S.length r S' := by
    unfold mDef
    rw [pad_names, h]
  exact e1
theorem lawNames_ok {n : Nat} {a b : Int} {many : Nat} {banned : List Str} {S : Sto} (hS : S[n]? = some (.lst [.int a, .int b])) (hm : many ≤ 9) (hb : banned.length ≤ 9) :
    ∃ ws a' b', f_law_names [.loc n, .int many, .lst (banned.map D.str)] S = .ok (.lst (ws.map D.str)) (S.set n (.lst [.int a', .int b'])) ∧ ws.length = many ∧ Fnd banned ws := by
  obtain ⟨δ', ws, a', b', e, h4, hl, hw⟩ := names_loop (n := n) (many := many) (banned := banned) hS hm hb
  refine ⟨ws, a', b', ?_, hl, hw⟩
  rw [run_names (names_body hm e h4)]
  exact finD_ok (by rw [List.length_set])
end K07

end
section
namespace K07
open PySem PySem.Spec L2 DL
/-! draws, told by what stays -/
theorem take_e {n : Nat} {many : Int} {S : Sto} (h : Bag n S) (h0 : 0 < many) (h1 : many < 2 ^ 200) : ∃ (k : Nat) (S' : Sto), f_law_take [.loc n, .int many] S = .ok (.int k) S' ∧ EqL n S S' ∧ (k : Int) < many := by
  obtain ⟨a, b, e⟩ := h
  obtain ⟨d, a', b', e1, d0, d1⟩ := take n a b many S e h0 h1
  obtain ⟨k, rfl⟩ := Int.eq_ofNat_of_zero_le d0
  exact ⟨k, _, e1, set_eqL (List.getElem?_eq_some_iff.mp e).1, d1⟩
theorem of_e {n : Nat} {xs : List D} {S : Sto} (h : Bag n S) (h0 : 0 < xs.length) (h1 : xs.length ≤ 1000) : ∃ (d : D) (S' : Sto), f_law_of [.loc n, .lst xs] S = .ok d S' ∧ EqL n S S' ∧ d ∈ xs := by
  obtain ⟨a, b, e⟩ := h
  obtain ⟨d, a', b', e1, hd⟩ := of_ok n a b xs S e h0 h1
  exact ⟨d, _, e1, set_eqL (List.getElem?_eq_some_iff.mp e).1, hd⟩
theorem names_e {n many : Nat} {banned : List Str} {S : Sto} (h : Bag n S) (hm : many ≤ 9) (hb : banned.length ≤ 9) : ∃ (ws : List Str) (S' : Sto), f_law_names [.loc n, .int many, .lst (banned.map D.str)] S = .ok (.lst (ws.map D.str)) S' ∧ EqL n S S' ∧ ws.length = many ∧ Fnd banned ws := by
  obtain ⟨a, b, e⟩ := h
  obtain ⟨ws, a', b', e1, hl, hw⟩ := lawNames_ok (n := n) (many := many) (banned := banned) e hm hb
  exact ⟨ws, _, e1, set_eqL (List.getElem?_eq_some_iff.mp e).1, hl, hw⟩
/-- _law_names(bag, 1, [])[0] -/
theorem name1_e {n i : Nat} {S : Sto} {δ : Sl} (h : Bag n S) (hi : δ[i]? = some (some (.loc n))) : ∃ (nm : Str) (S' : Sto), mBin fIx (mCall (cut 3 f_law_names []) (mCons (mVar i) (mCons (mC (.int 1)) (mCons (mCall fLst (mNil)) (mNil))))) (mC (.int 0)) δ S = .ok (.str nm) S' ∧ EqL n S S' ∧ isLet nm := by
  obtain ⟨ws, S1, e1, q1, l1, f1⟩ := names_e (n := n) (many := 1) (banned := []) (S := S) h (by decide) (by decide)
  obtain ⟨nm, rfl⟩ : ∃ nm, ws = [nm] := by
    match ws, l1 with
    | [x], _ => exact ⟨x, rfl⟩
  have e1' : f_law_names [.loc n, .int 1, .lst []] S = .ok (.lst [.str nm]) S1 := e1
  refine ⟨nm, S1, ?_, q1, f1.l nm List.mem_cons_self⟩
  rw [bin_ok ((call3 (var_ok hi) c_ok (z := .lst []) (S3 := S) ((call_ok nil_ok).trans rfl)).trans e1') c_ok]
  rfl
theorem bag_e (ns : List Int) (i : Nat) (S : Sto) : ∃ S', f_law_bag [.lst (ns.map D.int), .int i] S = .ok (.loc S.length) S' ∧ Bag S.length S' := by
  obtain ⟨a, b, e⟩ := bag ns i S
  exact ⟨_, e, a, b, by simp⟩
end K07

end
section
namespace K07
open PySem PySem.Spec L2 DL
/-! ### names, of all things -/
theorem len_str {x : Str} {m : ME} {δ : Sl} {S : Sto} (h : m δ S = .ok (.str x) S) (hl : x.length ≤ 40) : mCall fLenS (mCons m mNil) δ S = .ok (.int x.length) S := by
  rw [call_ok (cons_ok h nil_ok)]
  have : x.length ≤ 16777216 := by omega
  simp [fLenS, this]
theorem chain18 {x : Str} {δ : Sl} {S : Sto} (h : mVar 0 δ S = .ok (.str x) S) (hl : x.length ≤ 40) : mChain fLe fLe (mC (.int 1)) (mCall fLenS (mCons (mVar 0) (mNil))) (mC (.int 8)) δ S = .ok (.bl (decide (1 ≤ x.length ∧ x.length ≤ 8))) S := by
  unfold mChain
  rw [c_ok, R.bind_ok, len_str h hl]
  simp only [R.bind_ok, fLe]
  by_cases h1 : 1 ≤ x.length
  · have h1' : (1 : Int) ≤ x.length := by omega
    rw [decide_eq_true h1']
    simp only [c_ok, R.bind_ok]
    by_cases h2 : x.length ≤ 8
    · have h2' : (x.length : Int) ≤ 8 := by omega
      rw [decide_eq_true h2', decide_eq_true ⟨h1, h2⟩]
    · have h2' : ¬ (x.length : Int) ≤ 8 := by omega
      rw [decide_eq_false h2', decide_eq_false (fun z => h2 z.2)]
  · have h1' : ¬ (1 : Int) ≤ x.length := by omega
    rw [decide_eq_false h1', decide_eq_false (fun z => h1 z.1)]
def condE : MT := mOr (mNot (mTest (mUn (fIsi (subV "str")) (mVar 0)))) (mNot (mTest (mChain fLe fLe (mC (.int 1)) (mCall fLenS (mCons (mVar 0) (mNil))) (mC (.int 8)))))
theorem cond_str {x : Str} {r : Sl} (hl : x.length ≤ 40) (S : Sto) : condE (some (.str x) :: r) S = .ok (!decide (1 ≤ x.length ∧ x.length ≤ 8)) S :=
  or_f (not_t (test_ok (isi_str (var_ok rfl)))) (not_t (test_ok (chain18 (var_ok rfl) hl)))
theorem cond_no {d : D} {r : Sl} (S : Sto) {n : String} (h1 : tyD d S = some (.b n)) (h2 : basic.contains n = true) (h3 : isT n "str" = false) : condE (some d :: r) S = .ok true S :=
  or_t (not_t (b := false) (test_ok (isi_ok (var_ok rfl) h1 (by rw [sub_str h2, h3]))))
theorem all_let (x : Str) (p : Nat → Bool) : fAll [.lst ((x.cps.toList.map fun k => D.bl (p k)))] = fun S => .ok (.bl (x.cps.toList.all p)) S := by
  funext S
  have e : (x.cps.toList.map fun k => D.bl (p k)) = (x.cps.toList.map p).map D.bl := by simp
  rw [e]
  simp only [fAll, D.seq, blsOf_map]
  rw [List.all_map]
  rfl
theorem isLet_iff (x : Str) : decide (isLet x) = (decide (1 ≤ x.length ∧ x.length ≤ 8) && x.cps.toList.all fun k => decide (k ∈ letters.cps.toList)) := by
  by_cases h : 1 ≤ x.length ∧ x.length ≤ 8
  · rw [decide_eq_true h, Bool.true_and]
    by_cases h2 : ∀ k ∈ x.cps.toList, k ∈ letters.cps.toList
    · rw [decide_eq_true (show isLet x from ⟨h.2, h.1, h2⟩)]
      exact (List.all_eq_true.mpr fun k hk => decide_eq_true (h2 k hk)).symm
    · rw [decide_eq_false (fun z : isLet x => h2 z.2.2)]
      refine (Bool.eq_false_iff.mpr fun z => h2 fun k hk => of_decide_eq_true (List.all_eq_true.mp z k hk)).symm
  · rw [decide_eq_false h, Bool.false_and, decide_eq_false (fun z : isLet x => h ⟨z.2.1, z.1⟩)]
theorem in_one (neg : Bool) (k : Nat) (S : Sto) : fIn neg (.str (one k)) (.str letters) S = .ok (.bl (if neg then !decide (k ∈ letters.cps.toList) else decide (k ∈ letters.cps.toList))) S := rfl
theorem name_eq {d : D} (h : Itm d) (S : Sto) : fis_name [d] S = .ok (.bl (isName d)) S := by
  have e0 : mis_name [some d, none] S = .ret (.bl (isName d)) S := by
    unfold mis_name
    rcases h.sh with ⟨x, rfl, hl⟩ | ⟨hs, n, h1, h2, h3⟩
    · by_cases h8 : 1 ≤ x.length ∧ x.length ≤ 8
      · have ec := cond_str (x := x) (r := [none]) hl S
        rw [decide_eq_true h8] at ec
        refine (seq_nx (if_pass ec)).trans (ret_ok ?_)
        have hz : x.cps.toList.length ≤ 8 := by have := h8.2; simpa [Str.length] using this
        rw [call_ok (cons_ok (d := .lst (x.cps.toList.map fun k => D.bl (decide (k ∈ letters.cps.toList)))) (S1 := S) ?_ nil_ok)]
        · rw [all_let]
          simp only [isName, isLet_iff, decide_eq_true h8, Bool.true_and]
        · rw [lc_all (items := x.cps.toList.map fun k => D.str (one k)) (S := S) (f := fun d => match d with | .str y => .bl (decide (y.cps.toList.headD 0 ∈ letters.cps.toList)) | _ => .bl false) rfl (by rw [List.length_map]; omega)]
          · simp only [finL, List.map_map]
            rfl
          · intro d hd
            obtain ⟨k, hk, rfl⟩ := List.mem_map.mp hd
            exact ⟨_, rfl, (bin_ok (var_ok rfl) c_ok).trans (in_one false k S)⟩
      · have ec := cond_str (x := x) (r := [none]) hl S
        rw [decide_eq_false h8] at ec
        refine seq_ret ((if_t ec).trans (ret_ok ?_))
        simp only [isName, isLet_iff, decide_eq_false h8, Bool.false_and]
        rfl
    · refine seq_ret ((if_t (cond_no S (h1 S) h2 h3)).trans (ret_ok ?_))
      have : isName d = false := by
        cases d with
        | str x => exact absurd rfl (hs x)
        | _ => rfl
      rw [this]
      rfl
  exact (mdef_ret finD rfl e0).trans (finD_eq rfl)
theorem lname_eq {d : D} (h : Itm d) (S : Sto) : f_law_is_name [d] S = .ok (.bl (isName d)) S := by
  have e0 : m_law_is_name [some d, none] S = .ret (.bl (isName d)) S := by
    unfold m_law_is_name
    rcases h.sh with ⟨x, rfl, hl⟩ | ⟨hs, n, h1, h2, h3⟩
    · by_cases h8 : 1 ≤ x.length ∧ x.length ≤ 8
      · have ec := cond_str (x := x) (r := [none]) hl S
        rw [decide_eq_true h8] at ec
        refine (seq_nx (if_pass ec)).trans (ret_ok ?_)
        have hz : x.cps.toList.length ≤ 8 := by have := h8.2; simpa [Str.length] using this
        have el : mLc (mStrI (mVar 0)) (gN 1) [1] (mTest (mBin (fIn true) (mVar 1) (mC (.str "abcdefghijklmnopqrstuvwxyz")))) (mVar 1) finL [some (.str x), none] S = .ok (.lst ((x.cps.toList.filter fun k => !decide (k ∈ letters.cps.toList)).map fun k => D.str (one k))) S := by
          rw [lc_filter (items := x.cps.toList.map fun k => D.str (one k)) (S := S) (f := id) (p := fun d => match d with | .str y => !decide (y.cps.toList.headD 0 ∈ letters.cps.toList) | _ => false) rfl (by rw [List.length_map]; omega)]
          · simp only [finL, List.map_id, List.filter_map]
            rfl
          · intro d hd
            obtain ⟨k, hk, rfl⟩ := List.mem_map.mp hd
            exact ⟨_, rfl, test_ok ((bin_ok (var_ok rfl) c_ok).trans (in_one true k S)), fun _ => var_ok rfl⟩
        rw [bin_ok el ((call_ok nil_ok).trans rfl)]
        simp only [fNeE, D.seq, isName, isLet_iff, decide_eq_true h8, Bool.true_and]
        have : ((x.cps.toList.filter fun k => !decide (k ∈ letters.cps.toList)).map fun k => D.str (one k)).isEmpty = x.cps.toList.all fun k => decide (k ∈ letters.cps.toList) := by
          generalize x.cps.toList = l
          induction l with
          | nil => rfl
          | cons k r ih =>
            rw [List.filter_cons, List.all_cons]
            by_cases hk : k ∈ letters.cps.toList
            · rw [decide_eq_true hk]
              simpa using ih
            · rw [decide_eq_false hk]
              simp
        rw [if_neg (by simp), this]
      · have ec := cond_str (x := x) (r := [none]) hl S
        rw [decide_eq_false h8] at ec
        refine seq_ret ((if_t ec).trans (ret_ok ?_))
        simp only [isName, isLet_iff, decide_eq_false h8, Bool.false_and]
        rfl
    · refine seq_ret ((if_t (cond_no S (h1 S) h2 h3)).trans (ret_ok ?_))
      have : isName d = false := by
        cases d with
        | str x => exact absurd rfl (hs x)
        | _ => rfl
      rw [this]
      rfl
  exact (mdef_ret finD rfl e0).trans (finD_eq rfl)
/-! ### check_names -/
theorem check_t {d : D} (h : Itm d) (hn : isName d = true) (S : Sto) : fcheck_name [d] S = .ok .non S := by
  have e0 : mcheck_name [some d] S = .nx [some d] S := by
    unfold mcheck_name
    refine if_pass (not_t (b := true) (test_ok ((call1 (var_ok rfl)).trans ?_)))
    rw [name_eq h, hn]
  exact (mdef_nx finD rfl e0).trans (finD_eq rfl)
theorem check_f {d : D} (h : Itm d) (hn : isName d = false) (S : Sto) : fcheck_name [d] S = .exc 0 [d] S := by
  have e0 : mcheck_name [some d] S = .exc 0 [d] [some d] S := by
    unfold mcheck_name
    have e : mCall (cut 1 fis_name []) (mCons (mVar 0) (mNil)) [some d] S = .ok (.bl false) S := by
      rw [call1 (var_ok rfl), name_eq h, hn]
    exact (if_t (not_t (b := false) (test_ok e))).trans (by simp [sRaise, mCons, mVar, mNil])
  exact (mdef_exc finD rfl e0).trans (finX_eq rfl)
/-- a list or a tuple of these -/
def Sq (L : D) (ds : List D) : Prop := L = .lst ds ∨ L = .tup ds
theorem Sq.sqi {L : D} {ds : List D} (h : Sq L ds) {m : ME} {δ : Sl} {S : Sto} (e : m δ S = .ok L S) : mSqI m δ S = .ok ds S := by
  unfold mSqI
  rw [e]
  rcases h with rfl | rfl <;> rfl
theorem Sq.ens {L : D} {ds : List D} (h : Sq L ds) {m : ME} {δ : Sl} {S : Sto} (e : m δ S = .ok L S) : mEnS m δ S = .ok (ds.mapIdx fun i x => .tup [.int (i : Int), x]) S := by
  unfold mEnS
  rw [e]
  rcases h with rfl | rfl <;> rfl
theorem Sq.len {L : D} {ds : List D} (h : Sq L ds) {m : ME} {δ : Sl} {S : Sto} (e : m δ S = .ok L S) : mCall fLenS (mCons m mNil) δ S = .ok (.int ds.length) S := by
  rw [call_ok (cons_ok e nil_ok)]
  rcases h with rfl | rfl <;> simp [fLenS, D.sq, D.seq]
theorem Sq.before {L : D} {ss : List Str} (h : Sq L (ss.map D.str)) {i : Nat} (hi : i ≤ ss.length) (x : Str) {m mx my : ME} {δ : Sl} {S : Sto} (e : m δ S = .ok L S) (ei : mx δ S = .ok (.int i) S) (ex : my δ S = .ok (.str x) S) :
    mBin (fIn false) my (mSlice m none (some mx)) δ S = .ok (.bl (decide (x ∈ ss.take i))) S := by
  have hc := cut_take (ss.map D.str) i (by rw [List.length_map]; exact hi)
  rcases h with rfl | rfl
  · rw [bin_ok ex (y := .lst ((ss.take i).map D.str)) (S2 := S)]
    · exact in_lst
    · unfold mSlice mPart
      rw [e]
      simp only [R.bind_ok, ei, fCut, D.seq, hc, List.map_take]
  · rw [bin_ok ex (y := .tup ((ss.take i).map D.str)) (S2 := S)]
    · exact in_tup
    · unfold mSlice mPart
      rw [e]
      simp only [R.bind_ok, ei, fCut, D.seq, hc, List.map_take]
theorem once_eq {L : D} {ss : List Str} (h : Sq L (ss.map D.str)) (S : Sto) : (∃ i, twIx ss = some i ∧ fcheck_once [L] S = .exc 3 [.str (ss.getD i "")] S) ∨ (twIx ss = none ∧ fcheck_once [L] S = .ok .non S) := by
  have ei : (ss.map D.str).mapIdx (fun i x => D.tup [.int (i : Int), x]) = (List.range ss.length).map fun (i : Nat) => D.tup [.int (i : Int), .str (ss.getD i "")] := by
    rw [mapIdx_range _ (.str "") (ss.map D.str), List.length_map]
    refine List.map_congr_left fun i hi => ?_
    have hi' : i < ss.length := List.mem_range.mp hi
    simp [hi']
  have ef : ∀ (p : D → Bool), (∀ i, i < ss.length → p (.tup [.int (i : Int), .str (ss.getD i "")]) = decide (ss.getD i "" ∈ ss.take i)) → ((List.range ss.length).map fun (i : Nat) => D.tup [.int (i : Int), .str (ss.getD i "")]).find? p = (twIx ss).map fun (i : Nat) => D.tup [.int (i : Int), .str (ss.getD i "")] := fun p hp => by
    rw [List.find?_map]
    unfold twIx
    congr 1
    have : ∀ (l : List Nat), (∀ i ∈ l, i < ss.length) → l.find? (p ∘ fun (i : Nat) => D.tup [.int (i : Int), .str (ss.getD i "")]) = l.find? fun i => decide (ss.getD i "" ∈ ss.take i) := fun l => by
      induction l with
      | nil => exact fun _ => rfl
      | cons i r ih =>
        intro hl
        rw [List.find?_cons, List.find?_cons, Function.comp, hp i (hl i List.mem_cons_self), ih fun j hj => hl j (List.mem_cons_of_mem _ hj)]
    exact this _ fun i hi => List.mem_range.mp hi
  have key := find_exc (gm := gT [gN 1, gN 2]) (b := sIf (mTest (mBin (fIn false) (mVar 2) (mSlice (mVar 0) none (some (mVar 1))))) (sRaise 3 1 (mCons (mVar 2) (mNil))) (sNx)) (k := 3)
    (vs := fun d => match d with | .tup [_, y] => [y] | _ => []) (bad := fun d => match d with | .tup [.int i, .str x] => decide (x ∈ ss.take i.toNat) | _ => false) (I := fun δ => ∃ a b, δ = [some L, a, b]) (S := S) (ds := (List.range ss.length).map fun (i : Nat) => D.tup [.int (i : Int), .str (ss.getD i "")])
    (fun d hd hb δ hI => by
      obtain ⟨a, b, rfl⟩ := hI
      obtain ⟨i, hi, rfl⟩ := List.mem_map.mp hd
      have hi' : i < ss.length := List.mem_range.mp hi
      refine ⟨[some L, some (.int (i : Int)), some (.str (ss.getD i ""))], _, rfl, if_pass (test_ok ?_), _, _, rfl⟩
      rw [h.before (i := i) (by omega) (ss.getD i "") (var_ok rfl) (var_ok rfl) (var_ok rfl)]
      exact congrArg (fun k => R.ok (D.bl k) S) hb)
    (fun d hd hb δ hI => by
      obtain ⟨a, b, rfl⟩ := hI
      obtain ⟨i, hi, rfl⟩ := List.mem_map.mp hd
      have hi' : i < ss.length := List.mem_range.mp hi
      refine ⟨[some L, some (.int (i : Int)), some (.str (ss.getD i ""))], [some L, some (.int (i : Int)), some (.str (ss.getD i ""))], rfl, (if_t (test_ok ?_)).trans rfl⟩
      rw [h.before (i := i) (by omega) (ss.getD i "") (var_ok rfl) (var_ok rfl) (var_ok rfl)]
      exact congrArg (fun k => R.ok (D.bl k) S) hb) [some L, none, none] ⟨_, _, rfl⟩
  rw [ef _ fun i hi => rfl] at key
  have er : mcheck_once [some L, none, none] S = forGo (gT [gN 1, gN 2]) (sIf (mTest (mBin (fIn false) (mVar 2) (mSlice (mVar 0) none (some (mVar 1))))) (sRaise 3 1 (mCons (mVar 2) (mNil))) (sNx)) ((List.range ss.length).map fun (i : Nat) => D.tup [.int (i : Int), .str (ss.getD i "")]) [some L, none, none] S := by
    unfold mcheck_once
    rw [for_ok' (h.ens (var_ok rfl)), ei]
  rcases key with ⟨d, e1, δ2, e2⟩ | ⟨e1, δ2, e2, _⟩
  · cases et : twIx ss with
    | none => rw [et] at e1; cases e1
    | some i =>
      rw [et] at e1
      cases e1
      exact .inl ⟨i, rfl, (mdef_exc finD rfl (er.trans e2)).trans (finX_eq rfl)⟩
  · cases et : twIx ss with
    | some i => rw [et] at e1; cases e1
    | none => exact .inr ⟨rfl, (mdef_nx finD rfl (er.trans e2)).trans (finD_eq rfl)⟩
theorem sort_eq {L : D} {ss : List Str} (h : Sq L (ss.map D.str)) (hl : ss.length ≤ 8) {m : ME} {δ : Sl} {S : Sto} (e : m δ S = .ok L S) : mCall fSortQ (mCons m mNil) δ S = .ok (.lst ((sortS ss).map D.str)) S := by
  rw [call_ok (cons_ok e nil_ok)]
  have h64 : ss.length < 64 := by omega
  rcases h with rfl | rfl <;> simp [fSortQ, D.sq, D.seq, strsOf_map, h64]
/-- the first error that is due of a list of names, of which there may be mo: its class, its field -/
def errN (mo : Nat) (ds : List D) : Option (Nat × List D) := match ds.find? (fun d => !isName d) with
  | some d => some (0, [d])
  | none => match twIx (ds.map strOf) with
    | some i => some (3, [.str ((ds.map strOf).getD i "")])
    | none => if mo < ds.length then some (6, [.int (mo : Int)]) else none
theorem names_eq {mo : Nat} {L : D} {ds : List D} (h : Sq L ds) (hi : ∀ d ∈ ds, Itm d) (hz : ds.length ≤ 8) (S : Sto) : fcheck_names [L, .int (mo : Int)] S = match errN mo ds with
    | some (k, vs) => .exc k vs S
    | none => .ok (.tup ((sortS (ds.map strOf)).map D.str)) S := by
  have key := find_exc (gm := gN 2) (b := sDrop (mCall (cut 1 fcheck_name []) (mCons (mVar 2) (mNil)))) (k := 0) (vs := fun d => [d]) (bad := fun d => !isName d) (I := fun δ => ∃ a, δ = [some L, some (.int (mo : Int)), a]) (S := S) (ds := ds)
    (fun d hd hb δ hI => by
      obtain ⟨a, rfl⟩ := hI
      exact ⟨[some L, some (.int (mo : Int)), some d], _, rfl, drop_ok ((call1 (var_ok rfl)).trans (check_t (hi d hd) (by simpa using hb) S)), _, rfl⟩)
    (fun d hd hb δ hI => by
      obtain ⟨a, rfl⟩ := hI
      refine ⟨[some L, some (.int (mo : Int)), some d], [some L, some (.int (mo : Int)), some d], rfl, ?_⟩
      have e : mCall (cut 1 fcheck_name []) (mCons (mVar 2) (mNil)) [some L, some (.int (mo : Int)), some d] S = .exc 0 [d] S := (call1 (var_ok rfl)).trans (check_f (hi d hd) (by simpa using hb) S)
      unfold sDrop
      rw [e]
      rfl) [some L, some (.int (mo : Int)), none] ⟨_, rfl⟩
  have e1 : sFor (mSqI (mVar 0)) (gN 2) (sDrop (mCall (cut 1 fcheck_name []) (mCons (mVar 2) (mNil)))) [some L, some (.int (mo : Int)), none] S = forGo (gN 2) (sDrop (mCall (cut 1 fcheck_name []) (mCons (mVar 2) (mNil)))) ds [some L, some (.int (mo : Int)), none] S := for_ok' (h.sqi (var_ok rfl))
  unfold errN
  rcases key with ⟨d, ed, δ2, e2⟩ | ⟨ed, δ2, e2, a, rfl⟩
  · rw [ed]
    refine (mdef_exc finD rfl (δ1 := δ2) (k := 0) (vs := [d]) (S1 := S) ?_).trans (finX_eq rfl)
    show mcheck_names [some L, some (.int (mo : Int)), none] S = _
    unfold mcheck_names
    exact seq_exc (e1.trans e2)
  · rw [ed]
    obtain ⟨es, _⟩ := strs_of (find_none ed)
    generalize ds.map strOf = ss at es
    subst es
    rcases once_eq h S with ⟨i, ei, eo⟩ | ⟨ei, eo⟩
    · simp only [ei]
      refine (mdef_exc finD rfl (δ1 := [some L, some (.int (mo : Int)), a]) (k := 3) (vs := [.str (ss.getD i "")]) (S1 := S) ?_).trans (finX_eq rfl)
      show mcheck_names [some L, some (.int (mo : Int)), none] S = _
      unfold mcheck_names
      rw [seq_nx (e1.trans e2)]
      refine seq_exc ?_
      unfold sDrop
      rw [(call1 (var_ok rfl)).trans eo]
      rfl
    · simp only [ei]
      have eb : mcheck_names [some L, some (.int (mo : Int)), none] S = (sSeq (sIf (mTest (mBin fGt (mCall fLenS (mCons (mVar 0) (mNil))) (mVar 1))) (sRaise 6 1 (mCons (mVar 1) (mNil))) (sNx)) (sRet (mCall fTuple (mCons (mCall fSortQ (mCons (mVar 0) (mNil))) (mNil))))) [some L, some (.int (mo : Int)), a] S := by
        unfold mcheck_names
        rw [seq_nx (e1.trans e2), seq_nx (drop_ok ((call1 (var_ok rfl)).trans eo))]
      have hgt : ∀ k, (decide ((mo : Int) < ((ss.map D.str).length : Int)) = k) → mTest (mBin fGt (mCall fLenS (mCons (mVar 0) (mNil))) (mVar 1)) [some L, some (.int (mo : Int)), a] S = .ok k S := fun k hk => by
        refine test_ok ((bin_ok (h.len (var_ok rfl)) (var_ok rfl)).trans ?_)
        exact congrArg (fun k => R.ok (D.bl k) S) hk
      by_cases h4 : mo < (ss.map D.str).length
      · rw [if_pos h4]
        refine (mdef_exc finD rfl (δ1 := [some L, some (.int (mo : Int)), a]) (k := 6) (vs := [.int (mo : Int)]) (S1 := S) ?_).trans (finX_eq rfl)
        refine eb.trans (seq_exc ((if_t (hgt true (decide_eq_true (by omega)))).trans ?_))
        simp [sRaise, mCons, mVar, mNil]
      · rw [if_neg h4]
        have hl : ss.length ≤ 8 := by simpa using hz
        refine (mdef_ret finD rfl (eb.trans ?_)).trans (finD_eq rfl)
        rw [seq_nx (if_pass (hgt false (decide_eq_false (by omega))))]
        refine ret_ok ?_
        rw [call_ok (cons_ok (sort_eq h hl (var_ok rfl)) nil_ok)]
        rfl
end K07

end
section
namespace K07
open PySem PySem.Spec L2 DL
/-! deeds made, or what refuses them -/
abbrev Mv := Str × Str
def mvD (p : Mv) : D := .tup [.str p.1, .str p.2]
def leM (p q : Mv) : Bool := PySem.W.dataLe false (fun z : Mv => PyData.tuple [.str z.1, .str z.2]) p q
def sortM (ms : List Mv) : List Mv := ms.mergeSort leM
theorem mvs_clean (ms : List Mv) : D.cleanL (ms.map mvD) = true := cleanL_iff.mpr fun d hd => by
  obtain ⟨p, _, rfl⟩ := List.mem_map.mp hd
  rfl
theorem strs_clean (ms : List Str) : D.cleanL (ms.map D.str) = true := cleanL_iff.mpr fun d hd => by
  obtain ⟨p, _, rfl⟩ := List.mem_map.mp hd
  rfl
theorem sortP_ok {L : D} {ms : List Mv} {m : ME} {δ : Sl} {S : Sto} (h : Sq L (ms.map mvD)) (hz : ms.length < 1000) (e : m δ S = .ok L S) : mCall fSortP (mCons m mNil) δ S = .ok (.lst ((sortM ms).map mvD)) S := by
  rw [call_ok (cons_ok e nil_ok)]
  have hs : L.sq S = some (ms.map mvD) := by rcases h with rfl | rfl <;> rfl
  have ha : (ms.map mvD).all (fun d => (prOf d).isSome) = true := by
    rw [List.all_map, List.all_eq_true]
    intro p _
    rfl
  unfold fSortP
  simp only [hs]
  rw [if_pos ⟨ha, by rw [List.length_map]; exact hz⟩]
  have := List.map_mergeSort (f := mvD) (l := ms) (r := leM) (s := PySem.W.dataLe false encD) (fun p _ q _ => rfl)
  rw [← this]
  rfl
theorem len_tup' {xs : List D} {m : ME} {δ : Sl} {S : Sto} (h : m δ S = .ok (.tup xs) S) : mCall fLenS (mCons m mNil) δ S = .ok (.int xs.length) S := (call_ok (cons_ok h nil_ok)).trans rfl
theorem star_ok {L : D} {xs : List D} {i : Nat} {δ : Sl} {S : Sto} (h : Sq L xs) (e : δ[i]? = some (some L)) : mStar (mVar i) mNil δ S = .ok xs S := by
  unfold mStar
  rw [var_ok e, R.bind_ok]
  have : L.sq S = some xs := by rcases h with rfl | rfl <;> rfl
  rw [this]
  simp only
  rw [nil_ok, R.bind_ok, List.append_nil]

/-! ### outcomes -/
abbrev Er := Option (Nat × List D)
def OutR (o : Er) (r : R D) (S : Sto) : Prop := match o with
  | some (j, vs) => r = .exc j vs S
  | none => ∃ d, r = .ok d S
def OutI (k : Nat) (o : Er) (r : R D) (S : Sto) : Prop := match o with
  | some (j, vs) => ∃ ds, r = .exc j vs (S ++ [.ins k ds])
  | none => ∃ ds, r = .ok .non (S ++ [.ins k ds])
def OutF (k : Nat) (o : Er) (r : F) (S : Sto) : Prop := match o with
  | some (j, vs) => ∃ ds δ, r = .exc j vs δ (S ++ [.ins k ds])
  | none => ∃ ds δ, r = .nx δ (S ++ [.ins k ds])
def ClE (o : Er) : Prop := ∀ j vs, o = some (j, vs) → D.cleanL vs = true
theorem out_mk {k n : Nat} {fm : MF} {xs : List D} {S : Sto} {o : Er} (hn : xs.length + 1 = n) (hv : ClE o) (h : OutI k o (fm (.loc S.length :: xs) (S ++ [.ins k []])) S) : OutR o (fMk k n fm xs S) S := by
  unfold fMk
  rw [if_pos hn]
  cases o with
  | some p =>
    obtain ⟨j, vs⟩ := p
    obtain ⟨ds, e⟩ := h
    have hc := hv j vs rfl
    show _ = R.exc j vs S
    rw [e]
    simp [hc]
  | none =>
    obtain ⟨ds, e⟩ := h
    refine ⟨.ins k ds, ?_⟩
    rw [e]
    simp
theorem out_def {k n : Nat} {m : MS} {xs : List D} {δ0 : Sl} {S : Sto} {o : Er} (hd : xs.map some ++ List.replicate (n - xs.length) none = δ0) (h : OutF k o (m δ0 (S ++ [.ins k []])) S) : OutI k o (mDef finD n m xs (S ++ [.ins k []])) S := by
  cases o with
  | some p =>
    obtain ⟨j, vs⟩ := p
    obtain ⟨ds, δ, e⟩ := h
    exact ⟨ds, (mdef_exc finD hd e).trans (finX_eq (by simp))⟩
  | none =>
    obtain ⟨ds, δ, e⟩ := h
    exact ⟨ds, (mdef_nx finD hd e).trans (finD_eq (by simp))⟩
/-- a step that may raise, the rest -/
theorem out_seq {k : Nat} {a b : MS} {δ δ1 : Sl} {S : Sto} {o p : Er} (ha : (∀ j vs, o = some (j, vs) → ∃ δ', a δ (S ++ [.ins k []]) = .exc j vs δ' (S ++ [.ins k []])) ∧ (o = none → a δ (S ++ [.ins k []]) = .nx δ1 (S ++ [.ins k []]) ∧ OutF k p (b δ1 (S ++ [.ins k []])) S)) : OutF k (o.or p) (sSeq a b δ (S ++ [.ins k []])) S := by
  cases o with
  | some q =>
    obtain ⟨j, vs⟩ := q
    obtain ⟨δ', e⟩ := ha.1 j vs rfl
    exact ⟨[], δ', seq_exc e⟩
  | none =>
    obtain ⟨e, h⟩ := ha.2 rfl
    rw [Option.none_or, seq_nx e]
    exact h
/-! ### notes -/
def note1 : D := .ins 100 [.tup [], .tup [], .bl true, .bl false]
def note2 : D := .ins 100 [.tup [.str "price"], .tup [], .bl true, .bl true]
def memos : List D := [.non, note1, note2, .int 0, .bl false, .str "named", .tup [], .lst [.non], .dic [] []]
def noteB : D → Bool
  | .non => true
  | .ins _ _ => true
  | _ => false
def noteE (d : D) : Er := if noteB d then none else some (1, [d])
theorem memo_cases {d : D} (h : d ∈ memos) {P : D → Prop} (h0 : P .non) (h1 : P note1) (h2 : P note2) (h3 : P (.int 0)) (h4 : P (.bl false)) (h5 : P (.str "named")) (h6 : P (.tup [])) (h7 : P (.lst [.non])) (h8 : P (.dic [] [])) : P d := by
  simp only [memos, List.mem_cons, List.not_mem_nil, or_false] at h
  rcases h with rfl | rfl | rfl | rfl | rfl | rfl | rfl | rfl | rfl <;> assumption
theorem memo_clean {d : D} (h : d ∈ memos) : d.clean = true := memo_cases (P := fun d => d.clean = true) h rfl rfl rfl rfl rfl rfl rfl rfl rfl
theorem note_run {d : D} (h : d ∈ memos) (S : Sto) : fcheck_note [d] S = match noteE d with | some (j, vs) => .exc j vs S | none => .ok .non S := by
  have key : ∀ (d : D) (b : Bool), noteB d = b → mAnd (mTest (mBin fNotN2 (mVar 0) (mC .non))) (mNot (mTest (mUn (fIsi (subJ 100)) (mVar 0)))) [some d] S = .ok (!b) S → fcheck_note [d] S = match noteE d with | some (j, vs) => .exc j vs S | none => .ok .non S := fun d b hb e => by
    unfold noteE
    rw [hb]
    cases b with
    | true => exact (mdef_nx (m := mcheck_note) (δ0 := [some d]) (δ1 := [some d]) (S1 := S) finD rfl (if_pass e)).trans (finD_eq rfl)
    | false => exact (mdef_exc (m := mcheck_note) (δ0 := [some d]) (δ1 := [some d]) (k := 1) (vs := [d]) (S1 := S) finD rfl ((if_t e).trans (by simp [sRaise, mCons, mVar, mNil]))).trans (finX_eq rfl)
  exact memo_cases (P := fun d => fcheck_note [d] S = match noteE d with | some (j, vs) => .exc j vs S | none => .ok .non S) h (key _ true rfl (by kernel_rfl)) (key _ true rfl (by kernel_rfl)) (key _ true rfl (by kernel_rfl)) (key _ false rfl (by kernel_rfl)) (key _ false rfl (by kernel_rfl)) (key _ false rfl (by kernel_rfl)) (key _ false rfl (by kernel_rfl)) (key _ false rfl (by kernel_rfl)) (key _ false rfl (by kernel_rfl))
/-! ### Deed.__init__ -/
theorem deed_init {k : Nat} {nm : Str} {M note : D} {ms : List Mv} {cols : List Str} (S : Sto) (hk : k = 102 ∨ k = 103 ∨ k = 104) (h : Sq M (ms.map mvD)) (hz : ms.length < 1000) (hn : note ∈ memos) : OutI k (noteE note) (fDeed___init__ [.loc S.length, .str nm, M, .tup (cols.map D.str), note] (S ++ [.ins k []])) S := by
  have fl : FL k = (["name", "moves", "columns", "note"] : List Str) := by rcases hk with rfl | rfl | rfl <;> rfl
  have h100 : 100 ≤ k := by omega
  have A : ∀ (ds : List D), mVar 0 [some (.loc S.length), some (.str nm), some M, some (.tup (cols.map D.str)), some note] (S ++ [O.ins k ds]) = .ok (.loc S.length) (S ++ [O.ins k ds]) := fun ds => var_ok rfl
  refine out_def (δ0 := [some (.loc S.length), some (.str nm), some M, some (.tup (cols.map D.str)), some note]) rfl ?_
  have hr := note_run hn (S ++ [O.ins k []])
  unfold mDeed___init__
  have hA1 : ∀ j vs, noteE note = some (j, vs) → ∃ δ', sDrop (mCall (cut 1 fcheck_note []) (mCons (mVar 4) (mNil))) [some (.loc S.length), some (.str nm), some M, some (.tup (cols.map D.str)), some note] (S ++ [O.ins k []]) = .exc j vs δ' (S ++ [O.ins k []]) := fun j vs e => by
    rw [e] at hr
    refine ⟨[some (.loc S.length), some (.str nm), some M, some (.tup (cols.map D.str)), some note], ?_⟩
    unfold sDrop
    rw [(call1 (var_ok rfl)).trans hr]
    rfl
  have hA2 : noteE note = none → sDrop (mCall (cut 1 fcheck_note []) (mCons (mVar 4) (mNil))) [some (.loc S.length), some (.str nm), some M, some (.tup (cols.map D.str)), some note] (S ++ [O.ins k []]) = .nx [some (.loc S.length), some (.str nm), some M, some (.tup (cols.map D.str)), some note] (S ++ [O.ins k []]) := fun e => by
    rw [e] at hr
    exact drop_ok ((call1 (var_ok rfl)).trans hr)
  have hB : OutF k none ((sSeq (sAttr FL "name" (mVar 1) (mVar 0)) (sSeq (sAttr FL "moves" (mCall fTuple (mCons (mCall fSortP (mCons (mVar 2) (mNil))) (mNil))) (mVar 0)) (sSeq (sAttr FL "columns" (mVar 3) (mVar 0)) (sAttr FL "note" (mVar 4) (mVar 0))))) [some (.loc S.length), some (.str nm), some M, some (.tup (cols.map D.str)), some note] (S ++ [O.ins k []])) S := by
    refine ⟨[.str nm, .tup ((sortM ms).map mvD), .tup (cols.map D.str), note], [some (.loc S.length), some (.str nm), some M, some (.tup (cols.map D.str)), some note], ?_⟩
    refine (seq_nx (attr_step (k := k) (ds := []) (v := .str nm) (var_ok rfl) (A _) h100 rfl (by simp) (by rw [fl]; rfl))).trans ?_
    refine (seq_nx (attr_step (k := k) (ds := [.str nm]) (v := .tup ((sortM ms).map mvD)) ((call_ok (cons_ok (sortP_ok h hz (var_ok rfl)) nil_ok)).trans rfl) (A _) h100 (by rw [D.clean]; exact mvs_clean _) (by simp) (by rw [fl]; rfl))).trans ?_
    refine (seq_nx (attr_step (k := k) (ds := [.str nm, .tup ((sortM ms).map mvD)]) (v := .tup (cols.map D.str)) (var_ok rfl) (A _) h100 (by rw [D.clean]; exact strs_clean _) (by simp) (by rw [fl]; rfl))).trans ?_
    exact attr_step (k := k) (ds := [.str nm, .tup ((sortM ms).map mvD), .tup (cols.map D.str)]) (v := note) (var_ok rfl) (A _) h100 (memo_clean hn) (by simp) (by rw [fl]; rfl)
  have e0 := out_seq (p := none) ⟨hA1, fun e => ⟨hA2 e, hB⟩⟩
  rwa [Option.or_none] at e0
/-- super().__init__(..) -/
theorem sup_out {k : Nat} {o : Er} {xs : List D} {ma : MA} {r : List (Option D)} {S : Sto} (e : ma (some (.loc S.length) :: r) (S ++ [.ins k []]) = .ok xs (S ++ [.ins k []])) (hl : xs.length = 4) (h : OutI k o (fDeed___init__ (.loc S.length :: xs) (S ++ [.ins k []])) S) : OutF k o (sDrop (mSup k 5 fDeed___init__ ma) (some (.loc S.length) :: r) (S ++ [.ins k []])) S := by
  have em : mSup k 5 fDeed___init__ ma (some (.loc S.length) :: r) (S ++ [.ins k []]) = fDeed___init__ (.loc S.length :: xs) (S ++ [.ins k []]) := by
    unfold mSup
    simp only [List.getElem?_cons_zero]
    have : (S ++ [O.ins k []])[S.length]? = some (.ins k []) := by simp
    rw [this]
    simp only [if_true]
    rw [e, R.bind_ok, if_pos (by omega)]
  cases o with
  | some p =>
    obtain ⟨j, vs⟩ := p
    obtain ⟨ds, e2⟩ := h
    refine ⟨ds, some (.loc S.length) :: r, ?_⟩
    unfold sDrop
    rw [em, e2]
    rfl
  | none =>
    obtain ⟨ds, e2⟩ := h
    exact ⟨ds, some (.loc S.length) :: r, drop_ok (em.trans e2)⟩
/-! ### a make -/
def ownE (d : D) : Er := if isName d then none else some (0, [d])
theorem own_out {k : Nat} {d : D} {i : Nat} {δ : Sl} {S : Sto} (hd : Itm d) (hi : δ[i]? = some (some d)) : (∀ j vs, ownE d = some (j, vs) → ∃ δ', sDrop (mCall (cut 1 fcheck_name []) (mCons (mVar i) (mNil))) δ (S ++ [.ins k []]) = .exc j vs δ' (S ++ [.ins k []])) ∧ (ownE d = none → sDrop (mCall (cut 1 fcheck_name []) (mCons (mVar i) (mNil))) δ (S ++ [.ins k []]) = .nx δ (S ++ [.ins k []]) ∧ isName d = true) := by
  unfold ownE
  cases hn : isName d with
  | true => exact ⟨fun j vs e => (nomatch e), fun _ => ⟨drop_ok ((call1 (var_ok hi)).trans (check_t hd hn _)), rfl⟩⟩
  | false =>
    refine ⟨fun j vs e => ?_, fun e => (nomatch e)⟩
    cases e
    refine ⟨δ, ?_⟩
    unfold sDrop
    rw [(call1 (var_ok hi)).trans (check_f hd hn _)]
    rfl
theorem name_str {d : D} (h : isName d = true) : ∃ x, d = .str x ∧ isLet x := by
  cases d with
  | str x => exact ⟨x, rfl, of_decide_eq_true h⟩
  | _ => cases h
theorem make_init {nm st note : D} (hn : Itm nm) (hs : Itm st) (hm : note ∈ memos) (S : Sto) : OutI 102 ((ownE nm).or ((ownE st).or (noteE note))) (fMake___init__ [.loc S.length, nm, st, note] (S ++ [.ins 102 []])) S := by
  refine out_def (δ0 := [some (.loc S.length), some nm, some st, some note]) rfl ?_
  unfold mMake___init__
  obtain ⟨a1, a2⟩ := own_out (k := 102) (i := 1) (δ := [some (.loc S.length), some nm, some st, some note]) (S := S) hn rfl
  refine out_seq ⟨a1, fun e => ⟨(a2 e).1, ?_⟩⟩
  obtain ⟨b1, b2⟩ := own_out (k := 102) (i := 2) (δ := [some (.loc S.length), some nm, some st, some note]) (S := S) hs rfl
  refine out_seq ⟨b1, fun e' => ⟨(b2 e').1, ?_⟩⟩
  obtain ⟨x, rfl, _⟩ := name_str (a2 e).2
  obtain ⟨y, rfl, _⟩ := name_str (b2 e').2
  refine sup_out (xs := [.str x, .tup [mvD ("", y)], .tup [], note]) (cons_ok (var_ok rfl) (cons_ok ((call_ok (cons_ok ((call_ok (cons_ok c_ok (cons_ok (var_ok rfl) nil_ok))).trans rfl) nil_ok)).trans rfl) (cons_ok ((call_ok nil_ok).trans rfl) (cons_ok (var_ok rfl) nil_ok)))) rfl ?_
  exact deed_init (k := 102) (nm := x) (M := .tup [mvD ("", y)]) (ms := [("", y)]) (cols := []) S (.inl rfl) (.inr rfl) (by simp) hm
end K07

end
section
namespace K07
open PySem PySem.Spec L2 DL
/-! changes and ends made, or what refuses them -/
def isMove : D → Bool
  | .tup [a, b] => isName a && isName b
  | _ => false
structure MvI (d : D) : Prop where
  sh : (∃ xs, d = .tup xs ∧ xs.length ≤ 100 ∧ ∀ x ∈ xs, Itm x) ∨ ((∀ xs, d ≠ .tup xs) ∧ ∃ n, (∀ S, tyD d S = some (.b n)) ∧ basic.contains n = true ∧ isT n "tuple" = false)
  rp : Rp d 2 2000
  ne : d.noE = true
def fstOf : D → Str
  | .tup (.str a :: _) => a
  | _ => ""
def badE (ms : List D) : Er := (ms.find? fun d => !isMove d).map fun d => (2, [d])
def twE (ss : List Str) : Er := (twIx ss).map fun i => (3, [.str (ss.getD i "")])
def manyE (mo n : Nat) : Er := if mo < n then some (6, [.int (mo : Int)]) else none
def errM (ms : List D) : Er := (badE ms).or ((twE (ms.map fstOf)).or (manyE 4 ms.length))
def mvT (i : Nat) : MT := mOr (mNot (mTest (mUn (fIsi (subV "tuple")) (mVar i)))) (mOr (mTest (mBin fNe (mCall fLenS (mCons (mVar i) (mNil))) (mC (.int 2)))) (mOr (mNot (mTest (mCall (cut 1 fis_name []) (mCons (mBin fIx (mVar i) (mC (.int 0))) (mNil))))) (mNot (mTest (mCall (cut 1 fis_name []) (mCons (mBin fIx (mVar i) (mC (.int 1))) (mNil)))))))
theorem move_test {d : D} (h : MvI d) {i : Nat} {δ : Sl} {S : Sto} (hi : δ[i]? = some (some d)) : mvT i δ S = .ok (!isMove d) S := by
  unfold mvT
  rcases h.sh with ⟨xs, rfl, hz, hx⟩ | ⟨hs, n, h1, h2, h3⟩
  · have e1 : mNot (mTest (mUn (fIsi (subV "tuple")) (mVar i))) δ S = .ok false S := not_t (b := true) (test_ok ((un_ok (var_ok hi)).trans rfl))
    have e2 : mTest (mBin fNe (mCall fLenS (mCons (mVar i) (mNil))) (mC (.int 2))) δ S = .ok (!decide ((xs.length : Int) = 2)) S := test_ok ((bin_ok (len_tup' (var_ok hi)) c_ok).trans rfl)
    refine or_f e1 ?_
    by_cases h2 : xs.length = 2
    · obtain ⟨a, b, rfl⟩ : ∃ a b, xs = [a, b] := by
        match xs, h2 with
        | [a, b], _ => exact ⟨a, b, rfl⟩
      refine or_f e2 ?_
      have ea : mNot (mTest (mCall (cut 1 fis_name []) (mCons (mBin fIx (mVar i) (mC (.int 0))) (mNil)))) δ S = .ok (!isName a) S := not_t (test_ok (by rw [call1 (x := a) ((bin_ok (var_ok hi) c_ok).trans rfl), name_eq (hx a (by simp))]))
      have eb : mNot (mTest (mCall (cut 1 fis_name []) (mCons (mBin fIx (mVar i) (mC (.int 1))) (mNil)))) δ S = .ok (!isName b) S := not_t (test_ok (by rw [call1 (x := b) ((bin_ok (var_ok hi) c_ok).trans rfl), name_eq (hx b (by simp))]))
      rw [or_ok ea fun _ => eb]
      simp only [isMove, Bool.not_and]
    · have h2' : ¬ (xs.length : Int) = 2 := by omega
      rw [decide_eq_false h2'] at e2
      refine (or_t e2).trans ?_
      have : isMove (.tup xs) = false := by
        match xs, h2 with
        | [], _ => rfl
        | [_], _ => rfl
        | [_, _], h => exact absurd rfl h
        | _ :: _ :: _ :: _, _ => rfl
      rw [this]
      rfl
  · have e1 : mNot (mTest (mUn (fIsi (subV "tuple")) (mVar i))) δ S = .ok true S := not_t (b := false) (test_ok (h3 ▸ isi_ty (var_ok hi) (h1 S) h2))
    refine (or_t e1).trans ?_
    have : isMove d = false := by
      cases d with
      | tup xs => exact absurd rfl (hs xs)
      | _ => rfl
    rw [this]
    rfl
theorem moves_of {ms : List D} (h : ∀ d ∈ ms, isMove d = true) : ∃ vs : List Mv, ms = vs.map mvD ∧ ms.map fstOf = vs.map (·.1) := by
  induction ms with
  | nil => exact ⟨[], rfl, rfl⟩
  | cons d r ih =>
    obtain ⟨vs, e1, e2⟩ := ih fun d hd => h d (List.mem_cons_of_mem _ hd)
    have hd := h d List.mem_cons_self
    match d, hd with
    | .tup [a, b], hd =>
      simp only [isMove, Bool.and_eq_true] at hd
      obtain ⟨x, rfl, _⟩ := name_str hd.1
      obtain ⟨y, rfl, _⟩ := name_str hd.2
      exact ⟨(x, y) :: vs, by rw [e1]; rfl, by rw [List.map_cons, e2]; rfl⟩
/-- super().__init__(..), one of its arguments raises -/
theorem sup_exc {k j : Nat} {vs : List D} {ma : MA} {r : List (Option D)} {S : Sto} (e : ma (some (.loc S.length) :: r) (S ++ [.ins k []]) = .exc j vs (S ++ [.ins k []])) : sDrop (mSup k 5 fDeed___init__ ma) (some (.loc S.length) :: r) (S ++ [.ins k []]) = .exc j vs (some (.loc S.length) :: r) (S ++ [.ins k []]) := by
  have em : mSup k 5 fDeed___init__ ma (some (.loc S.length) :: r) (S ++ [.ins k []]) = .exc j vs (S ++ [.ins k []]) := by
    unfold mSup
    simp only [List.getElem?_cons_zero]
    have : (S ++ [O.ins k []])[S.length]? = some (.ins k []) := by simp
    rw [this]
    simp only [if_true]
    rw [e]
    rfl
  unfold sDrop
  rw [em]
  rfl
end K07

end
section
namespace K07
open PySem PySem.Spec L2 DL
/-! Change.__init__, End.__init__ -/
theorem firsts_ok {ms : List Mv} {s0 s1 s2 s3 s5 : Option D} {S : Sto} (hz : ms.length ≤ 100) : mLc (mTupI (mVar 4)) (gN 5) [5] tOk (mBin fIx (mVar 5) (mC (.int 0))) finL [s0, s1, s2, s3, some (.tup (ms.map mvD)), s5] S = .ok (.lst ((ms.map (·.1)).map D.str)) S := by
  rw [lc_all (items := ms.map mvD) (S := S) (f := fun d => match d with | .tup [.str a, _] => .str a | _ => .non) rfl (by rw [List.length_map]; omega)]
  · simp only [finL, List.map_map]
    rfl
  · intro d hd
    obtain ⟨p, hp, rfl⟩ := List.mem_map.mp hd
    exact ⟨_, rfl, (bin_ok (x := mvD p) (y := .int 0) (S1 := S) (S2 := S) (var_ok rfl) c_ok).trans rfl⟩

theorem cons_exc {m : ME} {ms : MA} {δ : Sl} {S S1 : Sto} {j : Nat} {vs : List D} (h : m δ S = .exc j vs S1) : mCons m ms δ S = .exc j vs S1 := by
  unfold mCons
  rw [h]
  rfl
theorem cons_exc2 {m : ME} {ms : MA} {δ : Sl} {S S1 S2 : Sto} {x : D} {j : Nat} {vs : List D} (h : m δ S = .ok x S1) (k : ms δ S1 = .exc j vs S2) : mCons m ms δ S = .exc j vs S2 := by
  unfold mCons
  rw [h, R.bind_ok, k]
  rfl
theorem drop_exc {m : ME} {δ : Sl} {S S1 : Sto} {j : Nat} {vs : List D} (h : m δ S = .exc j vs S1) : sDrop m δ S = .exc j vs δ S1 := by
  unfold sDrop
  rw [h]
  rfl
theorem raise1 {k : Nat} {m : ME} {δ : Sl} {S : Sto} {d : D} (h : m δ S = .ok d S) : sRaise k 1 (mCons m mNil) δ S = .exc k [d] δ S := by
  unfold sRaise
  rw [cons_ok h nil_ok]
  rfl
theorem change_init {nm L note : D} {ms cols : List D} (hn : Itm nm) (hm : ∀ d ∈ ms, MvI d) (hz : ms.length ≤ 100) (hL : Sq L cols) (hc : ∀ d ∈ cols, Itm d) (hcz : cols.length ≤ 8) (hno : note ∈ memos) (S : Sto) : OutI 103 ((ownE nm).or ((badE ms).or ((twE (ms.map fstOf)).or ((manyE 4 ms.length).or ((errN 3 cols).or (noteE note)))))) (fChange___init__ [.loc S.length, nm, L, note, .tup ms] (S ++ [.ins 103 []])) S := by
  refine out_def (δ0 := [some (.loc S.length), some nm, some L, some note, some (.tup ms), none]) rfl ?_
  unfold mChange___init__
  obtain ⟨a1, a2⟩ := own_out (k := 103) (i := 1) (δ := [some (.loc S.length), some nm, some L, some note, some (.tup ms), none]) (S := S) hn rfl
  refine out_seq ⟨a1, fun e => ⟨(a2 e).1, ?_⟩⟩
  obtain ⟨nx, rfl, _⟩ := name_str (a2 e).2
  have key := find_exc (gm := gN 5) (b := sIf (mvT 5) (sRaise 2 1 (mCons (mVar 5) (mNil))) (sNx)) (k := 2) (vs := fun d => [d]) (bad := fun d => !isMove d) (I := fun δ => ∃ s5, δ = [some (.loc S.length), some (.str nx), some L, some note, some (.tup ms), s5]) (S := S ++ [O.ins 103 []]) (ds := ms)
    (fun d hd hb δ hI => by
      obtain ⟨s5, rfl⟩ := hI
      have t := move_test (hm d hd) (i := 5) (δ := [some (.loc S.length), some (.str nx), some L, some note, some (.tup ms), some d]) (S := S ++ [O.ins 103 []]) rfl
      rw [hb] at t
      exact ⟨_, _, rfl, if_pass t, _, rfl⟩)
    (fun d hd hb δ hI => by
      obtain ⟨s5, rfl⟩ := hI
      have t := move_test (hm d hd) (i := 5) (δ := [some (.loc S.length), some (.str nx), some L, some note, some (.tup ms), some d]) (S := S ++ [O.ins 103 []]) rfl
      rw [hb] at t
      exact ⟨_, _, rfl, (if_t t).trans (raise1 (var_ok rfl))⟩) [some (.loc S.length), some (.str nx), some L, some note, some (.tup ms), none] ⟨_, rfl⟩
  have el : sFor (mTupI (mVar 4)) (gN 5) (sIf (mvT 5) (sRaise 2 1 (mCons (mVar 5) (mNil))) (sNx)) [some (.loc S.length), some (.str nx), some L, some note, some (.tup ms), none] (S ++ [O.ins 103 []]) = _ := for_ok' (ds := ms) (S1 := S ++ [O.ins 103 []]) rfl
  rcases key with ⟨d, ed, δ2, e2⟩ | ⟨ed, δ2, e2, s5, rfl⟩
  · have hb : badE ms = some (2, [d]) := by
      unfold badE
      rw [ed]
      rfl
    rw [hb]
    exact ⟨[], δ2, seq_exc (el.trans e2)⟩
  · have hb : badE ms = none := by
      unfold badE
      rw [ed]
      rfl
    rw [hb, Option.none_or]
    have hall : ∀ d ∈ ms, isMove d = true := fun d hd => by
      have := List.find?_eq_none.mp ed d hd
      simpa using this
    obtain ⟨vs, e3, e4⟩ := moves_of hall
    rw [e4]
    have hvz : vs.length ≤ 100 := by
      rw [e3, List.length_map] at hz
      exact hz
    have hlen : ms.length = vs.length := by rw [e3, List.length_map]
    rw [hlen]
    subst e3
    have es := el.trans e2
    refine Eq.mpr (congrArg (fun r => OutF 103 _ r S) (seq_nx es)) ?_
    have ef := firsts_ok (ms := vs) (s0 := some (.loc S.length)) (s1 := some (.str nx)) (s2 := some L) (s3 := some note) (s5 := s5) (S := S ++ [O.ins 103 []]) hvz
    rcases once_eq (L := .lst ((vs.map (·.1)).map D.str)) (ss := vs.map (·.1)) (.inl rfl) (S ++ [O.ins 103 []]) with ⟨i, ei, eo⟩ | ⟨ei, eo⟩
    · have ht : twE (vs.map (·.1)) = some (3, [.str ((vs.map (·.1)).getD i "")]) := by
        unfold twE
        rw [ei]
        rfl
      rw [ht]
      exact ⟨[], _, seq_exc (drop_exc ((call1 ef).trans eo))⟩
    · have ht : twE (vs.map (·.1)) = none := by
        unfold twE
        rw [ei]
        rfl
      rw [ht, Option.none_or]
      refine Eq.mpr (congrArg (fun r => OutF 103 _ r S) (seq_nx (drop_ok ((call1 ef).trans eo)))) ?_
      have t : mTest (mBin fGt (mCall fLenS (mCons (mVar 4) (mNil))) (mC (.int 4))) [some (.loc S.length), some (.str nx), some L, some note, some (.tup (vs.map mvD)), s5] (S ++ [O.ins 103 []]) = .ok (decide (4 < vs.length)) (S ++ [O.ins 103 []]) := by
        refine test_ok ((bin_ok (len_tup' (xs := vs.map mvD) (var_ok rfl)) c_ok).trans ?_)
        show R.ok (D.bl (decide ((4 : Int) < ((vs.map mvD).length : Int)))) _ = _
        rw [List.length_map]
        congr 3
        exact propext ⟨fun h => by omega, fun h => by omega⟩
      by_cases h4 : 4 < vs.length
      · rw [decide_eq_true h4] at t
        have hm4 : manyE 4 vs.length = some (6, [.int 4]) := if_pos h4
        rw [hm4]
        exact ⟨[], _, seq_exc ((if_t t).trans (raise1 c_ok))⟩
      · rw [decide_eq_false h4] at t
        have hm4 : manyE 4 vs.length = none := if_neg h4
        rw [hm4, Option.none_or]
        refine Eq.mpr (congrArg (fun r => OutF 103 _ r S) (seq_nx (if_pass t))) ?_
        have hN := names_eq (mo := 3) hL hc hcz (S ++ [O.ins 103 []])
        cases e5 : errN 3 cols with
        | some p =>
          obtain ⟨j, ws⟩ := p
          rw [e5] at hN
          exact ⟨[], _, sup_exc (cons_exc2 (var_ok rfl) (cons_exc2 (var_ok rfl) (cons_exc ((call2 (var_ok rfl) c_ok).trans hN))))⟩
        | none =>
          rw [e5] at hN
          rw [Option.none_or]
          refine sup_out (xs := [.str nx, .tup (vs.map mvD), .tup ((sortS (cols.map strOf)).map D.str), note]) (cons_ok (var_ok rfl) (cons_ok (var_ok rfl) (cons_ok ((call2 (var_ok rfl) c_ok).trans hN) (cons_ok (var_ok rfl) nil_ok)))) rfl ?_
          exact deed_init (k := 103) (nm := nx) (M := .tup (vs.map mvD)) (ms := vs) (cols := sortS (cols.map strOf)) S (.inr (.inl rfl)) (.inr rfl) (by omega) hno
end K07

end
section
namespace K07
open PySem PySem.Spec L2 DL
/-! End.__init__; Change.of, End.of, Change(..), Make(..) -/
theorem end_init {nm note : D} {ss : List D} (hn : Itm nm) (hm : ∀ d ∈ ss, Itm d) (hz : ss.length ≤ 100) (hno : note ∈ memos) (S : Sto) : OutI 104 ((ownE nm).or ((errN 4 ss).or (noteE note))) (fEnd___init__ [.loc S.length, nm, note, .tup ss] (S ++ [.ins 104 []])) S := by
  refine out_def (δ0 := [some (.loc S.length), some nm, some note, some (.tup ss), none]) rfl ?_
  unfold mEnd___init__
  obtain ⟨a1, a2⟩ := own_out (k := 104) (i := 1) (δ := [some (.loc S.length), some nm, some note, some (.tup ss), none]) (S := S) hn rfl
  refine out_seq ⟨a1, fun e => ⟨(a2 e).1, ?_⟩⟩
  obtain ⟨nx, rfl, _⟩ := name_str (a2 e).2
  have tn : ∀ d, Itm d → mNot (mTest (mCall (cut 1 fis_name []) (mCons (mVar 4) (mNil)))) [some (.loc S.length), some (.str nx), some note, some (.tup ss), some d] (S ++ [O.ins 104 []]) = .ok (!isName d) (S ++ [O.ins 104 []]) := fun d hd => not_t (test_ok (by rw [call1 (x := d) (var_ok rfl), name_eq hd]))
  have key := find_exc (gm := gN 4) (b := sIf (mNot (mTest (mCall (cut 1 fis_name []) (mCons (mVar 4) (mNil))))) (sRaise 0 1 (mCons (mVar 4) (mNil))) (sNx)) (k := 0) (vs := fun d => [d]) (bad := fun d => !isName d) (I := fun δ => ∃ s4, δ = [some (.loc S.length), some (.str nx), some note, some (.tup ss), s4]) (S := S ++ [O.ins 104 []]) (ds := ss)
    (fun d hd hb δ hI => by
      obtain ⟨s4, rfl⟩ := hI
      have t := tn d (hm d hd)
      rw [hb] at t
      exact ⟨_, _, rfl, if_pass t, _, rfl⟩)
    (fun d hd hb δ hI => by
      obtain ⟨s4, rfl⟩ := hI
      have t := tn d (hm d hd)
      rw [hb] at t
      exact ⟨_, _, rfl, (if_t t).trans (raise1 (var_ok rfl))⟩) [some (.loc S.length), some (.str nx), some note, some (.tup ss), none] ⟨_, rfl⟩
  have el : sFor (mTupI (mVar 3)) (gN 4) (sIf (mNot (mTest (mCall (cut 1 fis_name []) (mCons (mVar 4) (mNil))))) (sRaise 0 1 (mCons (mVar 4) (mNil))) (sNx)) [some (.loc S.length), some (.str nx), some note, some (.tup ss), none] (S ++ [O.ins 104 []]) = _ := for_ok' (ds := ss) (S1 := S ++ [O.ins 104 []]) rfl
  unfold errN
  rcases key with ⟨d, ed, δ2, e2⟩ | ⟨ed, δ2, e2, s4, rfl⟩
  · rw [ed]
    exact ⟨[], δ2, seq_exc (el.trans e2)⟩
  · rw [ed]
    obtain ⟨ev, hv⟩ := strs_of (find_none ed)
    have hlen : ss.length = (ss.map strOf).length := by rw [List.length_map]
    rw [hlen]
    generalize ss.map strOf = vs at ev hv hlen
    have hvz : vs.length ≤ 100 := by omega
    subst ev
    have es := el.trans e2
    refine Eq.mpr (congrArg (fun r => OutF 104 _ r S) (seq_nx es)) ?_
    rcases once_eq (L := .tup (vs.map D.str)) (ss := vs) (.inr rfl) (S ++ [O.ins 104 []]) with ⟨i, ei, eo⟩ | ⟨ei, eo⟩
    · simp only [ei]
      exact ⟨[], _, seq_exc (drop_exc ((call1 (var_ok rfl)).trans eo))⟩
    · simp only [ei]
      refine Eq.mpr (congrArg (fun r => OutF 104 _ r S) (seq_nx (drop_ok ((call1 (var_ok rfl)).trans eo)))) ?_
      have t : mTest (mBin fGt (mCall fLenS (mCons (mVar 3) (mNil))) (mC (.int 4))) [some (.loc S.length), some (.str nx), some note, some (.tup (vs.map D.str)), s4] (S ++ [O.ins 104 []]) = .ok (decide (4 < vs.length)) (S ++ [O.ins 104 []]) := by
        refine test_ok ((bin_ok (len_tup' (xs := vs.map D.str) (var_ok rfl)) c_ok).trans ?_)
        show R.ok (D.bl (decide ((4 : Int) < ((vs.map D.str).length : Int)))) _ = _
        rw [List.length_map]
        congr 3
        exact propext ⟨fun h => by omega, fun h => by omega⟩
      by_cases h4 : 4 < vs.length
      · rw [decide_eq_true h4] at t
        rw [if_pos h4]
        exact ⟨[], _, seq_exc ((if_t t).trans (raise1 c_ok))⟩
      · rw [decide_eq_false h4] at t
        rw [if_neg h4, Option.none_or]
        refine Eq.mpr (congrArg (fun r => OutF 104 _ r S) (seq_nx (if_pass t))) ?_
        have ec : mLc (mTupI (mVar 3)) (gN 4) [4] tOk (mCall fTup (mCons (mVar 4) (mCons (mC (.str "")) (mNil)))) finL [some (.loc S.length), some (.str nx), some note, some (.tup (vs.map D.str)), s4] (S ++ [O.ins 104 []]) = .ok (.lst ((vs.map fun s => ((s, "") : Mv)).map mvD)) (S ++ [O.ins 104 []]) := by
          rw [lc_all (items := vs.map D.str) (S := S ++ [O.ins 104 []]) (f := fun d => .tup [d, .str ""]) rfl (by rw [List.length_map]; omega)]
          · simp only [finL, List.map_map]
            rfl
          · intro d hd
            obtain ⟨p, hp, rfl⟩ := List.mem_map.mp hd
            exact ⟨_, rfl, (call_ok (cons_ok (var_ok rfl) (cons_ok c_ok nil_ok))).trans rfl⟩
        refine sup_out (xs := [.str nx, .lst ((vs.map fun s => ((s, "") : Mv)).map mvD), .tup [], note]) (cons_ok (var_ok rfl) (cons_ok ec (cons_ok ((call_ok nil_ok).trans rfl) (cons_ok (var_ok rfl) nil_ok)))) rfl ?_
        exact deed_init (k := 104) (nm := nx) (M := .lst ((vs.map fun s => ((s, "") : Mv)).map mvD)) (ms := vs.map fun s => (s, "")) (cols := []) S (.inr (.inr rfl)) (.inl rfl) (by rw [List.length_map]; omega) hno
/-! ### as expressions -/
theorem mkV_out {k np nk : Nat} {fm : MF} {mo : ME} {ms mk : MA} {δ : Sl} {S : Sto} {xs zs : List D} {o : Er} (h1 : mo δ S = .ok (.cls k) S) (h2 : ms δ S = .ok xs S) (h3 : mk δ S = .ok zs S) (h4 : np ≤ xs.length) (h5 : xs.length ≤ 1000) (h6 : zs.length = nk) (ho : ClE o)
    (h : OutI k o (fm (.loc S.length :: xs.take np ++ zs ++ [.tup (xs.drop np)]) (S ++ [.ins k []])) S) : OutR o (mMkV k np nk fm mo ms mk δ S) S := by
  have e : mMkV k np nk fm mo ms mk δ S = fMk k (xs.length + 1 + nk) (fun l => fm (argF (np + 1) nk l)) (xs ++ zs) S := by
    unfold mMkV
    rw [h1, R.bind_ok]
    simp only [if_true]
    rw [h2, R.bind_ok, h3, R.bind_ok, if_pos ⟨h4, by omega, h6⟩]
  rw [e]
  refine out_mk (by rw [List.length_append, h6]; omega) ho ?_
  have := argF_of (np := np + 1) (nk := nk) (l := .loc S.length :: (xs ++ zs)) (d1 := .loc S.length :: xs) (d2 := zs) rfl h6 (by rw [List.length_cons]; omega)
  show OutI k o (fm (argF (np + 1) nk (.loc S.length :: (xs ++ zs))) (S ++ [O.ins k []])) S
  rw [this]
  exact h
/-- return such an expression, from a def -/
theorem out_ret {n : Nat} {m : ME} {xs : List D} {δ0 : Sl} {S : Sto} {o : Er} (hd : xs.map some ++ List.replicate (n - xs.length) none = δ0) (h : OutR o (m δ0 S) S) : OutR o (mDef finD n (sRet m) xs S) S := by
  cases o with
  | some p =>
    obtain ⟨j, vs⟩ := p
    exact (mdef_exc finD hd (ret_exc h)).trans (finX_eq rfl)
  | none =>
    obtain ⟨d, e⟩ := h
    exact ⟨d, (mdef_ret finD hd (ret_ok e)).trans (finD_eq rfl)⟩
theorem change_of {nm note L C : D} {ms cols : List D} (hn : Itm nm) (hm : ∀ d ∈ ms, MvI d) (hz : ms.length ≤ 100) (hM : Sq L ms) (hL : Sq C cols) (hc : ∀ d ∈ cols, Itm d) (hcz : cols.length ≤ 8) (hno : note ∈ memos) (ho : ClE ((ownE nm).or ((badE ms).or ((twE (ms.map fstOf)).or ((manyE 4 ms.length).or ((errN 3 cols).or (noteE note))))))) (S : Sto) : OutR ((ownE nm).or ((badE ms).or ((twE (ms.map fstOf)).or ((manyE 4 ms.length).or ((errN 3 cols).or (noteE note)))))) (fChange_of [.cls 103, nm, L, C, note] S) S := by
  refine out_ret (δ0 := [some (.cls 103), some nm, some L, some C, some note]) rfl ?_
  exact mkV_out (xs := nm :: ms) (zs := [C, note]) (var_ok rfl) (cons_ok (var_ok rfl) (star_ok hM rfl)) (cons_ok (var_ok rfl) (cons_ok (var_ok rfl) nil_ok)) (by simp) (by simp; omega) rfl ho (change_init hn hm hz hL hc hcz hno S)
theorem end_of {nm note L : D} {ss : List D} (hn : Itm nm) (hm : ∀ d ∈ ss, Itm d) (hz : ss.length ≤ 100) (hM : Sq L ss) (hno : note ∈ memos) (ho : ClE ((ownE nm).or ((errN 4 ss).or (noteE note)))) (S : Sto) : OutR ((ownE nm).or ((errN 4 ss).or (noteE note))) (fEnd_of [.cls 104, nm, L, note] S) S := by
  refine out_ret (δ0 := [some (.cls 104), some nm, some L, some note]) rfl ?_
  exact mkV_out (xs := nm :: ss) (zs := [note]) (var_ok rfl) (cons_ok (var_ok rfl) (star_ok hM rfl)) (cons_ok (var_ok rfl) nil_ok) (by simp) (by simp; omega) rfl ho (end_init hn hm hz hno S)
end K07

end
section
namespace K07
open PySem PySem.Spec L2 DL
/-! what is raised, as a value -/
def hd0 : MS := sRet (mIf (mAnd (mTest (mUn (fIsi (subB 0)) (mVar 5))) (mNot (mTest (mUn (fIsi (subAny [subO 2, subO 1, subO 3])) (mVar 5))))) (mCall fTup (mCons (mC (.str "name")) (mCons (mUn (fAtt FL "name") (mVar 5)) (mNil)))) (mCall fTup (mNil)))
def hd2 : MS := sRet (mIf (mAnd (mTest (mUn (fIsi (subB 0)) (mVar 5))) (mNot (mTest (mUn (fIsi (subAny [subO 1, subO 3])) (mVar 5))))) (mCall fTup (mCons (mC (.str "move")) (mCons (mUn (fAtt FL "move") (mVar 5)) (mNil)))) (mCall fTup (mNil)))
def hd1 : MS := sRet (mIf (mAnd (mTest (mUn (fIsi (subB 0)) (mVar 5))) (mNot (mTest (mUn (fIsi (subO 3)) (mVar 5))))) (mCall fTup (mCons (mC (.str "note")) (mCons (mUn (fAtt FL "note") (mVar 5)) (mNil)))) (mCall fTup (mNil)))
def hd3 : MS := sRet (mIf (mAnd (mTest (mUn (fIsi (subB 0)) (mVar 5))) (mNot (mTest (mUn (fIsi (subB 3)) (mVar 5))))) (mCall fTup (mCons (mC (.str "twice")) (mCons (mUn (fAtt FL "name") (mVar 5)) (mNil)))) (mCall fTup (mNil)))
def hd6 : MS := sRet (mIf (mAnd (mTest (mUn (fIsi (subB 3)) (mVar 5))) (mNot (mTest (mUn (fIsi (subB 0)) (mVar 5))))) (mCall fTup (mCons (mC (.str "many")) (mCons (mUn (fAtt FL "limit") (mVar 5)) (mNil)))) (mCall fTup (mNil)))
def bodyR : MS := sIf (mTest (mBin fEq (mVar 0) (mC (.str "change")))) (sDrop (mCmK 103 5 2 2 [.inl 0, .inl 1, .inl 2, .inl 3] [] fChange_of (mCons (mVar 1) (mCons (mVar 2) (mNil))) (mCons (mVar 3) (mCons (mVar 4) (mNil))))) (sIf (mTest (mBin fEq (mVar 0) (mC (.str "end")))) (sDrop (mCmK 104 4 2 1 [.inl 0, .inl 1, .inl 2] [] fEnd_of (mCons (mVar 1) (mCons (mVar 2) (mNil))) (mCons (mVar 4) (mNil)))) (sIf (mTest (mBin fEq (mVar 0) (mC (.str "two")))) (sDrop (mMkV 103 1 2 fChange___init__ (mC (.cls 103)) (mCons (mVar 1) (mCons (mBin fIx (mVar 2) (mC (.int 0))) (mCons (mBin fIx (mVar 2) (mC (.int 1))) (mNil)))) (mCons (mVar 3) (mCons (mVar 4) (mNil))))) (sDrop (mMkK 102 4 2 1 [.inl 0, .inl 1, .inl 2] [] fMake___init__ (mCons (mVar 1) (mCons (mBin fIx (mVar 2) (mC (.int 0))) (mNil))) (mCons (mVar 4) (mNil))))))
def hds : List Hd := [⟨xmO 0, 5, hd0⟩, ⟨xmO 2, 5, hd2⟩, ⟨xmO 1, 5, hd1⟩, ⟨xmO 3, 5, hd3⟩, ⟨xmO 6, 5, hd6⟩]
theorem raised_def : m_law_raised = sSeq (sTry bodyR hds) (sRet (mC .non)) := rfl
theorem hd0_ok (s0 s1 s2 s3 s4 : Option D) (v : D) (S : Sto) : hd0 [s0, s1, s2, s3, s4, some (.exv 0 [v])] S = .ret (.tup [.str "name", v]) S := by kernel_rfl
theorem hd2_ok (s0 s1 s2 s3 s4 : Option D) (v : D) (S : Sto) : hd2 [s0, s1, s2, s3, s4, some (.exv 2 [v])] S = .ret (.tup [.str "move", v]) S := by kernel_rfl
theorem hd1_ok (s0 s1 s2 s3 s4 : Option D) (v : D) (S : Sto) : hd1 [s0, s1, s2, s3, s4, some (.exv 1 [v])] S = .ret (.tup [.str "note", v]) S := by kernel_rfl
theorem hd3_ok (s0 s1 s2 s3 s4 : Option D) (v : D) (S : Sto) : hd3 [s0, s1, s2, s3, s4, some (.exv 3 [v])] S = .ret (.tup [.str "twice", v]) S := by kernel_rfl
theorem hd6_ok (s0 s1 s2 s3 s4 : Option D) (v : D) (S : Sto) : hd6 [s0, s1, s2, s3, s4, some (.exv 6 [v])] S = .ret (.tup [.str "many", v]) S := by kernel_rfl
theorem endS_ret {i : Nat} {d : D} {S : Sto} (h : d.noE = true) (hs : S.all O.noE = true) : endS i (.ret d S) = .ret d S := by
  unfold endS
  exact if_pos ⟨h, hs⟩
theorem tup2_noE {x : Str} {v : D} (h : v.noE = true) : (D.tup [.str x, v]).noE = true := by
  simp only [D.noE, D.noEL, h, Bool.and_self]
def tellE : Er → D
  | none => .non
  | some (0, vs) => .tup (.str "name" :: vs)
  | some (1, vs) => .tup (.str "note" :: vs)
  | some (2, vs) => .tup (.str "move" :: vs)
  | some (3, vs) => .tup (.str "twice" :: vs)
  | some (_, vs) => .tup (.str "many" :: vs)
/-- errors of the kinds that are told -/
structure ErOk (o : Er) : Prop where
  k : ∀ j vs, o = some (j, vs) → (j = 0 ∨ j = 1 ∨ j = 2 ∨ j = 3 ∨ j = 6) ∧ ∃ v, vs = [v] ∧ v.noE = true ∧ Rp v 2 2000
theorem ErOk.cl {o : Er} (h : ErOk o) : ClE o := fun j vs e => by
  obtain ⟨_, v, rfl, _, hr⟩ := h.k j vs e
  simp only [D.cleanL, hr.1, Bool.and_self]
theorem ErOk.or {o p : Er} (h : ErOk o) (k : ErOk p) : ErOk (o.or p) := ⟨fun j vs e => by
  cases o with
  | some q => exact h.k j vs e
  | none => exact k.k j vs (by rwa [Option.none_or] at e)⟩
def OutS (o : Er) (m : MS) (δ : Sl) (S : Sto) : Prop := (∀ j vs, o = some (j, vs) → m δ S = .exc j vs δ S) ∧ (o = none → m δ S = .nx δ S)
theorem out_drop {o : Er} {m : ME} {δ : Sl} {S : Sto} (h : OutR o (m δ S) S) : OutS o (sDrop m) δ S := by
  cases o with
  | some p =>
    obtain ⟨j, vs⟩ := p
    exact ⟨fun j' vs' e => by cases e; exact drop_exc h, fun e => by cases e⟩
  | none =>
    obtain ⟨d, e⟩ := h
    exact ⟨fun j vs e => (nomatch e), fun _ => drop_ok e⟩
theorem raised_of {a b c d e : D} {o : Er} {S : Sto} (ho : ErOk o) (hS : S.all O.noE = true) (hb : OutS o bodyR [some a, some b, some c, some d, some e, none] S) : f_law_raised [a, b, c, d, e] S = .ok (tellE o) S := by
  refine (mdef_ret (m := m_law_raised) (δ0 := [some a, some b, some c, some d, some e, none]) (d := tellE o) (S1 := S) finD rfl ?_).trans (finD_eq rfl)
  rw [raised_def]
  cases o with
  | none =>
    have et : sTry bodyR hds [some a, some b, some c, some d, some e, none] S = .nx [some a, some b, some c, some d, some e, none] S := by
      unfold sTry
      rw [hb.2 rfl]
    rw [seq_nx et]
    exact ret_ok c_ok
  | some p =>
    obtain ⟨j, vs⟩ := p
    obtain ⟨hj, v, rfl, hv, _⟩ := ho.k j vs rfl
    have eb := hb.1 j [v] rfl
    refine seq_ret ?_
    unfold sTry
    rw [eb]
    rcases hj with rfl | rfl | rfl | rfl | rfl
    · show endS 5 (hd0 [some a, some b, some c, some d, some e, some (.exv 0 [v])] S) = _
      rw [hd0_ok]
      exact endS_ret (tup2_noE hv) hS
    · show endS 5 (hd1 [some a, some b, some c, some d, some e, some (.exv 1 [v])] S) = _
      rw [hd1_ok]
      exact endS_ret (tup2_noE hv) hS
    · show endS 5 (hd2 [some a, some b, some c, some d, some e, some (.exv 2 [v])] S) = _
      rw [hd2_ok]
      exact endS_ret (tup2_noE hv) hS
    · show endS 5 (hd3 [some a, some b, some c, some d, some e, some (.exv 3 [v])] S) = _
      rw [hd3_ok]
      exact endS_ret (tup2_noE hv) hS
    · show endS 5 (hd6 [some a, some b, some c, some d, some e, some (.exv 6 [v])] S) = _
      rw [hd6_ok]
      exact endS_ret (tup2_noE hv) hS
end K07

end
section
namespace K07
open PySem PySem.Spec L2 DL
/-! the four ways -/
theorem erok_none : ErOk none := ⟨fun _ _ e => nomatch e⟩
theorem erok_one {j : Nat} {v : D} (hj : j = 0 ∨ j = 1 ∨ j = 2 ∨ j = 3 ∨ j = 6) (hv : v.noE = true) (hr : Rp v 2 2000) : ErOk (some (j, [v])) := ⟨fun j' vs e => by
  cases e
  exact ⟨hj, v, rfl, hv, hr⟩⟩
theorem rp_empty : Rp (.str "") 0 82 := (Rp.str (by decide +kernel)).mono (Nat.le_refl _) (by decide +kernel)
theorem own_erok {d : D} (h : Itm d) : ErOk (ownE d) := by
  unfold ownE
  split
  · exact erok_none
  · exact erok_one (.inl rfl) h.ne (h.rp.mono (by decide) (by decide))
theorem bad_erok {ms : List D} (h : ∀ d ∈ ms, MvI d) : ErOk (badE ms) := by
  unfold badE
  cases e : ms.find? fun d => !isMove d with
  | none => exact erok_none
  | some d =>
    have hd := h d (List.mem_of_find?_eq_some e)
    exact erok_one (.inr (.inr (.inl rfl))) hd.ne hd.rp
theorem tw_erok {ss : List Str} (h : ∀ x ∈ ss, Rp (.str x) 1 600) : ErOk (twE ss) := by
  unfold twE
  cases e : twIx ss with
  | none => exact erok_none
  | some i =>
    refine erok_one (.inr (.inr (.inr (.inl rfl)))) rfl ?_
    by_cases hi : i < ss.length
    · have : ss.getD i "" = ss[i] := by simp [hi]
      rw [this]
      exact (h _ (List.getElem_mem hi)).mono (by decide) (by decide)
    · have : ss.getD i "" = "" := by simp [hi]
      rw [this]
      exact rp_empty.mono (by decide) (by decide)
theorem fst_rp {d : D} (h : MvI d) : Rp (.str (fstOf d)) 1 600 := by
  rcases h.sh with ⟨xs, rfl, _, hx⟩ | ⟨hs, _⟩
  · match xs, hx with
    | .str a :: _, hx => exact (hx (.str a) List.mem_cons_self).rp
    | [], _ => exact rp_empty.mono (by decide) (by decide)
    | .non :: _, _ => exact rp_empty.mono (by decide) (by decide)
    | .bl _ :: _, _ => exact rp_empty.mono (by decide) (by decide)
    | .int _ :: _, _ => exact rp_empty.mono (by decide) (by decide)
    | .lst _ :: _, _ => exact rp_empty.mono (by decide) (by decide)
    | .tup _ :: _, _ => exact rp_empty.mono (by decide) (by decide)
    | .dic _ _ :: _, _ => exact rp_empty.mono (by decide) (by decide)
    | .loc _ :: _, _ => exact rp_empty.mono (by decide) (by decide)
    | .exv _ _ :: _, _ => exact rp_empty.mono (by decide) (by decide)
    | .ins _ _ :: _, _ => exact rp_empty.mono (by decide) (by decide)
    | .cls _ :: _, _ => exact rp_empty.mono (by decide) (by decide)
  · have : fstOf d = "" := by
      cases d with
      | tup xs => exact absurd rfl (hs xs)
      | _ => rfl
    rw [this]
    exact rp_empty.mono (by decide) (by decide)
theorem many_erok {mo n : Nat} (h : mo ≤ 4) : ErOk (manyE mo n) := by
  unfold manyE
  split
  · have e40 : (10 : Int) ^ 40 = 10000000000000000000000000000000000000000 := by decide
    exact erok_one (.inr (.inr (.inr (.inr rfl)))) rfl ((Rp.int (by rw [e40]; omega) (by rw [e40]; omega)).mono (by decide) (by decide))
  · exact erok_none
theorem str_rp {d : D} (h : Itm d) : Rp (.str (strOf d)) 1 600 := by
  cases d with
  | str x => exact h.rp
  | _ => exact rp_empty.mono (by decide) (by decide)
theorem errN_eq (mo : Nat) (ds : List D) : errN mo ds = (((ds.find? fun d => !isName d).map fun d => (0, [d])).or ((twE (ds.map strOf)).or (manyE mo ds.length)) : Er) := by
  unfold errN twE manyE
  cases ds.find? fun d => !isName d with
  | some d => rfl
  | none => cases twIx (ds.map strOf) <;> rfl
theorem names_erok {mo : Nat} {ds : List D} (hm : mo ≤ 4) (h : ∀ d ∈ ds, Itm d) : ErOk (errN mo ds) := by
  rw [errN_eq]
  refine ErOk.or ?_ ((tw_erok fun x hx => ?_).or (many_erok hm))
  · cases e : ds.find? fun d => !isName d with
    | none => exact erok_none
    | some d =>
      have hd := h d (List.mem_of_find?_eq_some e)
      exact erok_one (.inl rfl) hd.ne (hd.rp.mono (by decide) (by decide))
  · obtain ⟨d, hd, rfl⟩ := List.mem_map.mp hx
    exact str_rp (h d hd)
theorem note_erok {d : D} (h : d ∈ memos) : ErOk (noteE d) := by
  have key : ∀ {d : D} {n w : Nat}, Rp d n w → n ≤ 2 → w ≤ 2000 → d.noE = true → ErOk (noteE d) := fun {d n w} hr h1 h2 hn => by
    unfold noteE
    split
    · exact erok_none
    · exact erok_one (.inr (.inl rfl)) hn (hr.mono h1 h2)
  have e40 : (10 : Int) ^ 40 = 10000000000000000000000000000000000000000 := by decide
  refine memo_cases (P := fun d => ErOk (noteE d)) h erok_none erok_none erok_none ?_ ?_ ?_ ?_ ?_ ?_
  · exact key (Rp.int (i := 0) (by rw [e40]; omega) (by rw [e40]; omega)) (by decide) (by decide) rfl
  · exact key (Rp.bl (b := false)) (by decide) (by decide) rfl
  · exact key (Rp.str (x := "named") (by decide +kernel)) (by decide) (by decide +kernel) rfl
  · exact key (Rp.tup (n := 0) (w := 0) (ds := []) fun d h => nomatch h) (by decide) (by decide) rfl
  · exact key (Rp.lst (n := 0) (w := 4) (ds := [.non]) fun d h => by cases List.mem_singleton.mp h; exact Rp.non) (by decide) (by decide) rfl
  · exact key (Rp.dic (n := 0) (w := 0) (v := 0) (ks := []) (ds := []) rfl (fun d h => nomatch h) fun d h => nomatch h) (by decide) (by decide) rfl
/-! ### raised -/
def chgE (nm : D) (ms cols : List D) (note : D) : Er := (ownE nm).or ((badE ms).or ((twE (ms.map fstOf)).or ((manyE 4 ms.length).or ((errN 3 cols).or (noteE note)))))
theorem chg_erok {nm note : D} {ms cols : List D} (hn : Itm nm) (hm : ∀ d ∈ ms, MvI d) (hc : ∀ d ∈ cols, Itm d) (hno : note ∈ memos) : ErOk (chgE nm ms cols note) :=
  (own_erok hn).or ((bad_erok hm).or ((tw_erok fun x hx => by
    obtain ⟨d, hd, rfl⟩ := List.mem_map.mp hx
    exact fst_rp (hm d hd)).or ((many_erok (by decide)).or ((names_erok (by decide) hc).or (note_erok hno)))))
def endE (nm : D) (ss : List D) (note : D) : Er := (ownE nm).or ((errN 4 ss).or (noteE note))
theorem end_erok {nm note : D} {ss : List D} (hn : Itm nm) (hm : ∀ d ∈ ss, Itm d) (hno : note ∈ memos) : ErOk (endE nm ss note) := (own_erok hn).or ((names_erok (by decide) hm).or (note_erok hno))
def makE (nm s note : D) : Er := (ownE nm).or ((ownE s).or (noteE note))
theorem mak_erok {nm s note : D} (hn : Itm nm) (hs : Itm s) (hno : note ∈ memos) : ErOk (makE nm s note) := (own_erok hn).or ((own_erok hs).or (note_erok hno))
theorem way_eq {a b : Str} {r : Sl} {S : Sto} {k : Bool} (h : decide (a = b) = k) : mTest (mBin fEq (mVar 0) (mC (.str b))) (some (.str a) :: r) S = .ok k S := test_ok ((bin_ok (x := .str a) (var_ok rfl) c_ok).trans (congrArg (fun k => R.ok (D.bl k) S) h))
section
variable {nm note : D} {S : Sto}
theorem raised_change {ms cols : List D} (hn : Itm nm) (hm : ∀ d ∈ ms, MvI d) (hz : ms.length ≤ 100) (hc : ∀ d ∈ cols, Itm d) (hcz : cols.length ≤ 8) (hno : note ∈ memos) (hS : S.all O.noE = true) : f_law_raised [.str "change", nm, .lst ms, .lst cols, note] S = .ok (tellE (chgE nm ms cols note)) S := by
  have ho := chg_erok hn hm hc hno
  refine raised_of ho hS ?_
  have h := out_drop (δ := [some (.str "change"), some nm, some (.lst ms), some (.lst cols), some note, none]) (m := mCmK 103 5 2 2 [.inl 0, .inl 1, .inl 2, .inl 3] [] fChange_of (mCons (mVar 1) (mCons (mVar 2) (mNil))) (mCons (mVar 3) (mCons (mVar 4) (mNil)))) (S := S) (o := chgE nm ms cols note) (change_of (L := .lst ms) (C := .lst cols) hn hm hz (.inl rfl) (.inl rfl) hc hcz hno ho.cl S)
  have eb : bodyR [some (.str "change"), some nm, some (.lst ms), some (.lst cols), some note, none] S = _ := if_t (way_eq (by decide +kernel))
  exact ⟨fun j vs e => eb.trans (h.1 j vs e), fun e => eb.trans (h.2 e)⟩
theorem raised_end {ss : List D} {C : D} (hn : Itm nm) (hm : ∀ d ∈ ss, Itm d) (hz : ss.length ≤ 100) (hno : note ∈ memos) (hS : S.all O.noE = true) : f_law_raised [.str "end", nm, .lst ss, C, note] S = .ok (tellE (endE nm ss note)) S := by
  have ho := end_erok hn hm hno
  refine raised_of ho hS ?_
  have h := out_drop (δ := [some (.str "end"), some nm, some (.lst ss), some C, some note, none]) (m := mCmK 104 4 2 1 [.inl 0, .inl 1, .inl 2] [] fEnd_of (mCons (mVar 1) (mCons (mVar 2) (mNil))) (mCons (mVar 4) (mNil))) (S := S) (o := endE nm ss note) (end_of (L := .lst ss) hn hm hz (.inl rfl) hno ho.cl S)
  have eb : bodyR [some (.str "end"), some nm, some (.lst ss), some C, some note, none] S = _ := (if_f (way_eq (by decide +kernel))).trans (if_t (way_eq (by decide +kernel)))
  exact ⟨fun j vs e => eb.trans (h.1 j vs e), fun e => eb.trans (h.2 e)⟩
theorem raised_make {s C : D} {r : List D} (hn : Itm nm) (hs : Itm s) (hno : note ∈ memos) (hS : S.all O.noE = true) : f_law_raised [.str "make", nm, .lst (s :: r), C, note] S = .ok (tellE (makE nm s note)) S := by
  have ho := mak_erok hn hs hno
  refine raised_of ho hS ?_
  have em : mMkK 102 4 2 1 [.inl 0, .inl 1, .inl 2] [] fMake___init__ (mCons (mVar 1) (mCons (mBin fIx (mVar 2) (mC (.int 0))) (mNil))) (mCons (mVar 4) (mNil)) [some (.str "make"), some nm, some (.lst (s :: r)), some C, some note, none] S = fMk 102 4 fMake___init__ [nm, s, note] S := by
    have ix : mBin fIx (mVar 2) (mC (.int 0)) [some (.str "make"), some nm, some (.lst (s :: r)), some C, some note, none] S = .ok s S := by
      rw [bin_ok (var_ok rfl) c_ok]
      have h0 : atI (s :: r) (0 : Int) = some s := atI_nat (xs := s :: r) (i := 0) (by simp)
      simp [fIx, D.sq, D.seq, h0]
    unfold mMkK
    rw [cons_ok (var_ok rfl) (cons_ok ix nil_ok), R.bind_ok]
    rfl
  have h := out_drop (δ := [some (.str "make"), some nm, some (.lst (s :: r)), some C, some note, none]) (m := mMkK 102 4 2 1 [.inl 0, .inl 1, .inl 2] [] fMake___init__ (mCons (mVar 1) (mCons (mBin fIx (mVar 2) (mC (.int 0))) (mNil))) (mCons (mVar 4) (mNil))) (S := S) (o := makE nm s note) (by rw [em]; exact out_mk rfl ho.cl (make_init hn hs hno S))
  have eb : bodyR [some (.str "make"), some nm, some (.lst (s :: r)), some C, some note, none] S = _ := (if_f (way_eq (by decide +kernel))).trans ((if_f (way_eq (by decide +kernel))).trans (if_f (way_eq (by decide +kernel))))
  exact ⟨fun j vs e => eb.trans (h.1 j vs e), fun e => eb.trans (h.2 e)⟩
theorem raised_two {m0 m1 : D} {cols : List D} (hn : Itm nm) (hm : ∀ d ∈ [m0, m1], MvI d) (hc : ∀ d ∈ cols, Itm d) (hcz : cols.length ≤ 8) (hno : note ∈ memos) (hS : S.all O.noE = true) : f_law_raised [.str "two", nm, .lst [m0, m1], .lst cols, note] S = .ok (tellE (chgE nm [m0, m1] cols note)) S := by
  have ho := chg_erok hn hm hc hno
  refine raised_of ho hS ?_
  have h := out_drop (δ := [some (.str "two"), some nm, some (.lst [m0, m1]), some (.lst cols), some note, none]) (m := mMkV 103 1 2 fChange___init__ (mC (.cls 103)) (mCons (mVar 1) (mCons (mBin fIx (mVar 2) (mC (.int 0))) (mCons (mBin fIx (mVar 2) (mC (.int 1))) (mNil)))) (mCons (mVar 3) (mCons (mVar 4) (mNil)))) (S := S) (o := chgE nm [m0, m1] cols note)
    (mkV_out (xs := [nm, m0, m1]) (zs := [.lst cols, note]) c_ok (cons_ok (var_ok rfl) (cons_ok ((bin_ok (var_ok rfl) c_ok).trans rfl) (cons_ok ((bin_ok (var_ok rfl) c_ok).trans rfl) nil_ok))) (cons_ok (var_ok rfl) (cons_ok (var_ok rfl) nil_ok)) (by simp) (by simp) rfl ho.cl (change_init hn hm (by simp) (.inl rfl) hc hcz hno S))
  have eb : bodyR [some (.str "two"), some nm, some (.lst [m0, m1]), some (.lst cols), some note, none] S = _ := (if_f (way_eq (by decide +kernel))).trans ((if_f (way_eq (by decide +kernel))).trans (if_t (way_eq (by decide +kernel))))
  exact ⟨fun j vs e => eb.trans (h.1 j vs e), fun e => eb.trans (h.2 e)⟩
end
end K07

end
section
namespace K07
open PySem PySem.Spec L2 DL
/-! the law's own checks -/
def twL (ss : List Str) : List D := match twIx ss with
  | some i => [.str (ss.getD i "")]
  | none => []
theorem filter_one {α : Type} (p : α → Bool) : ∀ l : List α, (l.filter p).take 1 = (l.find? p).toList
  | [] => rfl
  | a :: r => by
    rw [List.filter_cons, List.find?_cons]
    cases p a with
    | true => rfl
    | false => exact filter_one p r
theorem cut1 : ∀ (xs : List D), cutD xs none (some 1) = xs.take 1
  | [] => rfl
  | a :: r => cut_take (a :: r) 1 (by simp)
theorem slice1 {m : ME} {δ : Sl} {S S1 : Sto} {xs : List D} (h : m δ S = .ok (.lst xs) S1) : mSlice m none (some (mC (.int 1))) δ S = .ok (.lst (xs.take 1)) S1 := by
  unfold mSlice mPart
  rw [h]
  simp only [R.bind_ok, c_ok]
  show R.ok (D.lst (cutD xs none (some 1))) S1 = _
  rw [cut1]
theorem twice_eq {ss : List Str} (hz : ss.length ≤ 100) (S : Sto) : f_law_twice [.lst (ss.map D.str)] S = .ok (.lst (twL ss)) S := by
  refine (mdef_ret (m := m_law_twice) (δ0 := [some (.lst (ss.map D.str)), none, none]) (d := .lst (twL ss)) (S1 := S) finD rfl ?_).trans (finD_eq rfl)
  unfold m_law_twice
  refine ret_ok ?_
  have ei : (ss.map D.str).mapIdx (fun i x => D.tup [.int (i : Int), x]) = (List.range ss.length).map fun (i : Nat) => D.tup [.int (i : Int), .str (ss.getD i "")] := by
    rw [mapIdx_range _ (.str "") (ss.map D.str), List.length_map]
    refine List.map_congr_left fun i hi => ?_
    have hi' : i < ss.length := List.mem_range.mp hi
    simp [hi']
  have em : mEnI (mVar 0) [some (.lst (ss.map D.str)), none, none] S = .ok ((List.range ss.length).map fun (i : Nat) => D.tup [.int (i : Int), .str (ss.getD i "")]) S := by
    rw [← ei]
    rfl
  have h := lc_filter (mi := mEnI (mVar 0)) (gm := gT [gN 1, gN 2]) (vs := [1, 2]) (t := mTest (mBin (fIn false) (mVar 2) (mSlice (mVar 0) none (some (mVar 1))))) (e := mVar 2) (fin := finL) (δ := [some (.lst (ss.map D.str)), none, none]) (S := S)
    (f := fun d => match d with | .tup [_, y] => y | _ => .non) (p := fun d => match d with | .tup [.int i, .str x] => decide (x ∈ ss.take i.toNat) | _ => false) em (by rw [List.length_map, List.length_range]; omega)
    (fun d hd => by
      obtain ⟨i, hi, rfl⟩ := List.mem_map.mp hd
      have hi' : i < ss.length := List.mem_range.mp hi
      refine ⟨[some (.lst (ss.map D.str)), some (.int (i : Int)), some (.str (ss.getD i ""))], rfl, test_ok ?_, fun _ => var_ok rfl⟩
      exact Sq.before (L := .lst (ss.map D.str)) (.inl rfl) (i := i) (by omega) (ss.getD i "") (var_ok rfl) (var_ok rfl) (var_ok rfl))
  have h2 := slice1 (h.trans rfl)
  rw [h2, ← List.map_take, filter_one]
  have ef : ((List.range ss.length).map fun (i : Nat) => D.tup [.int (i : Int), .str (ss.getD i "")]).find? (fun d => match d with | .tup [.int i, .str x] => decide (x ∈ ss.take i.toNat) | _ => false) = (twIx ss).map fun (i : Nat) => D.tup [.int (i : Int), .str (ss.getD i "")] := by
    rw [List.find?_map]
    rfl
  rw [ef]
  unfold twL
  cases twIx ss <;> rfl
theorem is_move_eq {d : D} (h : MvI d) (S : Sto) : f_law_is_move [d] S = .ok (.bl (isMove d)) S := by
  refine (mdef_ret (m := m_law_is_move) (δ0 := [some d]) (d := .bl (isMove d)) (S1 := S) finD rfl ?_).trans (finD_eq rfl)
  unfold m_law_is_move
  refine ret_ok ?_
  unfold mVal
  have e : mAnd (mTest (mUn (fIsi (subV "tuple")) (mVar 0))) (mAnd (mTest (mBin fEq (mCall fLenS (mCons (mVar 0) (mNil))) (mC (.int 2)))) (mAnd (mTest (mCall (cut 1 f_law_is_name []) (mCons (mBin fIx (mVar 0) (mC (.int 0))) (mNil)))) (mTest (mCall (cut 1 f_law_is_name []) (mCons (mBin fIx (mVar 0) (mC (.int 1))) (mNil)))))) [some d] S = .ok (isMove d) S := by
    rcases h.sh with ⟨xs, rfl, hz, hx⟩ | ⟨hs, n, h1, h2, h3⟩
    · have e1 : mTest (mUn (fIsi (subV "tuple")) (mVar 0)) [some (.tup xs)] S = .ok true S := test_ok ((un_ok (var_ok rfl)).trans rfl)
      have e2 : mTest (mBin fEq (mCall fLenS (mCons (mVar 0) (mNil))) (mC (.int 2))) [some (.tup xs)] S = .ok (decide ((xs.length : Int) = 2)) S := test_ok ((bin_ok (len_tup' (var_ok rfl)) c_ok).trans rfl)
      by_cases hl : xs.length = 2
      · obtain ⟨a, b, rfl⟩ : ∃ a b, xs = [a, b] := by
          match xs, hl with
          | [a, b], _ => exact ⟨a, b, rfl⟩
        have ea : mTest (mCall (cut 1 f_law_is_name []) (mCons (mBin fIx (mVar 0) (mC (.int 0))) (mNil))) [some (.tup [a, b])] S = .ok (isName a) S := test_ok (by rw [call1 (x := a) ((bin_ok (var_ok rfl) c_ok).trans rfl), lname_eq (hx a (by simp))])
        have eb : mTest (mCall (cut 1 f_law_is_name []) (mCons (mBin fIx (mVar 0) (mC (.int 1))) (mNil))) [some (.tup [a, b])] S = .ok (isName b) S := test_ok (by rw [call1 (x := b) ((bin_ok (var_ok rfl) c_ok).trans rfl), lname_eq (hx b (by simp))])
        have := and_ok e1 fun _ => and_ok e2 fun _ => and_ok ea fun _ => eb
        rw [this]
        simp [isMove]
      · have hl' : ¬ (xs.length : Int) = 2 := by omega
        rw [decide_eq_false hl'] at e2
        have hm : isMove (.tup xs) = false := by
          match xs, hl with
          | [], _ => rfl
          | [_], _ => rfl
          | [_, _], h => exact absurd rfl h
          | _ :: _ :: _ :: _, _ => rfl
        rw [hm]
        exact and_ok (a := true) (b := false) e1 fun _ => and_f e2
    · have hm : isMove d = false := by
        cases d with
        | tup xs => exact absurd rfl (hs xs)
        | _ => rfl
      rw [hm]
      exact and_f (test_ok (h3 ▸ isi_ty (var_ok rfl) (h1 S) h2))
  rw [e]
  rfl
end K07

end
section
namespace K07
open PySem PySem.Spec L2 DL
/-! what is due -/
theorem mif_t {t : MT} {a b : ME} {δ : Sl} {S : Sto} (h : t δ S = .ok true S) : mIf t a b δ S = a δ S := by
  unfold mIf
  rw [h]
  rfl
theorem mif_f {t : MT} {a b : ME} {δ : Sl} {S : Sto} (h : t δ S = .ok false S) : mIf t a b δ S = b δ S := by
  unfold mIf
  rw [h]
  rfl
theorem ne_twL {ss : List Str} {m : ME} {δ : Sl} {S : Sto} (h : m δ S = .ok (.lst (twL ss)) S) : mTest (mBin (fNeE true) m (mCall fLst (mNil))) δ S = .ok (twIx ss).isSome S := by
  refine test_ok ?_
  rw [bin_ok h ((call_ok nil_ok).trans rfl)]
  unfold twL
  cases twIx ss <;> rfl
theorem due_names_eq {mo : Nat} {ds : List D} (hi : ∀ d ∈ ds, Itm d) (hz : ds.length ≤ 100) (S : Sto) : f_law_due_names [.lst ds, .int (mo : Int)] S = .ok (tellE (errN mo ds)) S := by
  refine (mdef_ret (m := m_law_due_names) (δ0 := [some (.lst ds), some (.int (mo : Int)), none]) (d := tellE (errN mo ds)) (S1 := S) finD rfl ?_).trans (finD_eq rfl)
  have tn : ∀ d, Itm d → mNot (mTest (mCall (cut 1 f_law_is_name []) (mCons (mVar 2) (mNil)))) [some (.lst ds), some (.int (mo : Int)), some d] S = .ok (!isName d) S := fun d hd => not_t (test_ok (by rw [call1 (x := d) (var_ok rfl), lname_eq hd]))
  have key := find_ret (gm := gN 2) (b := sIf (mNot (mTest (mCall (cut 1 f_law_is_name []) (mCons (mVar 2) (mNil))))) (sRet (mCall fTup (mCons (mC (.str "name")) (mCons (mVar 2) (mNil))))) (sNx)) (v := fun d => .tup [.str "name", d]) (bad := fun d => !isName d) (I := fun δ => ∃ a, δ = [some (.lst ds), some (.int (mo : Int)), a]) (S := S) (ds := ds)
    (fun d hd hb δ hI => by
      obtain ⟨a, rfl⟩ := hI
      have t := tn d (hi d hd)
      rw [hb] at t
      exact ⟨_, _, rfl, if_pass t, _, rfl⟩)
    (fun d hd hb δ hI => by
      obtain ⟨a, rfl⟩ := hI
      have t := tn d (hi d hd)
      rw [hb] at t
      exact ⟨_, rfl, (if_t t).trans (ret_ok rfl)⟩) [some (.lst ds), some (.int (mo : Int)), none] ⟨_, rfl⟩
  have el : sFor (mSeqI (mVar 0)) (gN 2) (sIf (mNot (mTest (mCall (cut 1 f_law_is_name []) (mCons (mVar 2) (mNil))))) (sRet (mCall fTup (mCons (mC (.str "name")) (mCons (mVar 2) (mNil))))) (sNx)) [some (.lst ds), some (.int (mo : Int)), none] S = _ := for_ok' (ds := ds) (S1 := S) rfl
  unfold m_law_due_names errN
  rcases key with ⟨d, ed, e2⟩ | ⟨ed, δ2, e2, a, rfl⟩
  · rw [ed]
    exact seq_ret (el.trans e2)
  · rw [ed]
    obtain ⟨ev, hv⟩ := strs_of (find_none ed)
    have hlen : ds.length = (ds.map strOf).length := by rw [List.length_map]
    rw [hlen]
    generalize ds.map strOf = vs at ev hv hlen
    have hvz : vs.length ≤ 100 := by omega
    subst ev
    refine (seq_nx (el.trans e2)).trans ?_
    have et : mCall (cut 1 f_law_twice []) (mCons (mVar 0) (mNil)) [some (.lst (vs.map D.str)), some (.int (mo : Int)), a] S = .ok (.lst (twL vs)) S := (call1 (var_ok rfl)).trans (twice_eq hvz S)
    have en := ne_twL et
    cases ei : twIx vs with
    | some i =>
      rw [ei] at en
      refine seq_ret ((if_t en).trans (ret_ok ?_))
      have ex : twL vs = [.str (vs.getD i "")] := by unfold twL; rw [ei]
      rw [ex] at et
      exact (call_ok (cons_ok c_ok (cons_ok ((bin_ok et c_ok).trans rfl) nil_ok))).trans rfl
    | none =>
      rw [ei] at en
      refine (seq_nx (if_pass en)).trans (ret_ok ?_)
      have t : mTest (mBin fGt (mCall fLenS (mCons (mVar 0) (mNil))) (mVar 1)) [some (.lst (vs.map D.str)), some (.int (mo : Int)), a] S = .ok (decide (mo < vs.length)) S := by
        refine test_ok ((bin_ok (Sq.len (L := .lst (vs.map D.str)) (.inl rfl) (var_ok rfl)) (var_ok rfl)).trans ?_)
        show R.ok (D.bl (decide ((mo : Int) < ((vs.map D.str).length : Int)))) _ = _
        rw [List.length_map]
        congr 3
        exact propext ⟨fun h => by omega, fun h => by omega⟩
      by_cases h4 : mo < vs.length
      · rw [decide_eq_true h4] at t
        simp only [if_pos h4]
        exact (mif_t t).trans ((call_ok (cons_ok c_ok (cons_ok (var_ok rfl) nil_ok))).trans rfl)
      · rw [decide_eq_false h4] at t
        simp only [if_neg h4]
        exact (mif_f t).trans c_ok
theorem due_moves_eq {ms : List D} (hi : ∀ d ∈ ms, MvI d) (hz : ms.length ≤ 100) (S : Sto) : f_law_due_moves [.lst ms] S = .ok (tellE (errM ms)) S := by
  refine (mdef_ret (m := m_law_due_moves) (δ0 := [some (.lst ms), none, none]) (d := tellE (errM ms)) (S1 := S) finD rfl ?_).trans (finD_eq rfl)
  have tn : ∀ d, MvI d → mNot (mTest (mCall (cut 1 f_law_is_move []) (mCons (mVar 1) (mNil)))) [some (.lst ms), some d, none] S = .ok (!isMove d) S := fun d hd => not_t (test_ok (by rw [call1 (x := d) (var_ok rfl), is_move_eq hd]))
  have key := find_ret (gm := gN 1) (b := sIf (mNot (mTest (mCall (cut 1 f_law_is_move []) (mCons (mVar 1) (mNil))))) (sRet (mCall fTup (mCons (mC (.str "move")) (mCons (mVar 1) (mNil))))) (sNx)) (v := fun d => .tup [.str "move", d]) (bad := fun d => !isMove d) (I := fun δ => ∃ a, δ = [some (.lst ms), a, none]) (S := S) (ds := ms)
    (fun d hd hb δ hI => by
      obtain ⟨a, rfl⟩ := hI
      have t := tn d (hi d hd)
      rw [hb] at t
      exact ⟨_, _, rfl, if_pass t, _, rfl⟩)
    (fun d hd hb δ hI => by
      obtain ⟨a, rfl⟩ := hI
      have t := tn d (hi d hd)
      rw [hb] at t
      exact ⟨_, rfl, (if_t t).trans (ret_ok rfl)⟩) [some (.lst ms), none, none] ⟨_, rfl⟩
  have el : sFor (mSeqI (mVar 0)) (gN 1) (sIf (mNot (mTest (mCall (cut 1 f_law_is_move []) (mCons (mVar 1) (mNil))))) (sRet (mCall fTup (mCons (mC (.str "move")) (mCons (mVar 1) (mNil))))) (sNx)) [some (.lst ms), none, none] S = _ := for_ok' (ds := ms) (S1 := S) rfl
  unfold m_law_due_moves errM badE
  rcases key with ⟨d, ed, e2⟩ | ⟨ed, δ2, e2, a, rfl⟩
  · rw [ed]
    exact seq_ret (el.trans e2)
  · rw [ed]
    have hall : ∀ d ∈ ms, isMove d = true := fun d hd => by
      have := List.find?_eq_none.mp ed d hd
      simpa using this
    obtain ⟨vs, e3, e4⟩ := moves_of hall
    have hlen : ms.length = vs.length := by rw [e3, List.length_map]
    rw [e4, hlen]
    have hvz : vs.length ≤ 100 := by omega
    subst e3
    refine (seq_nx (el.trans e2)).trans ?_
    have ef : mLc (mSeqI (mVar 0)) (gN 1) [1] tOk (mBin fIx (mVar 1) (mC (.int 0))) finL [some (.lst (vs.map mvD)), a, none] S = .ok (.lst ((vs.map (·.1)).map D.str)) S := by
      rw [lc_all (items := vs.map mvD) (S := S) (f := fun d => match d with | .tup [.str a, _] => .str a | _ => .non) rfl (by rw [List.length_map]; omega)]
      · simp only [finL, List.map_map]
        rfl
      · intro d hd
        obtain ⟨p, hp, rfl⟩ := List.mem_map.mp hd
        exact ⟨_, rfl, (bin_ok (x := mvD p) (y := .int 0) (S1 := S) (S2 := S) (var_ok rfl) c_ok).trans rfl⟩
    refine (seq_nx (set_ok ((call1 ef).trans (twice_eq (by rw [List.length_map]; exact hvz) S)))).trans ?_
    have en := ne_twL (ss := vs.map (·.1)) (m := mVar 2) (δ := [some (.lst (vs.map mvD)), a, some (.lst (twL (vs.map (·.1))))]) (S := S) (var_ok rfl)
    unfold twE
    cases ei : twIx (vs.map (·.1)) with
    | some i =>
      rw [ei] at en
      refine seq_ret ((if_t en).trans (ret_ok ?_))
      have ex : twL (vs.map (·.1)) = [.str ((vs.map (·.1)).getD i "")] := by unfold twL; rw [ei]
      rw [ex]
      exact (call_ok (cons_ok c_ok (cons_ok ((bin_ok (var_ok rfl) c_ok).trans rfl) nil_ok))).trans rfl
    | none =>
      rw [ei] at en
      refine (seq_nx (if_pass en)).trans (ret_ok ?_)
      have t : mTest (mBin fGt (mCall fLenS (mCons (mVar 0) (mNil))) (mC (.int 4))) [some (.lst (vs.map mvD)), a, some (.lst (twL (vs.map (·.1))))] S = .ok (decide (4 < vs.length)) S := by
        refine test_ok ((bin_ok (Sq.len (L := .lst (vs.map mvD)) (.inl rfl) (var_ok rfl)) c_ok).trans ?_)
        show R.ok (D.bl (decide ((4 : Int) < ((vs.map mvD).length : Int)))) _ = _
        rw [List.length_map]
        congr 3
        exact propext ⟨fun h => by omega, fun h => by omega⟩
      unfold manyE
      by_cases h4 : 4 < vs.length
      · rw [decide_eq_true h4] at t
        rw [if_pos h4]
        exact (mif_t t).trans ((call_ok (cons_ok c_ok (cons_ok c_ok nil_ok))).trans rfl)
      · rw [decide_eq_false h4] at t
        rw [if_neg h4]
        exact (mif_f t).trans c_ok
end K07

end
section
namespace K07
open PySem PySem.Spec L2 DL
/-! the first error that is due -/
def firstE : List Er → Er
  | [] => none
  | o :: r => o.or (firstE r)
theorem tell_some (j : Nat) (vs : List D) : ∃ s, tellE (some (j, vs)) = .tup (.str s :: vs) := by
  match j with
  | 0 => exact ⟨_, rfl⟩
  | 1 => exact ⟨_, rfl⟩
  | 2 => exact ⟨_, rfl⟩
  | 3 => exact ⟨_, rfl⟩
  | n + 4 => exact ⟨_, rfl⟩
theorem tell_not (o : Er) (S : Sto) : fNotN2 (tellE o) .non S = .ok (.bl o.isSome) S := by
  cases o with
  | none => kernel_rfl
  | some p =>
    obtain ⟨j, vs⟩ := p
    obtain ⟨s, e⟩ := tell_some j vs
    rw [e]
    rfl
def fiB : MS := sIf (mTest (mBin fNotN2 (mVar 2) (mC .non))) (sRet (mVar 2)) (sNx)
theorem first_go {L note : D} {S : Sto} : ∀ (os : List Er) (s2 : Option D), (∃ p, firstE os = some p ∧ forGo (gN 2) fiB (os.map tellE) [some L, some note, s2] S = .ret (tellE (some p)) S) ∨ (firstE os = none ∧ ∃ a, forGo (gN 2) fiB (os.map tellE) [some L, some note, s2] S = .nx [some L, some note, a] S)
  | [], s2 => .inr ⟨rfl, s2, rfl⟩
  | o :: r, s2 => by
    have eg : (gN 2).f (tellE o) [some L, some note, s2] = some [some L, some note, some (tellE o)] := rfl
    have t : mTest (mBin fNotN2 (mVar 2) (mC .non)) [some L, some note, some (tellE o)] S = .ok o.isSome S := test_ok ((bin_ok (var_ok rfl) c_ok).trans (tell_not o S))
    cases o with
    | some p =>
      refine .inl ⟨p, rfl, ?_⟩
      have eb : fiB [some L, some note, some (tellE (some p))] S = .ret (tellE (some p)) S := (if_t t).trans (ret_ok (var_ok rfl))
      rw [List.map_cons]
      unfold forGo
      rw [eg]
      simp only [eb]
    | none =>
      have eb : fiB [some L, some note, some (tellE none)] S = .nx [some L, some note, some (tellE none)] S := if_pass t
      have en : forGo (gN 2) fiB ((none :: r).map tellE) [some L, some note, s2] S = forGo (gN 2) fiB (r.map tellE) [some L, some note, some (tellE none)] S := by
        rw [List.map_cons]
        conv => lhs; unfold forGo
        rw [eg]
        simp only [eb]
      rw [en]
      exact first_go r _
theorem memo_test {note : D} (h : note ∈ memos) (s0 s2 : Option D) (S : Sto) : mOr (mTest (mBin fIsN2 (mVar 1) (mC .non))) (mTest (mUn (fIsi (subJ 100)) (mVar 1))) [s0, some note, s2] S = .ok (noteB note) S :=
  memo_cases (P := fun note => mOr (mTest (mBin fIsN2 (mVar 1) (mC .non))) (mTest (mUn (fIsi (subJ 100)) (mVar 1))) [s0, some note, s2] S = .ok (noteB note) S) h (by kernel_rfl) (by kernel_rfl) (by kernel_rfl) (by kernel_rfl) (by kernel_rfl) (by kernel_rfl) (by kernel_rfl) (by kernel_rfl) (by kernel_rfl)
theorem first_eq {os : List Er} {note : D} (h : note ∈ memos) (S : Sto) : f_law_first [.lst (os.map tellE), note] S = .ok (tellE ((firstE os).or (noteE note))) S := by
  refine (mdef_ret (m := m_law_first) (δ0 := [some (.lst (os.map tellE)), some note, none]) (d := tellE ((firstE os).or (noteE note))) (S1 := S) finD rfl ?_).trans (finD_eq rfl)
  have el : sFor (mSeqI (mVar 0)) (gN 2) fiB [some (.lst (os.map tellE)), some note, none] S = _ := for_ok' (ds := os.map tellE) (S1 := S) rfl
  unfold m_law_first
  rcases first_go (L := .lst (os.map tellE)) (note := note) (S := S) os none with ⟨p, e1, e2⟩ | ⟨e1, a, e2⟩
  · rw [e1]
    exact seq_ret (el.trans e2)
  · rw [e1, Option.none_or]
    refine (seq_nx (el.trans e2)).trans (ret_ok ?_)
    have t := memo_test h (some (.lst (os.map tellE))) a S
    unfold noteE
    cases hb : noteB note with
    | true =>
      rw [hb] at t
      exact (mif_t t).trans c_ok
    | false =>
      rw [hb] at t
      exact (mif_f t).trans ((call_ok (cons_ok c_ok (cons_ok (var_ok rfl) nil_ok))).trans rfl)
theorem chg_first (nm : D) (ms cols : List D) (note : D) : (firstE [ownE nm, errM ms, errN 3 cols]).or (noteE note) = chgE nm ms cols note := by
  simp only [firstE, Option.or_none, Option.or_assoc, chgE, errM]
theorem end_first (nm : D) (ss : List D) (note : D) : (firstE [ownE nm, errN 4 ss]).or (noteE note) = endE nm ss note := by
  simp only [firstE, Option.or_none, Option.or_assoc, endE]
theorem one_own (s : D) : errN 1 [s] = ownE s := by
  unfold errN ownE
  cases h : isName s with
  | true =>
    obtain ⟨x, rfl, _⟩ := name_str h
    simp [h, twIx]
  | false => simp [h]
theorem mak_first (nm s note : D) : (firstE [ownE nm, errN 1 [s]]).or (noteE note) = makE nm s note := by
  simp only [firstE, Option.or_none, Option.or_assoc, makE, one_own]
end K07

end
section
namespace K07
open PySem PySem.Spec L2 DL
/-! ### odd things, spoiled lists -/
def Sh (x : Str) : Prop := x.length ≤ 40 ∧ ∀ c ∈ x.cps.toList, c < 16 ^ 8
theorem Sh.itm {x : Str} (h : Sh x) : Itm (.str x) := ⟨(Rp.str h.2).mono (by decide) (by have := h.1; omega), rfl, .inl ⟨x, rfl, h.1⟩⟩
theorem Sh.let_ {x : Str} (h : isLet x) : Sh x := ⟨by have := h.1; omega, h.lt⟩
theorem len_app (x y : Str) : (x ++ y).length = x.length + y.length := by
  show (x ++ y).cps.size = _
  simp only [Str.cps_append, Array.size_append]
  rfl
theorem Sh.app {x y : Str} (h : Sh x) (k : Sh y) (hl : x.length + y.length ≤ 40) : Sh (x ++ y) := ⟨by rw [len_app]; exact hl, fun c hc => by
  simp only [Str.cps_append, Array.toList_append] at hc
  rcases List.mem_append.mp hc with hc | hc
  · exact h.2 c hc
  · exact k.2 c hc⟩
theorem Sh.cut {x : Str} (h : Sh x) (l r : Option Int) : Sh (cutS x l r) := ⟨Nat.le_trans (by
    show (cutS x l r).cps.size ≤ x.cps.size
    unfold cutS
    rw [List.size_toArray, List.length_take, List.length_drop, Array.length_toList]
    omega) h.1, fun c hc => h.2 c (by
  have : c ∈ (x.cps.toList.drop (HT.sIx x.length 0 l)).take (HT.sIx x.length x.length r - HT.sIx x.length 0 l) := by simpa [cutS] using hc
  exact List.mem_of_mem_drop (List.mem_of_mem_take this))⟩
theorem let_ascii : ∀ k ∈ letters.cps.toList, k < 128 := by decide +kernel
theorem up_small : ∀ k ∈ letters.cps.toList, PyProof.Rows.up1 k < 16 ^ 8 := by decide +kernel
theorem Sh.upper {x : Str} (h : isLet x) : Sh (Txt.upper x) := by
  rw [PyProof.Rows.upper_ascii fun c hc => let_ascii c (h.2.2 c hc)]
  refine ⟨?_, fun c hc => ?_⟩
  · show (x.cps.map PyProof.Rows.up1).size ≤ 40
    rw [Array.size_map]
    have : x.cps.size ≤ 8 := h.1
    omega
  · have hc' : c ∈ x.cps.toList.map PyProof.Rows.up1 := by simpa using hc
    obtain ⟨k, hk, rfl⟩ := List.mem_map.mp hc'
    exact up_small k (h.2.2 k hk)
theorem itm_int {i : Int} (h1 : -(10 ^ 40 : Int) < i) (h2 : i < 10 ^ 40) : Itm (.int i) := ⟨(Rp.int h1 h2).mono (by decide) (by decide), rfl, .inr ⟨(fun x h => by cases h), "int", fun S => rfl, by decide, by decide⟩⟩
theorem itm_bl (b : Bool) : Itm (.bl b) := ⟨Rp.bl.mono (by decide) (by decide), rfl, .inr ⟨(fun x h => by cases h), "bool", fun S => rfl, by decide, by decide⟩⟩
theorem itm_non : Itm .non := ⟨Rp.non.mono (by decide) (by decide), rfl, .inr ⟨(fun x h => by cases h), "NoneType", fun S => rfl, by decide, by decide⟩⟩
theorem itm_lst0 : Itm (.lst []) := ⟨(Rp.lst (n := 0) (w := 0) (ds := []) fun d h => nomatch h).mono (by decide) (by decide), rfl, .inr ⟨(fun x h => by cases h), "list", fun S => rfl, by decide, by decide⟩⟩
theorem itm_tup0 : Itm (.tup []) := ⟨(Rp.tup (n := 0) (w := 0) (ds := []) fun d h => nomatch h).mono (by decide) (by decide), rfl, .inr ⟨(fun x h => by cases h), "tuple", fun S => rfl, by decide, by decide⟩⟩
theorem itm_dic0 : Itm (.dic [] []) := ⟨(Rp.dic (n := 0) (w := 0) (v := 0) (ks := []) (ds := []) rfl (fun d h => nomatch h) fun d h => nomatch h).mono (by decide) (by decide), rfl, .inr ⟨(fun x h => by cases h), "dict", fun S => rfl, by decide, by decide⟩⟩
theorem itm_lst1 {x : Str} (h : isLet x) : Itm (.lst [.str x]) := ⟨(Rp.lst (n := 0) (w := 82) (ds := [.str x]) fun d hd => by
  cases List.mem_singleton.mp hd
  exact rp_let h).mono (by decide) (by simp), rfl, .inr ⟨(fun x h => by cases h), "list", fun S => rfl, by decide, by decide⟩⟩
theorem itm_tup1 {x : Str} (h : isLet x) : Itm (.tup [.str x]) := ⟨(Rp.tup (n := 0) (w := 82) (ds := [.str x]) fun d hd => by
  cases List.mem_singleton.mp hd
  exact rp_let h).mono (by decide) (by simp), rfl, .inr ⟨(fun x h => by cases h), "tuple", fun S => rfl, by decide, by decide⟩⟩
def odd1 : List D := [.str "", .str "A", .str "a1", .str "a b", .str "abcdefghi", .str " a", .str "a ", .str "a\n", .str "a-", .int 0, .int 1, .int (-1), .int (10 ^ 30), .bl true, .bl false, .non]
def odd2 (g : Str) : List D := [.lst [], .lst [.str g], .tup [.str g], .tup [], .dic [] [], .str (g ++ " "), .str (Txt.upper g), .str (cutS (g ++ "abcdefgh") none (some 9)), .str (" " ++ g)]
theorem sh_lits : ∀ x ∈ (["", "A", "a1", "a b", "abcdefghi", " a", "a ", "a\n", "a-", " ", "abcdefgh"] : List Str), x.length ≤ 9 ∧ ∀ c ∈ x.cps.toList, c < 16 ^ 8 := by decide +kernel
theorem sh_lit {x : Str} (h : x ∈ (["", "A", "a1", "a b", "abcdefghi", " a", "a ", "a\n", "a-", " ", "abcdefgh"] : List Str)) : Sh x := ⟨by have := (sh_lits x h).1; omega, (sh_lits x h).2⟩
theorem odd_itm {g : Str} (h : isLet g) : ∀ d ∈ odd1 ++ odd2 g, Itm d := by
  intro d hd
  have sp : Sh " " := sh_lit (by simp)
  have l1 : (" " : Str).length ≤ 9 := (sh_lits _ (by simp)).1
  have l8 : ("abcdefgh" : Str).length ≤ 9 := (sh_lits _ (by simp)).1
  have lg := h.1
  simp only [odd1, odd2, List.mem_append, List.mem_cons, List.not_mem_nil, or_false] at hd
  rcases hd with (rfl | rfl | rfl | rfl | rfl | rfl | rfl | rfl | rfl | rfl | rfl | rfl | rfl | rfl | rfl | rfl) | (rfl | rfl | rfl | rfl | rfl | rfl | rfl | rfl | rfl)
  · exact (sh_lit (by simp)).itm
  · exact (sh_lit (by simp)).itm
  · exact (sh_lit (by simp)).itm
  · exact (sh_lit (by simp)).itm
  · exact (sh_lit (by simp)).itm
  · exact (sh_lit (by simp)).itm
  · exact (sh_lit (by simp)).itm
  · exact (sh_lit (by simp)).itm
  · exact (sh_lit (by simp)).itm
  · exact itm_int (by decide) (by decide)
  · exact itm_int (by decide) (by decide)
  · exact itm_int (by decide) (by decide)
  · exact itm_int (by decide) (by decide)
  · exact itm_bl _
  · exact itm_bl _
  · exact itm_non
  · exact itm_lst0
  · exact itm_lst1 h
  · exact itm_tup1 h
  · exact itm_tup0
  · exact itm_dic0
  · exact ((Sh.let_ h).app sp (by omega)).itm
  · exact (Sh.upper h).itm
  · exact (((Sh.let_ h).app (sh_lit (x := "abcdefgh") (by simp)) (by omega)).cut _ _).itm
  · exact (sp.app (Sh.let_ h) (by omega)).itm
theorem odd_ok {n : Nat} {a b : Int} {g : Str} {S : Sto} (hS : S[n]? = some (.lst [.int a, .int b])) (h : isLet g) : ∃ d a' b', f_law_odd [.loc n, .str g] S = .ok d (S.set n (.lst [.int a', .int b'])) ∧ Itm d ∧ d ∈ odd1 ++ odd2 g := by
  obtain ⟨d, a', b', e, hd⟩ := of_ok n a b (odd1 ++ odd2 g) S hS (by simp [odd1]) (by simp [odd1, odd2])
  refine ⟨d, a', b', ?_, odd_itm h d hd, hd⟩
  refine (mdef_ret finD rfl (d := d) (S1 := S.set n (.lst [.int a', .int b'])) ?_).trans (finD_eq (by rw [List.length_set]))
  show m_law_odd [some (.loc n), some (.str g), none] S = _
  unfold m_law_odd
  have lg := h.1
  have l1 : (" " : Str).length ≤ 9 := (sh_lits _ (by simp)).1
  have l8 : ("abcdefgh" : Str).length ≤ 9 := (sh_lits _ (by simp)).1
  have e1 : ∀ δ : Sl, mCall fLst (mCons (mC (.str "")) (mCons (mC (.str "A")) (mCons (mC (.str "a1")) (mCons (mC (.str "a b")) (mCons (mC (.str "abcdefghi")) (mCons (mC (.str " a")) (mCons (mC (.str "a ")) (mCons (mC (.str "a\n")) (mCons (mC (.str "a-")) (mCons (mC (.int 0)) (mCons (mC (.int 1)) (mCons (mUn fNeg (mC (.int 1))) (mCons (mBin fPow (mC (.int 10)) (mC (.int 30))) (mCons (mC (.bl true)) (mCons (mC (.bl false)) (mCons (mC .non) (mNil))))))))))))))))) δ S = .ok (.lst odd1) S := fun δ => rfl
  refine (seq_nx (set_ok (e1 _))).trans ?_
  have ga : ∀ (y : Str), y.length ≤ 9 → ∀ s2, mBin fAdd (mVar 1) (mC (.str y)) [some (.loc n), some (.str g), s2] S = .ok (.str (g ++ y)) S := fun y hy s2 => by
    rw [bin_ok (var_ok rfl) c_ok]
    exact if_pos (by omega)
  have ag : ∀ s2, mBin fAdd (mC (.str " ")) (mVar 1) [some (.loc n), some (.str g), s2] S = .ok (.str (" " ++ g)) S := fun s2 => by
    rw [bin_ok c_ok (var_ok rfl)]
    exact if_pos (by omega)
  have up : ∀ s2, mUn fUpper (mVar 1) [some (.loc n), some (.str g), s2] S = .ok (.str (Txt.upper g)) S := fun s2 => by
    rw [un_ok (var_ok rfl)]
    exact if_pos (by omega)
  have ct : ∀ s2, mSliceS (mBin fAdd (mVar 1) (mC (.str "abcdefgh"))) none (some (mC (.int 9))) [some (.loc n), some (.str g), s2] S = .ok (.str (cutS (g ++ "abcdefgh") none (some 9))) S := fun s2 => by
    unfold mSliceS mPart
    rw [ga "abcdefgh" l8]
    simp only [R.bind_ok, c_ok]
    exact if_pos (by rw [len_app]; omega)
  have e2 : ∀ s2, mCall fLst (mCons (mCall fLst (mNil)) (mCons (mCall fLst (mCons (mVar 1) (mNil))) (mCons (mCall fTup (mCons (mVar 1) (mNil))) (mCons (mCall fTup (mNil)) (mCons (mC (.dic [] [])) (mCons (mBin fAdd (mVar 1) (mC (.str " "))) (mCons (mUn fUpper (mVar 1)) (mCons (mSliceS (mBin fAdd (mVar 1) (mC (.str "abcdefgh"))) none (some (mC (.int 9)))) (mCons (mBin fAdd (mC (.str " ")) (mVar 1)) (mNil)))))))))) [some (.loc n), some (.str g), s2] S = .ok (.lst (odd2 g)) S := fun s2 =>
    (call_ok (cons_ok ((call_ok nil_ok).trans rfl) (cons_ok ((call_ok (cons_ok (var_ok rfl) nil_ok)).trans rfl) (cons_ok ((call_ok (cons_ok (var_ok rfl) nil_ok)).trans rfl) (cons_ok ((call_ok nil_ok).trans rfl) (cons_ok c_ok (cons_ok (ga " " l1 s2) (cons_ok (up s2) (cons_ok (ct s2) (cons_ok (ag s2) nil_ok)))))))))).trans rfl
  refine (seq_nx (set_ok ((bin_ok (var_ok rfl) (e2 _)).trans (show fAdd (.lst odd1) (.lst (odd2 g)) S = .ok (.lst (odd1 ++ odd2 g)) S from rfl)))).trans ?_
  exact ret_ok ((call2 (var_ok rfl) (var_ok rfl)).trans e)
end K07

end
section
namespace K07
open PySem PySem.Spec L2 DL
/-! some things, one of them replaced -/
theorem of_v {n i : Nat} {xs : List D} {S : Sto} {δ : Sl} {ma : ME} (h : Bag n S) (h0 : 0 < xs.length) (h1 : xs.length ≤ 1000) (hi : δ[i]? = some (some (.loc n))) (e : ma δ S = .ok (.lst xs) S) : ∃ (d : D) (S' : Sto), mCall (cut 2 f_law_of []) (mCons (mVar i) (mCons ma (mNil))) δ S = .ok d S' ∧ EqL n S S' ∧ d ∈ xs := by
  obtain ⟨d, S', e1, q, hd⟩ := of_e (n := n) (xs := xs) (S := S) h h0 h1
  exact ⟨d, S', (call2 (var_ok hi) e).trans e1, q, hd⟩
theorem take_v {n i : Nat} {many : Int} {S : Sto} {δ : Sl} {ma : ME} (h : Bag n S) (h0 : 0 < many) (h1 : many < 2 ^ 200) (hi : δ[i]? = some (some (.loc n))) (e : ma δ S = .ok (.int many) S) : ∃ (k : Nat) (S' : Sto), mCall (cut 2 f_law_take []) (mCons (mVar i) (mCons ma (mNil))) δ S = .ok (.int k) S' ∧ EqL n S S' ∧ (k : Int) < many := by
  obtain ⟨k, S', e1, q, hd⟩ := take_e (n := n) (many := many) (S := S) h h0 h1
  exact ⟨k, S', (call2 (var_ok hi) e).trans e1, q, hd⟩
theorem allE_iff {S : Sto} : S.all O.noE = true ↔ ∀ (m : Nat) (o : O), S[m]? = some o → o.noE = true := by
  rw [List.all_eq_true]
  constructor
  · exact fun h m o e => h o (List.mem_of_getElem? e)
  · intro h o ho
    obtain ⟨m, hm⟩ := List.getElem?_of_mem ho
    exact h m o hm
theorem bag_noE {n : Nat} {S : Sto} (h : Bag n S) {o : O} (e : S[n]? = some o) : o.noE = true := by
  obtain ⟨a, b, h⟩ := h
  rw [h] at e
  cases e
  rfl
theorem allE_eql {n : Nat} {S S' : Sto} (q : EqL n S S') (h : S.all O.noE = true) : S'.all O.noE = true := allE_iff.mpr fun m o e => by
  by_cases c : m = n
  · subst c
    exact bag_noE q.bag e
  · have hl : m < S'.length := (List.getElem?_eq_some_iff.mp e).1
    have hl2 : m < S.length := by rw [← q.eq]; exact hl
    rw [q.same m hl2 c] at e
    exact allE_iff.mp h m o e
theorem allE_ext {n : Nat} {S S' : Sto} (q : Ext n S S') (h : S.all O.noE = true) (hl : S'.length = S.length + 1) {o' : O} (ho : S'[S.length]? = some o') (he : o'.noE = true) : S'.all O.noE = true := allE_iff.mpr fun m o e => by
  by_cases c : m = n
  · subst c
    exact bag_noE q.bag e
  · have hm : m < S'.length := (List.getElem?_eq_some_iff.mp e).1
    by_cases c2 : m = S.length
    · subst c2
      rw [ho] at e
      cases e
      exact he
    · rw [q.same m (by omega) c] at e
      exact allE_iff.mp h m o e
theorem allE_set {S : Sto} {m : Nat} {o : O} (h : S.all O.noE = true) (he : o.noE = true) : (S.set m o).all O.noE = true := by
  rw [List.all_eq_true]
  intro x hx
  rcases List.mem_or_eq_of_mem_set hx with hx | rfl
  · exact List.all_eq_true.mp h x hx
  · exact he
theorem app_run {S S1 : Sto} {δ : Sl} {i m : Nat} {xs : List D} {d : D} {e : ME} (h : δ[i]? = some (some (.loc m))) (hm : S[m]? = some (.lst xs)) (he : e δ S = .ok d S1) (hc : S1[m]? = some (.lst xs)) (hd : d.clean = true) (hl : xs.length < 16777216) : sDrop (mMeth1 isSq fApp (mVar i) e) δ S = .nx δ (S1.set m (.lst (xs ++ [d]))) := by
  refine drop_ok (d := .non) ?_
  unfold mMeth1
  rw [var_ok h, R.bind_ok]
  have : isSq (.loc m) S = true := by simp [isSq, D.seq, hm]
  rw [if_pos this, he, R.bind_ok]
  simp only [fApp, hc]
  rw [if_pos ⟨hl, hd⟩]
theorem chain {a b : MS} {δ δ1 : Sl} {S S1 : Sto} {P : Sl → Sto → Prop} (h : a δ S = .nx δ1 S1) (k : ∃ δ' S', b δ1 S1 = .nx δ' S' ∧ P δ' S') : ∃ δ' S', sSeq a b δ S = .nx δ' S' ∧ P δ' S' := by
  obtain ⟨δ', S', e, p⟩ := k
  exact ⟨δ', S', (seq_nx h).trans e, p⟩
theorem sub_ok {mv mo mi : ME} {δ : Sl} {A A1 : Sto} {v : D} {m k : Nat} {xs : List D} (h1 : mv δ A = .ok v A1) (h2 : mo δ A1 = .ok (.loc m) A1) (h3 : mi δ A1 = .ok (.int (k : Int)) A1) (hm : A1[m]? = some (.lst xs)) (hk : k < xs.length) (hc : v.clean = true) :
    sSub mv mo mi δ A = .nx δ (A1.set m (.lst (xs.set k v))) := by
  have e : ixN xs.length (k : Int) = some k := by
    unfold ixN
    rw [if_pos (by omega), if_pos (by omega)]
    rfl
  unfold sSub
  rw [h1]
  simp only [R.flow_ok, h2, h3, hm, e, hc, if_true]

theorem mif_t2 {t : MT} {a b : ME} {δ : Sl} {S S1 : Sto} (h : t δ S = .ok true S1) : mIf t a b δ S = a δ S1 := by
  unfold mIf
  rw [h]
  rfl
theorem mif_f2 {t : MT} {a b : ME} {δ : Sl} {S S1 : Sto} (h : t δ S = .ok false S1) : mIf t a b δ S = b δ S1 := by
  unfold mIf
  rw [h]
  rfl
theorem spoil_e {n : Nat} {xs : List D} {odd : D} {S : Sto} (h : Bag n S) (hz : xs.length ≤ 100) (hx : D.cleanL xs = true) (ho : odd.clean = true) : ∃ (ys : List D) (S' : Sto), f_law_spoil [.loc n, .lst xs, odd] S = .ok (.lst ys) S' ∧ EqL n S S' ∧ ys.length = xs.length ∧ ∀ y ∈ ys, y ∈ xs ∨ y = odd := by
  cases hxs : xs with
  | nil =>
    refine ⟨[], S, ?_, h.refl, rfl, fun y hy => nomatch hy⟩
    refine (mdef_ret (m := m_law_spoil) (δ0 := [some (.loc n), some (.lst []), some odd, none, none]) (d := .lst []) (S1 := S) finD rfl ?_).trans (finD_eq rfl)
    unfold m_law_spoil
    exact seq_ret ((if_t (test_ok ((bin_ok (var_ok rfl) ((call_ok nil_ok).trans rfl)).trans rfl))).trans (ret_ok (var_ok rfl)))
  | cons x0 r =>
    rw [← hxs]
    have hne : 0 < xs.length := by rw [hxs]; simp
    have hlt := h.lt
    have elen : ∀ (T : Sto) (s3 s4 : Option D), mCall fLenS (mCons (mVar 1) (mNil)) [some (.loc n), some (.lst xs), some odd, s3, s4] T = .ok (.int xs.length) T := fun T s3 s4 => Sq.len (L := .lst xs) (.inl rfl) (var_ok rfl)
    obtain ⟨k, S1, e1, q1, k1⟩ := take_e (n := n) (many := (xs.length : Int)) (S := S) h (by omega) (Int.lt_of_le_of_lt (show (xs.length : Int) ≤ 100 by omega) (by decide))
    have c1 : (S1 ++ [O.lst xs])[S.length]? = some (.lst xs) := by rw [← q1.eq]; simp
    have x1 := q1.toExt.app [O.lst xs]
    obtain ⟨b, S2, e2, q2, _⟩ := take_e (n := n) (many := 2) (S := S1 ++ [.lst xs]) x1.bag (by decide) (by decide)
    have c2 := q2.at c1 (by omega)
    have x2 := x1.trans q2.toExt
    -- what is put there
    obtain ⟨v, S3, e3, q3, hv⟩ : ∃ (v : D) (S3 : Sto), mIf (mTest (mBin fEq (mCall (cut 2 f_law_take []) (mCons (mVar 0) (mCons (mC (.int 2)) (mNil)))) (mC (.int 0)))) (mVar 2) (mBin fIx (mVar 1) (mCall (cut 2 f_law_take []) (mCons (mVar 0) (mCons (mCall fLenS (mCons (mVar 1) (mNil))) (mNil))))) [some (.loc n), some (.lst xs), some odd, some (.int (k : Int)), some (.loc S.length)] (S1 ++ [.lst xs]) = .ok v S3 ∧ EqL n S2 S3 ∧ (v ∈ xs ∨ v = odd) := by
      have t : mTest (mBin fEq (mCall (cut 2 f_law_take []) (mCons (mVar 0) (mCons (mC (.int 2)) (mNil)))) (mC (.int 0))) [some (.loc n), some (.lst xs), some odd, some (.int (k : Int)), some (.loc S.length)] (S1 ++ [.lst xs]) = .ok (decide ((b : Int) = 0)) S2 := test_ok ((bin_ok ((call2 (var_ok rfl) c_ok).trans e2) c_ok).trans rfl)
      by_cases c : (b : Int) = 0
      · rw [decide_eq_true c] at t
        refine ⟨odd, S2, ?_, q2.bag.refl, .inr rfl⟩
        exact (mif_t2 t).trans (var_ok rfl)
      · rw [decide_eq_false c] at t
        obtain ⟨i, S3, e4, q4, k4⟩ := take_e (n := n) (many := (xs.length : Int)) (S := S2) q2.bag (by omega) (Int.lt_of_le_of_lt (show (xs.length : Int) ≤ 100 by omega) (by decide))
        have hi : i < xs.length := by omega
        refine ⟨xs[i], S3, ?_, q4, .inl (List.getElem_mem hi)⟩
        refine (mif_f2 t).trans ?_
        rw [bin_ok (var_ok rfl) ((call2 (var_ok rfl) (elen S2 _ _)).trans e4)]
        simp [fIx, D.sq, D.seq, atI_nat hi]
    have c3 := q3.at c2 (by omega)
    have x3 := x2.trans q3.toExt
    have hk : k < xs.length := by omega
    have hvc : v.clean = true := by
      rcases hv with hv | rfl
      · exact cleanL_iff.mp hx v hv
      · exact ho
    have l3 : S.length < S3.length := (List.getElem?_eq_some_iff.mp c3).1
    have x4 := x3.set (m := S.length) (o := .lst (xs.set k v)) (Nat.le_refl _)
    refine ⟨xs.set k v, (S3.set S.length (.lst (xs.set k v))).take S.length, ?_, x4.take, by simp, fun y hy => ?_⟩
    · refine (mdef_ret (m := m_law_spoil) (δ0 := [some (.loc n), some (.lst xs), some odd, none, none]) (d := .loc S.length) (S1 := S3.set S.length (.lst (xs.set k v))) finD rfl ?_).trans (fin_lst x4 (Nat.le_refl _) (by rw [List.getElem?_set_self l3]))
      unfold m_law_spoil
      have t0 : mTest (mBin (fNeE false) (mVar 1) (mCall fLst (mNil))) [some (.loc n), some (.lst xs), some odd, none, none] S = .ok false S := test_ok ((bin_ok (var_ok rfl) ((call_ok nil_ok).trans rfl)).trans (by rw [hxs]; rfl))
      refine (seq_nx (if_pass t0)).trans ?_
      have el : mCall fListC (mCons (mVar 1) (mNil)) [some (.loc n), some (.lst xs), some odd, none, none] S1 = .ok (.loc S.length) (S1 ++ [.lst xs]) := by
        rw [call_ok (cons_ok (var_ok rfl) nil_ok)]
        simp [fListC, D.sq, D.seq, hx, q1.eq]
      refine (seq_nx (par_ok (cons_ok ((call2 (var_ok rfl) (elen S _ _)).trans e1) (cons_ok el nil_ok)))).trans ?_
      have es := sub_ok (δ := [some (.loc n), some (.lst xs), some odd, some (.int (k : Int)), some (.loc S.length)]) (mo := mVar 4) (mi := mVar 3) (xs := xs) (k := k) (m := S.length) e3 (var_ok rfl) (var_ok rfl) c3 hk hvc
      exact (seq_nx es).trans (ret_ok (var_ok rfl))
    · rcases List.mem_or_eq_of_mem_set hy with hy | rfl
      · exact .inl hy
      · exact hv
end K07

end
section
namespace K07
open PySem PySem.Spec L2 DL
/-! the notes that are drawn -/
theorem note_mk {L M : D} {ds es : List D} {a b : Bool} (hL : Sq L ds) (hM : Sq M es) (hi : ∀ d ∈ ds, Itm d) (hj : ∀ d ∈ es, Itm d) (hz : ds.length ≤ 8) (hw : es.length ≤ 8) (e1 : errN 4 ds = none) (e2 : errN 4 es = none) (S : Sto) :
    fMk 100 5 fNote___init__ [L, M, .bl a, .bl b] S = .ok (.ins 100 [.tup ((sortS (ds.map strOf)).map D.str), .tup ((sortS (es.map strOf)).map D.str), .bl a, .bl b]) S := by
  have h1 := names_eq (mo := 4) hL hi hz (S ++ [.ins 100 []])
  rw [e1] at h1
  have h2 := names_eq (mo := 4) hM hj hw (S ++ [.ins 100 [.tup ((sortS (ds.map strOf)).map D.str)]])
  rw [e2] at h2
  have e0 : mNote___init__ [some (.loc S.length), some L, some M, some (.bl a), some (.bl b)] (S ++ [.ins 100 []]) = .nx [some (.loc S.length), some L, some M, some (.bl a), some (.bl b)] (S ++ [.ins 100 [.tup ((sortS (ds.map strOf)).map D.str), .tup ((sortS (es.map strOf)).map D.str), .bl a, .bl b]]) := by
    unfold mNote___init__
    refine (seq_nx (attr_step (k := 100) (ds := []) (v := .tup ((sortS (ds.map strOf)).map D.str)) ((call2 (var_ok rfl) c_ok).trans h1) (var_ok rfl) (by decide) (by rw [D.clean]; exact strs_clean _) (by simp) (by decide +kernel))).trans ?_
    refine (seq_nx (attr_step (k := 100) (ds := [.tup ((sortS (ds.map strOf)).map D.str)]) (v := .tup ((sortS (es.map strOf)).map D.str)) ((call2 (var_ok rfl) c_ok).trans h2) (var_ok rfl) (by decide) (by rw [D.clean]; exact strs_clean _) (by simp) (by show List.idxOf? _ _ = some 1; decide +kernel))).trans ?_
    refine (seq_nx (attr_step (k := 100) (ds := [.tup ((sortS (ds.map strOf)).map D.str), .tup ((sortS (es.map strOf)).map D.str)]) (v := .bl a) (var_ok rfl) (var_ok rfl) (by decide) rfl (by simp) (by show List.idxOf? _ _ = some 2; decide +kernel))).trans ?_
    exact attr_step (k := 100) (ds := [.tup ((sortS (ds.map strOf)).map D.str), .tup ((sortS (es.map strOf)).map D.str), .bl a]) (v := .bl b) (var_ok rfl) (var_ok rfl) (by decide) rfl (by simp) (by show List.idxOf? _ _ = some 3; decide +kernel)
  simp [fMk, fNote___init__, mDef, e0, finD]
theorem price_let : isLet "price" := ⟨by decide +kernel, by decide +kernel, by decide +kernel⟩
theorem note1_mk (S : Sto) : fMk 100 5 fNote___init__ [.tup [], .tup [], .bl true, .bl false] S = .ok note1 S :=
  note_mk (ds := []) (es := []) (.inr rfl) (.inr rfl) (fun d h => nomatch h) (fun d h => nomatch h) (by simp) (by simp) rfl rfl S
theorem note2_mk (S : Sto) : fMk 100 5 fNote___init__ [.lst [.str "price"], .tup [], .bl true, .bl true] S = .ok note2 S := by
  have e : errN 4 [.str "price"] = none := by decide +kernel
  have := note_mk (L := .lst [.str "price"]) (M := .tup []) (a := true) (b := true) (ds := [.str "price"]) (es := []) (.inl rfl) (.inr rfl) (fun d h => by cases List.mem_singleton.mp h; exact Itm.let_ price_let) (fun d h => nomatch h) (by simp) (by simp) e rfl S
  rw [this]
  rfl
end K07

end
section
namespace K07
open PySem PySem.Spec L2 DL
/-! odd things as moves -/
theorem mv_itm {d : D} (h : Itm d) (ht : ∀ xs, d = .tup xs → xs.length ≤ 100 ∧ ∀ x ∈ xs, Itm x) : MvI d := by
  refine ⟨?_, h.rp.mono (by decide) (by decide), h.ne⟩
  have hs : Shp d := h.sh
  refine Shp.cases (P := fun d => (∀ xs, d = .tup xs → xs.length ≤ 100 ∧ ∀ x ∈ xs, Itm x) → ((∃ xs, d = .tup xs ∧ xs.length ≤ 100 ∧ ∀ x ∈ xs, Itm x) ∨ ((∀ xs, d ≠ .tup xs) ∧ ∃ n, (∀ S, tyD d S = some (.b n)) ∧ basic.contains n = true ∧ isT n "tuple" = false))) hs ?_ ?_ ?_ ?_ ?_ ?_ ?_ ht
  · exact fun _ => .inr ⟨(fun _ e => nomatch e), "NoneType", fun S => rfl, by decide, by decide⟩
  · exact fun b _ => .inr ⟨(fun _ e => nomatch e), "bool", fun S => rfl, by decide, by decide⟩
  · exact fun i _ => .inr ⟨(fun _ e => nomatch e), "int", fun S => rfl, by decide, by decide⟩
  · exact fun x _ _ => .inr ⟨(fun _ e => nomatch e), "str", fun S => rfl, by decide, by decide⟩
  · exact fun xs _ => .inr ⟨(fun _ e => nomatch e), "list", fun S => rfl, by decide, by decide⟩
  · exact fun xs h => .inl ⟨xs, rfl, h xs rfl⟩
  · exact fun ks vs _ => .inr ⟨(fun _ e => nomatch e), "dict", fun S => rfl, by decide, by decide⟩
theorem mv_tup {xs : List D} (hz : xs.length ≤ 3) (hx : ∀ x ∈ xs, Itm x) : MvI (.tup xs) := by
  refine ⟨.inl ⟨xs, rfl, by omega, hx⟩, (Rp.tup (n := 1) (w := 600) fun x h => (hx x h).rp).mono (by decide) ?_, ?_⟩
  · have : xs.length * (600 + 2) ≤ 3 * 602 := Nat.mul_le_mul_right _ hz
    omega
  · rw [D.noE]
    have : ∀ (l : List D), (∀ x ∈ l, Itm x) → D.noEL l = true := fun l => by
      induction l with
      | nil => exact fun _ => rfl
      | cons a r ih =>
        intro h
        rw [D.noEL, (h a List.mem_cons_self).ne, ih fun x hx => h x (List.mem_cons_of_mem _ hx)]
        rfl
    exact this xs hx
theorem odd_mv {g : Str} (hg : isLet g) {d : D} (hd : d ∈ odd1 ++ odd2 g) : MvI d := by
  refine mv_itm (odd_itm hg d hd) fun xs e => ?_
  subst e
  simp only [odd1, odd2, List.mem_append, List.mem_cons, List.not_mem_nil, or_false, D.tup.injEq, reduceCtorEq, false_or] at hd
  rcases hd with rfl | rfl
  · refine ⟨by simp, fun x hx => ?_⟩
    rw [List.mem_singleton.mp hx]
    exact Itm.let_ hg
  · exact ⟨by simp, fun x hx => nomatch hx⟩
theorem odd_e {n : Nat} {g : Str} {S : Sto} (h : Bag n S) (hg : isLet g) : ∃ (d : D) (S' : Sto), f_law_odd [.loc n, .str g] S = .ok d S' ∧ EqL n S S' ∧ Itm d ∧ MvI d := by
  obtain ⟨a, b, e⟩ := h
  obtain ⟨d, a', b', e1, hi, hd⟩ := odd_ok e hg
  exact ⟨d, _, e1, set_eqL (List.getElem?_eq_some_iff.mp e).1, hi, odd_mv hg hd⟩
end K07

end
section
namespace K07
open PySem PySem.Spec L2 DL
/-! what is drawn -/
def dr0 : MS := (sAsg (mCall fTup (mCons (mCall (cut 3 f_law_names []) (mCons (mVar 0) (mCons (mC (.int 6)) (mCons (mCall fLst (mNil)) (mNil))))) (mCons (mBin fIx (mCall (cut 3 f_law_names []) (mCons (mVar 0) (mCons (mC (.int 1)) (mCons (mCall fLst (mNil)) (mNil))))) (mC (.int 0))) (mNil)))) (gT [gN 1, gN 2]))
def dr1 : MS := (sSet 3 (mLc (mSeqI (mSlice (mVar 1) none (some (mCall (cut 2 f_law_take []) (mCons (mVar 0) (mCons (mC (.int 7)) (mNil))))))) (gN 4) [4] (tOk) (mCall fTup (mCons (mVar 4) (mCons (mCall (cut 2 f_law_of []) (mCons (mVar 0) (mCons (mVar 1) (mNil)))) (mNil)))) finL))
def dr2 : MS := (sPar 5 6 (mCons (mCall (cut 3 f_law_names []) (mCons (mVar 0) (mCons (mCall (cut 2 f_law_take []) (mCons (mVar 0) (mCons (mC (.int 5)) (mNil)))) (mCons (mCall fLst (mNil)) (mNil))))) (mCons (mSlice (mVar 1) none (some (mCall (cut 2 f_law_take []) (mCons (mVar 0) (mCons (mC (.int 7)) (mNil)))))) (mNil))))
def dr3 : MS := (sSet 7 (mCall (cut 2 f_law_of []) (mCons (mVar 0) (mCons (mCall fLst (mCons (mC .non) (mCons (mMkK 100 5 0 0 [.inr 0, .inr 1, .inr 2, .inr 3] [.tup [], .tup [], .bl true, .bl false] fNote___init__ mNil (mNil)) (mCons (mMkK 100 5 0 2 [.inl 0, .inr 0, .inr 1, .inl 1] [.tup [], .bl true] fNote___init__ mNil (mCons (mCall fLst (mCons (mC (.str "price")) (mNil))) (mCons (mC (.bl true)) (mNil)))) (mNil))))) (mNil)))))
def tu0 : MS := (sSet 9 (mCall (cut 2 f_law_take []) (mCons (mVar 0) (mCons (mC (.int 5)) (mNil)))))
def tu1 : MS := (sSet 10 (mCall (cut 2 f_law_odd []) (mCons (mVar 0) (mCons (mBin fIx (mVar 1) (mC (.int 0))) (mNil)))))
def tu2 : MS := (sIf (mTest (mBin fEq (mVar 9) (mC (.int 0)))) (sSet 2 (mVar 10)) (sNx))
def tu3 : MS := (sIf (mTest (mBin fEq (mVar 9) (mC (.int 1)))) (sSeq (sSet 11 (mCall fLst (mCons (mVar 10) (mCons (mCall fTup (mCons (mBin fIx (mVar 1) (mC (.int 0))) (mCons (mVar 10) (mNil)))) (mCons (mCall fTup (mCons (mVar 10) (mCons (mBin fIx (mVar 1) (mC (.int 1))) (mNil)))) (mCons (mCall fTup (mCons (mBin fIx (mVar 1) (mC (.int 0))) (mNil))) (mCons (mCall fTup (mCons (mC (.str "a")) (mCons (mC (.str "b")) (mCons (mC (.str "c")) (mNil))))) (mCons (mCall fLst (mCons (mC (.str "a")) (mCons (mC (.str "b")) (mNil)))) (mNil))))))))) (sSeq (sSet 11 (mCall (cut 2 f_law_of []) (mCons (mVar 0) (mCons (mVar 11) (mNil))))) (sSet 3 (mCall (cut 3 f_law_spoil []) (mCons (mVar 0) (mCons (mVar 3) (mCons (mIf (mNot (mTest (mCall (cut 1 f_law_is_move []) (mCons (mVar 11) (mNil))))) (mVar 11) (mC .non)) (mNil)))))))) (sNx))
def tu4 : MS := (sIf (mTest (mBin fEq (mVar 9) (mC (.int 2)))) (sSet 5 (mCall (cut 3 f_law_spoil []) (mCons (mVar 0) (mCons (mVar 5) (mCons (mVar 10) (mNil)))))) (sNx))
def tu5 : MS := (sIf (mTest (mBin fEq (mVar 9) (mC (.int 3)))) (sSet 6 (mCall (cut 3 f_law_spoil []) (mCons (mVar 0) (mCons (mVar 6) (mCons (mVar 10) (mNil)))))) (sNx))
def tu6 : MS := (sIf (mTest (mBin fEq (mVar 9) (mC (.int 4)))) (sSet 7 (mCall (cut 2 f_law_of []) (mCons (mVar 0) (mCons (mCall fLst (mCons (mC (.int 0)) (mCons (mC (.bl false)) (mCons (mC (.str "named")) (mCons (mCall fTup (mNil)) (mCons (mCall fLst (mCons (mC .non) (mNil))) (mCons (mC (.dic [] [])) (mNil)))))))) (mNil))))) (sNx))
def turnB : MS := sSeq tu0 (sSeq tu1 (sSeq tu2 (sSeq tu3 (sSeq tu4 (sSeq tu5 (tu6))))))
def dr4 : MS := sFor (mRgI (mCons (mCall (cut 2 f_law_take []) (mCons (mVar 0) (mCons (mC (.int 4)) (mNil)))) (mNil))) (gN 8) turnB
theorem drawn_def : m_law_drawn = sSeq dr0 (sSeq dr1 (sSeq dr2 (sSeq dr3 (sSeq dr4 (sRet (mCall fTup (mCons (mVar 2) (mCons (mVar 3) (mCons (mVar 5) (mCons (mVar 6) (mCons (mVar 7) (mNil)))))))))))) := rfl
abbrev drS (n : Nat) (ws : List Str) (nm : D) (ms : List D) (s4 : Option D) (cols ends : List D) (note : D) (s8 s9 s10 s11 : Option D) : Sl := [some (.loc n), some (.lst (ws.map D.str)), some nm, some (.lst ms), s4, some (.lst cols), some (.lst ends), some note, s8, s9, s10, s11]
structure Drw (nm : D) (ms cols ends : List D) (note : D) : Prop where
  n : Itm nm
  m : ∀ d ∈ ms, MvI d
  mz : ms.length ≤ 6
  c : ∀ d ∈ cols, Itm d
  cz : cols.length ≤ 4
  e : ∀ d ∈ ends, Itm d
  ez : ends.length ≤ 6
  o : note ∈ memos
theorem itms_clean {xs : List D} (h : ∀ d ∈ xs, Itm d) : D.cleanL xs = true := cleanL_iff.mpr fun d hd => (h d hd).rp.1
theorem mvis_clean {xs : List D} (h : ∀ d ∈ xs, MvI d) : D.cleanL xs = true := cleanL_iff.mpr fun d hd => (h d hd).rp.1
theorem way_n {r1 r2 r3 r4 r5 r6 r7 r8 r9 : Option D} {i j : Int} {r : Sl} {S : Sto} {k : Bool} (h : decide (i = j) = k) : mTest (mBin fEq (mVar 9) (mC (.int j))) (r1 :: r2 :: r3 :: r4 :: r5 :: r6 :: r7 :: r8 :: r9 :: some (.int i) :: r) S = .ok k S := test_ok ((bin_ok (x := .int i) (var_ok rfl) c_ok).trans (congrArg (fun k => R.ok (D.bl k) S) h))
theorem if_skip {t : MT} {a : MS} {δ : Sl} {S : Sto} (h : t δ S = .ok false S) : sIf t a sNx δ S = .nx δ S := if_pass h
end K07

end
section
namespace K07
open PySem PySem.Spec L2 DL
/-! a turn of what is drawn -/
def bad6 : List D := [.int 0, .bl false, .str "named", .tup [], .lst [.non], .dic [] []]
def wrongs (x y : Str) (odd : D) : List D := [odd, .tup [.str x, odd], .tup [odd, .str y], .tup [.str x], .tup [.str "a", .str "b", .str "c"], .lst [.str "a", .str "b"]]
theorem abc_let : isLet "a" ∧ isLet "b" ∧ isLet "c" := by decide +kernel
theorem mv_non : MvI .non := mv_itm itm_non fun _ e => nomatch e
theorem mv_ab : MvI (.lst [.str "a", .str "b"]) := by
  refine ⟨.inr ⟨(fun _ e => nomatch e), "list", fun S => rfl, by decide, by decide⟩, (Rp.lst (n := 0) (w := 82) (ds := [.str "a", .str "b"]) fun x h => ?_).mono (by decide) (by simp), rfl⟩
  simp only [List.mem_cons, List.not_mem_nil, or_false] at h
  rcases h with rfl | rfl
  · exact rp_let abc_let.1
  · exact rp_let abc_let.2.1
theorem wrong_mv {x y : Str} {odd d : D} (hx : isLet x) (hy : isLet y) (ho : Itm odd) (hm : MvI odd) (hd : d ∈ wrongs x y odd) : MvI d := by
  simp only [wrongs, List.mem_cons, List.not_mem_nil, or_false] at hd
  rcases hd with rfl | rfl | rfl | rfl | rfl | rfl
  · exact hm
  · exact mv_tup (by simp) fun z hz => by
      simp only [List.mem_cons, List.not_mem_nil, or_false] at hz
      rcases hz with rfl | rfl
      · exact Itm.let_ hx
      · exact ho
  · exact mv_tup (by simp) fun z hz => by
      simp only [List.mem_cons, List.not_mem_nil, or_false] at hz
      rcases hz with rfl | rfl
      · exact ho
      · exact Itm.let_ hy
  · exact mv_tup (by simp) fun z hz => by
      cases List.mem_singleton.mp hz
      exact Itm.let_ hx
  · exact mv_tup (by simp) fun z hz => by
      simp only [List.mem_cons, List.not_mem_nil, or_false] at hz
      rcases hz with rfl | rfl | rfl
      · exact Itm.let_ abc_let.1
      · exact Itm.let_ abc_let.2.1
      · exact Itm.let_ abc_let.2.2
  · exact mv_ab
theorem bad6_memo {d : D} (h : d ∈ bad6) : d ∈ memos := by
  simp only [bad6, List.mem_cons, List.not_mem_nil, or_false] at h
  simp only [memos, List.mem_cons, List.not_mem_nil, or_false]
  rcases h with rfl | rfl | rfl | rfl | rfl | rfl <;> simp
end K07

end
section
namespace K07
open PySem PySem.Spec L2 DL
/-! a turn -/
section
variable {n : Nat} {w0 w1 w2 w3 w4 w5 : Str} {nm note odd : D} {ms cols ends : List D} {s4 s8 s11 : Option D} {S : Sto}
theorem st_1 (h : Bag n S) (hw0 : isLet w0) (hw1 : isLet w1) (ho : Itm odd) (hm : MvI odd) (hD : Drw nm ms cols ends note) :
    ∃ (ys : List D) (z : D) (S' : Sto), tu3 (drS n [w0, w1, w2, w3, w4, w5] nm ms s4 cols ends note s8 (some (.int 1)) (some odd) s11) S = .nx (drS n [w0, w1, w2, w3, w4, w5] nm ys s4 cols ends note s8 (some (.int 1)) (some odd) (some z)) S' ∧ EqL n S S' ∧ (∀ d ∈ ys, MvI d) ∧ ys.length ≤ 6 := by
  have ew : mCall fLst (mCons (mVar 10) (mCons (mCall fTup (mCons (mBin fIx (mVar 1) (mC (.int 0))) (mCons (mVar 10) (mNil)))) (mCons (mCall fTup (mCons (mVar 10) (mCons (mBin fIx (mVar 1) (mC (.int 1))) (mNil)))) (mCons (mCall fTup (mCons (mBin fIx (mVar 1) (mC (.int 0))) (mNil))) (mCons (mCall fTup (mCons (mC (.str "a")) (mCons (mC (.str "b")) (mCons (mC (.str "c")) (mNil))))) (mCons (mCall fLst (mCons (mC (.str "a")) (mCons (mC (.str "b")) (mNil)))) (mNil))))))) (drS n [w0, w1, w2, w3, w4, w5] nm ms s4 cols ends note s8 (some (.int 1)) (some odd) s11) S = .ok (.lst (wrongs w0 w1 odd)) S := by
    have x0 : mBin fIx (mVar 1) (mC (.int 0)) (drS n [w0, w1, w2, w3, w4, w5] nm ms s4 cols ends note s8 (some (.int 1)) (some odd) s11) S = .ok (.str w0) S := (bin_ok (var_ok rfl) c_ok).trans rfl
    have x1 : mBin fIx (mVar 1) (mC (.int 1)) (drS n [w0, w1, w2, w3, w4, w5] nm ms s4 cols ends note s8 (some (.int 1)) (some odd) s11) S = .ok (.str w1) S := (bin_ok (var_ok rfl) c_ok).trans rfl
    exact (call_ok (cons_ok (var_ok rfl) (cons_ok ((call_ok (cons_ok x0 (cons_ok (var_ok rfl) nil_ok))).trans rfl) (cons_ok ((call_ok (cons_ok (var_ok rfl) (cons_ok x1 nil_ok))).trans rfl) (cons_ok ((call_ok (cons_ok x0 nil_ok)).trans rfl) (cons_ok ((call_ok (cons_ok c_ok (cons_ok c_ok (cons_ok c_ok nil_ok)))).trans rfl) (cons_ok ((call_ok (cons_ok c_ok (cons_ok c_ok nil_ok))).trans rfl) nil_ok))))))).trans rfl
  obtain ⟨z, S1, e1, q1, hz⟩ := of_v (n := n) (i := 0) (xs := wrongs w0 w1 odd) (S := S) (δ := drS n [w0, w1, w2, w3, w4, w5] nm ms s4 cols ends note s8 (some (.int 1)) (some odd) (some (.lst (wrongs w0 w1 odd)))) (ma := mVar 11) h (by simp [wrongs]) (by simp [wrongs]) rfl (var_ok rfl)
  have hzm := wrong_mv hw0 hw1 ho hm hz
  obtain ⟨v, hv, hvm⟩ : ∃ v : D, mIf (mNot (mTest (mCall (cut 1 f_law_is_move []) (mCons (mVar 11) (mNil))))) (mVar 11) (mC .non) (drS n [w0, w1, w2, w3, w4, w5] nm ms s4 cols ends note s8 (some (.int 1)) (some odd) (some z)) S1 = .ok v S1 ∧ MvI v := by
    have t : mNot (mTest (mCall (cut 1 f_law_is_move []) (mCons (mVar 11) (mNil)))) (drS n [w0, w1, w2, w3, w4, w5] nm ms s4 cols ends note s8 (some (.int 1)) (some odd) (some z)) S1 = .ok (!isMove z) S1 := not_t (test_ok (by rw [call1 (x := z) (var_ok rfl), is_move_eq hzm]))
    cases hb : isMove z with
    | true =>
      rw [hb] at t
      exact ⟨.non, (mif_f t).trans c_ok, mv_non⟩
    | false =>
      rw [hb] at t
      exact ⟨z, (mif_t t).trans (var_ok rfl), hzm⟩
  obtain ⟨ys, S2, e2, q2, l2, h2⟩ := spoil_e (n := n) (xs := ms) (odd := v) (S := S1) q1.bag (by have := hD.mz; omega) (mvis_clean hD.m) hvm.rp.1
  refine ⟨ys, z, S2, ?_, q1.trans q2, fun d hd => ?_, by rw [l2]; exact hD.mz⟩
  · unfold tu3
    refine (if_t (way_n (by decide))).trans ?_
    refine (seq_nx (set_ok ew)).trans ?_
    refine (seq_nx (set_ok e1)).trans ?_
    exact set_ok ((call3 (var_ok (d := .loc n) rfl) (var_ok (d := .lst ms) rfl) hv).trans e2)
  · rcases h2 d hd with hd | rfl
    · exact hD.m d hd
    · exact hvm
end
end K07

end
section
namespace K07
open PySem PySem.Spec L2 DL
/-! a turn, whole -/
section
variable {n : Nat} {w0 w1 w2 w3 w4 w5 : Str} {nm note : D} {ms cols ends : List D} {s4 s8 s9 s10 s11 : Option D} {S : Sto}
theorem turn_ok (h : Bag n S) (hw0 : isLet w0) (hw1 : isLet w1) (hD : Drw nm ms cols ends note) :
    ∃ (nm' : D) (ms' cols' ends' : List D) (note' : D) (a b c : Option D) (S' : Sto), turnB (drS n [w0, w1, w2, w3, w4, w5] nm ms s4 cols ends note s8 s9 s10 s11) S = .nx (drS n [w0, w1, w2, w3, w4, w5] nm' ms' s4 cols' ends' note' s8 a b c) S' ∧ EqL n S S' ∧ Drw nm' ms' cols' ends' note' := by
  obtain ⟨k, S1, e1, q1, k5⟩ := take_v (n := n) (i := 0) (many := 5) (S := S) (δ := drS n [w0, w1, w2, w3, w4, w5] nm ms s4 cols ends note s8 s9 s10 s11) (ma := mC (.int 5)) h (by decide) (by decide) rfl c_ok
  obtain ⟨d, S2, e2, q2, hi, hm⟩ := odd_e (n := n) (g := w0) (S := S1) q1.bag hw0
  have t0 : tu0 (drS n [w0, w1, w2, w3, w4, w5] nm ms s4 cols ends note s8 s9 s10 s11) S = .nx (drS n [w0, w1, w2, w3, w4, w5] nm ms s4 cols ends note s8 (some (.int (k : Int))) s10 s11) S1 := set_ok e1
  have t1 : tu1 (drS n [w0, w1, w2, w3, w4, w5] nm ms s4 cols ends note s8 (some (.int (k : Int))) s10 s11) S1 = .nx (drS n [w0, w1, w2, w3, w4, w5] nm ms s4 cols ends note s8 (some (.int (k : Int))) (some d) s11) S2 := set_ok ((call2 (var_ok (d := .loc n) rfl) ((bin_ok (var_ok rfl) c_ok).trans rfl)).trans e2)
  have q := q1.trans q2
  have hk : k = 0 ∨ k = 1 ∨ k = 2 ∨ k = 3 ∨ k = 4 := by omega
  unfold turnB
  rcases hk with rfl | rfl | rfl | rfl | rfl
  · refine ⟨d, ms, cols, ends, note, _, _, _, S2, (seq_nx t0).trans ((seq_nx t1).trans ((seq_nx (δ1 := drS n [w0, w1, w2, w3, w4, w5] d ms s4 cols ends note s8 (some (.int 0)) (some d) s11) (S1 := S2) ((if_t (way_n (by decide))).trans (set_ok (var_ok rfl)))).trans ((seq_nx (if_skip (way_n (by decide)))).trans ((seq_nx (if_skip (way_n (by decide)))).trans ((seq_nx (if_skip (way_n (by decide)))).trans (if_skip (way_n (by decide)))))))), q, ⟨hi, hD.m, hD.mz, hD.c, hD.cz, hD.e, hD.ez, hD.o⟩⟩
  · obtain ⟨ys, z, S3, e3, q3, h3, l3⟩ := st_1 (n := n) (w2 := w2) (w3 := w3) (w4 := w4) (w5 := w5) (s4 := s4) (s8 := s8) (s11 := s11) q2.bag hw0 hw1 hi hm hD
    exact ⟨nm, ys, cols, ends, note, _, _, _, S3, (seq_nx t0).trans ((seq_nx t1).trans ((seq_nx (if_skip (way_n (by decide)))).trans ((seq_nx e3).trans ((seq_nx (if_skip (way_n (by decide)))).trans ((seq_nx (if_skip (way_n (by decide)))).trans (if_skip (way_n (by decide)))))))), q.trans q3, ⟨hD.n, h3, l3, hD.c, hD.cz, hD.e, hD.ez, hD.o⟩⟩
  · obtain ⟨ys, S3, e3, q3, l3, h3⟩ := spoil_e (n := n) (xs := cols) (odd := d) (S := S2) q2.bag (by have := hD.cz; omega) (itms_clean hD.c) hi.rp.1
    exact ⟨nm, ms, ys, ends, note, _, _, _, S3, (seq_nx t0).trans ((seq_nx t1).trans ((seq_nx (if_skip (way_n (by decide)))).trans ((seq_nx (if_skip (way_n (by decide)))).trans ((seq_nx (δ1 := drS n [w0, w1, w2, w3, w4, w5] nm ms s4 ys ends note s8 (some (.int 2)) (some d) s11) (S1 := S3) ((if_t (way_n (by decide))).trans (set_ok ((call3 (var_ok (d := .loc n) rfl) (var_ok (d := .lst cols) rfl) (var_ok rfl)).trans e3)))).trans ((seq_nx (if_skip (way_n (by decide)))).trans (if_skip (way_n (by decide)))))))), q.trans q3, ⟨hD.n, hD.m, hD.mz, fun x hx => by
      rcases h3 x hx with hx | rfl
      · exact hD.c x hx
      · exact hi, by rw [l3]; exact hD.cz, hD.e, hD.ez, hD.o⟩⟩
  · obtain ⟨ys, S3, e3, q3, l3, h3⟩ := spoil_e (n := n) (xs := ends) (odd := d) (S := S2) q2.bag (by have := hD.ez; omega) (itms_clean hD.e) hi.rp.1
    exact ⟨nm, ms, cols, ys, note, _, _, _, S3, (seq_nx t0).trans ((seq_nx t1).trans ((seq_nx (if_skip (way_n (by decide)))).trans ((seq_nx (if_skip (way_n (by decide)))).trans ((seq_nx (if_skip (way_n (by decide)))).trans ((seq_nx (δ1 := drS n [w0, w1, w2, w3, w4, w5] nm ms s4 cols ys note s8 (some (.int 3)) (some d) s11) (S1 := S3) ((if_t (way_n (by decide))).trans (set_ok ((call3 (var_ok (d := .loc n) rfl) (var_ok (d := .lst ends) rfl) (var_ok rfl)).trans e3)))).trans (if_skip (way_n (by decide)))))))), q.trans q3, ⟨hD.n, hD.m, hD.mz, hD.c, hD.cz, fun x hx => by
      rcases h3 x hx with hx | rfl
      · exact hD.e x hx
      · exact hi, by rw [l3]; exact hD.ez, hD.o⟩⟩
  · obtain ⟨z, S3, e3, q3, hz⟩ := of_v (n := n) (i := 0) (xs := bad6) (S := S2) (δ := drS n [w0, w1, w2, w3, w4, w5] nm ms s4 cols ends note s8 (some (.int 4)) (some d) s11) (ma := mCall fLst (mCons (mC (.int 0)) (mCons (mC (.bl false)) (mCons (mC (.str "named")) (mCons (mCall fTup (mNil)) (mCons (mCall fLst (mCons (mC .non) (mNil))) (mCons (mC (.dic [] [])) (mNil)))))))) q2.bag (by simp [bad6]) (by simp [bad6]) rfl (by kernel_rfl)
    exact ⟨nm, ms, cols, ends, z, _, _, _, S3, (seq_nx t0).trans ((seq_nx t1).trans ((seq_nx (if_skip (way_n (by decide)))).trans ((seq_nx (if_skip (way_n (by decide)))).trans ((seq_nx (if_skip (way_n (by decide)))).trans ((seq_nx (if_skip (way_n (by decide)))).trans ((if_t (way_n (by decide))).trans (set_ok e3))))))), q.trans q3, ⟨hD.n, hD.m, hD.mz, hD.c, hD.cz, hD.e, hD.ez, bad6_memo hz⟩⟩
end
end K07

end
section
namespace K07
open PySem PySem.Spec L2 DL
/-! all that is drawn -/
theorem slice_n {m mk : ME} {δ : Sl} {S S1 S2 : Sto} {xs : List D} {k : Nat} (h : m δ S = .ok (.lst xs) S1) (hk : mk δ S1 = .ok (.int (k : Int)) S2) (hl : k ≤ xs.length) : mSlice m none (some mk) δ S = .ok (.lst (xs.take k)) S2 := by
  unfold mSlice mPart
  rw [h]
  simp only [R.bind_ok, hk]
  show R.ok (D.lst (cutD xs none (some (k : Int)))) S2 = _
  rw [cut_take xs k hl]
theorem drawn_e {n : Nat} {S : Sto} (h : Bag n S) : ∃ (nm : D) (ms cols ends : List D) (note : D) (S' : Sto), f_law_drawn [.loc n] S = .ok (.tup [nm, .lst ms, .lst cols, .lst ends, note]) S' ∧ EqL n S S' ∧ Drw nm ms cols ends note := by
  obtain ⟨ws, S1, e1, q1, l1, f1⟩ := names_e (n := n) (many := 6) (banned := []) (S := S) h (by decide) (by decide)
  obtain ⟨x0, S2, e2, q2, hx0⟩ := name1_e (n := n) (i := 0) (S := S1) (δ := [some (.loc n), none, none, none, none, none, none, none, none, none, none, none]) q1.bag rfl
  have t0 : dr0 [some (.loc n), none, none, none, none, none, none, none, none, none, none, none] S = .nx [some (.loc n), some (.lst (ws.map D.str)), some (.str x0), none, none, none, none, none, none, none, none, none] S2 := asg_ok (d := .tup [.lst (ws.map D.str), .str x0]) (S1 := S2) ((call_ok (cons_ok ((call3 (var_ok (d := .loc n) rfl) c_ok ((call_ok nil_ok).trans rfl)).trans e1) (cons_ok e2 nil_ok))).trans rfl) rfl
  have hw : ∀ x ∈ ws, isLet x := f1.l
  -- moves
  obtain ⟨k, S3, e3, q3, k3⟩ := take_v (n := n) (i := 0) (many := 7) (S := S2) (δ := [some (.loc n), some (.lst (ws.map D.str)), some (.str x0), none, none, none, none, none, none, none, none, none]) (ma := mC (.int 7)) q2.bag (by decide) (by decide) rfl c_ok
  have es3 := slice_n (m := mVar 1) (xs := ws.map D.str) (k := k) (var_ok rfl) e3 (by rw [List.length_map]; omega)
  obtain ⟨ms, S4, e4, q4, l4, h4⟩ := lc_keep (gm := gN 4) (e := mCall fTup (mCons (mVar 4) (mCons (mCall (cut 2 f_law_of []) (mCons (mVar 0) (mCons (mVar 1) (mNil)))) (mNil)))) (δ := [some (.loc n), some (.lst (ws.map D.str)), some (.str x0), none, none, none, none, none, none, none, none, none]) (Q := fun T => EqL n S3 T) (T := fun v => MvI v) (items := (ws.map D.str).take k) (fun d hd T hT => by
    obtain ⟨x, hx, rfl⟩ := List.mem_map.mp (List.mem_of_mem_take hd)
    obtain ⟨y, T2, ey, qy, hy⟩ := of_v (n := n) (i := 0) (xs := ws.map D.str) (S := T) (δ := [some (.loc n), some (.lst (ws.map D.str)), some (.str x0), none, some (.str x), none, none, none, none, none, none, none]) (ma := mVar 1) hT.bag (by rw [List.length_map]; omega) (by rw [List.length_map]; omega) rfl (var_ok rfl)
    obtain ⟨z, hz, rfl⟩ := List.mem_map.mp hy
    refine ⟨_, .tup [.str x, .str z], T2, rfl, (call_ok (cons_ok (var_ok rfl) (cons_ok ey nil_ok))).trans rfl, hT.trans qy, mv_tup (by simp) fun u hu => ?_⟩
    simp only [List.mem_cons, List.not_mem_nil, or_false] at hu
    rcases hu with rfl | rfl
    · exact Itm.let_ (hw x hx)
    · exact Itm.let_ (hw z hz)) [] S3 q3.bag.refl
  have t1 : dr1 [some (.loc n), some (.lst (ws.map D.str)), some (.str x0), none, none, none, none, none, none, none, none, none] S2 = .nx [some (.loc n), some (.lst (ws.map D.str)), some (.str x0), some (.lst ms), none, none, none, none, none, none, none, none] S4 := by
    refine set_ok ?_
    unfold mLc
    have ei : mSeqI (mSlice (mVar 1) none (some (mCall (cut 2 f_law_take []) (mCons (mVar 0) (mCons (mC (.int 7)) (mNil)))))) [some (.loc n), some (.lst (ws.map D.str)), some (.str x0), none, none, none, none, none, none, none, none, none] S2 = .ok ((ws.map D.str).take k) S3 := by
      unfold mSeqI
      rw [es3]
      rfl
    rw [ei, R.bind_ok, if_pos (by rw [List.length_take, List.length_map]; omega)]
    show (noX (lcGo (gN 4) tOk _ [some (.loc n), some (.lst (ws.map D.str)), some (.str x0), none, none, none, none, none, none, none, none, none] ((ws.map D.str).take k) [] S3)).bind finL = _
    rw [e4]
    rfl
  have lm : ms.length ≤ 6 := by rw [l4, List.length_take, List.length_map]; omega
  -- columns, ends
  obtain ⟨k5, S5, e5, q5, h5⟩ := take_v (n := n) (i := 0) (many := 5) (S := S4) (δ := [some (.loc n), some (.lst (ws.map D.str)), some (.str x0), some (.lst ms), none, none, none, none, none, none, none, none]) (ma := mC (.int 5)) q4.bag (by decide) (by decide) rfl c_ok
  obtain ⟨cs, S6, e6, q6, l6, f6⟩ := names_e (n := n) (many := k5) (banned := []) (S := S5) q5.bag (by omega) (by decide)
  obtain ⟨k7, S7, e7, q7, h7⟩ := take_v (n := n) (i := 0) (many := 7) (S := S6) (δ := [some (.loc n), some (.lst (ws.map D.str)), some (.str x0), some (.lst ms), none, none, none, none, none, none, none, none]) (ma := mC (.int 7)) q6.bag (by decide) (by decide) rfl c_ok
  have es7 := slice_n (m := mVar 1) (xs := ws.map D.str) (k := k7) (var_ok rfl) e7 (by rw [List.length_map]; omega)
  have t2 : dr2 [some (.loc n), some (.lst (ws.map D.str)), some (.str x0), some (.lst ms), none, none, none, none, none, none, none, none] S4 = .nx [some (.loc n), some (.lst (ws.map D.str)), some (.str x0), some (.lst ms), none, some (.lst (cs.map D.str)), some (.lst ((ws.map D.str).take k7)), none, none, none, none, none] S7 := par_ok (cons_ok ((call3 (var_ok (d := .loc n) rfl) e5 ((call_ok nil_ok).trans rfl)).trans e6) (cons_ok es7 nil_ok))
  -- the note
  have en : mCall fLst (mCons (mC .non) (mCons (mMkK 100 5 0 0 [.inr 0, .inr 1, .inr 2, .inr 3] [.tup [], .tup [], .bl true, .bl false] fNote___init__ mNil (mNil)) (mCons (mMkK 100 5 0 2 [.inl 0, .inr 0, .inr 1, .inl 1] [.tup [], .bl true] fNote___init__ mNil (mCons (mCall fLst (mCons (mC (.str "price")) (mNil))) (mCons (mC (.bl true)) (mNil)))) (mNil)))) [some (.loc n), some (.lst (ws.map D.str)), some (.str x0), some (.lst ms), none, some (.lst (cs.map D.str)), some (.lst ((ws.map D.str).take k7)), none, none, none, none, none] S7 = .ok (.lst [.non, note1, note2]) S7 :=
    (call_ok (cons_ok c_ok (cons_ok (note1_mk S7) (cons_ok (note2_mk S7) nil_ok)))).trans rfl
  obtain ⟨no, S8, e8, q8, h8⟩ := of_v (n := n) (i := 0) (xs := [.non, note1, note2]) (S := S7) (δ := [some (.loc n), some (.lst (ws.map D.str)), some (.str x0), some (.lst ms), none, some (.lst (cs.map D.str)), some (.lst ((ws.map D.str).take k7)), none, none, none, none, none]) q7.bag (by simp) (by simp) rfl en
  have hno : no ∈ memos := by
    simp only [List.mem_cons, List.not_mem_nil, or_false] at h8
    simp only [memos, List.mem_cons, List.not_mem_nil, or_false]
    rcases h8 with rfl | rfl | rfl <;> simp
  have hD : Drw (.str x0) ms (cs.map D.str) ((ws.map D.str).take k7) no := ⟨Itm.let_ hx0, h4, lm, fun d hd => by
    obtain ⟨x, hx, rfl⟩ := List.mem_map.mp hd
    exact Itm.let_ (f6.l x hx), by rw [List.length_map]; omega, fun d hd => by
    obtain ⟨x, hx, rfl⟩ := List.mem_map.mp (List.mem_of_mem_take hd)
    exact Itm.let_ (hw x hx), by rw [List.length_take, List.length_map]; omega, hno⟩
  obtain ⟨w0, w1, w2, w3, w4, w5, rfl⟩ : ∃ a b c d e f, ws = [a, b, c, d, e, f] := by
    match ws, l1 with
    | [a, b, c, d, e, f], _ => exact ⟨a, b, c, d, e, f, rfl⟩
  obtain ⟨k9, S9, e9, q9, h9⟩ := take_v (n := n) (i := 0) (many := 4) (S := S8) (δ := drS n [w0, w1, w2, w3, w4, w5] (.str x0) ms none (cs.map D.str) (([w0, w1, w2, w3, w4, w5].map D.str).take k7) no none none none none) (ma := mC (.int 4)) q8.bag (by decide) (by decide) rfl c_ok
  have er := range_of (n := k9) e9 (by omega)
  obtain ⟨δ', S', e10, nm', ms', cs', es', no', a, b, c, d, rfl, q10, hD'⟩ := for_keep (gm := gN 8) (b := turnB) (ds := (List.range k9).map fun (i : Nat) => D.int (i : Int)) (P := fun δ T => ∃ nm ms cols ends note a b c d, δ = drS n [w0, w1, w2, w3, w4, w5] nm ms none cols ends note a b c d ∧ EqL n S9 T ∧ Drw nm ms cols ends note) (fun x hx δ T hP => by
    obtain ⟨nm, ms, cols, ends, note, a, b, c, d, rfl, qT, hD⟩ := hP
    obtain ⟨nm', ms', cols', ends', note', b', c', d', T', e, q, hD'⟩ := turn_ok (s4 := none) (s8 := some x) (s9 := b) (s10 := c) (s11 := d) (w2 := w2) (w3 := w3) (w4 := w4) (w5 := w5) qT.bag (hw w0 (by simp)) (hw w1 (by simp)) hD
    exact ⟨_, _, T', rfl, e, nm', ms', cols', ends', note', some x, b', c', d', rfl, qT.trans q, hD'⟩) _ S9 ⟨_, _, _, _, _, _, _, _, _, rfl, q9.bag.refl, hD⟩
  have qq : EqL n S S' := q1.trans (q2.trans (q3.trans (q4.trans (q5.trans (q6.trans (q7.trans (q8.trans (q9.trans q10))))))))
  refine ⟨nm', ms', cs', es', no', S', ?_, qq, hD'⟩
  refine (mdef_ret (m := m_law_drawn) (δ0 := [some (.loc n), none, none, none, none, none, none, none, none, none, none, none]) (d := .tup [nm', .lst ms', .lst cs', .lst es', no']) (S1 := S') finD rfl ?_).trans (finD_eq qq.eq)
  rw [drawn_def]
  refine (seq_nx t0).trans ((seq_nx t1).trans ((seq_nx t2).trans ((seq_nx (set_ok e8)).trans ((seq_nx ((for_ok' er).trans e10)).trans ?_))))
  exact ret_ok ((call_ok (cons_ok (var_ok rfl) (cons_ok (var_ok rfl) (cons_ok (var_ok rfl) (cons_ok (var_ok rfl) (cons_ok (var_ok rfl) nil_ok)))))).trans rfl)
end K07

end
section
namespace K07
open PySem PySem.Spec L2 DL
/-! the law's loop -/
theorem ne_same (x : Str) (S : Sto) : fNe (.str x) (.str x) S = .ok (.bl false) S := by
  show R.ok (D.bl (!decide (x = x))) S = _
  simp
theorem repr_of {m : ME} {δ : Sl} {S S1 : Sto} {d : D} {n w : Nat} (h : m δ S = .ok d S1) (hr : Rp d n w) (hn : n ≤ 60) (hw : w ≤ 16777216) : mCall fReprR (mCons m mNil) δ S = .ok (.str (txt d)) S1 := by
  have e := res_clean S1 hr.1
  have := reprR_ok h (by rw [e]; exact hr) hn hw
  rwa [e] at this
theorem cmp_ok {m m' : ME} {δ : Sl} {S : Sto} {d : D} {n w : Nat} (h : m δ S = .ok d S) (h' : m' δ S = .ok d S) (hr : Rp d n w) (hn : n ≤ 60) (hw : w ≤ 16777216) : mTest (mBin fNe (mCall fReprR (mCons m mNil)) (mCall fReprR (mCons m' mNil))) δ S = .ok false S :=
  test_ok ((bin_ok (repr_of h hr hn hw) (repr_of h' hr hn hw)).trans (ne_same _ _))
def st0 : MS := (sSet 2 (mCall (cut 2 f_law_bag []) (mCons (mVar 0) (mCons (mVar 1) (mNil)))))
def st1 : MS := (sAsg (mCall (cut 1 f_law_drawn []) (mCons (mVar 2) (mNil))) (gT [gN 3, gN 4, gN 5, gN 6, gN 7]))
def st2 : MS := (sSet 8 (mCall fReprR (mCons (mCall fTup (mCons (mVar 3) (mCons (mVar 4) (mCons (mVar 5) (mCons (mVar 6) (mNil)))))) (mNil))))
def st3 : MS := (sSet 9 (mIf (mTest (mCall (cut 1 f_law_is_name []) (mCons (mVar 3) (mNil)))) (mC .non) (mCall fTup (mCons (mC (.str "name")) (mCons (mVar 3) (mNil))))))
def st4 : MS := (sSet 10 (mCall (cut 2 f_law_first []) (mCons (mCall fLst (mCons (mVar 9) (mCons (mCall (cut 1 f_law_due_moves []) (mCons (mVar 4) (mNil))) (mCons (mCall (cut 2 f_law_due_names []) (mCons (mVar 5) (mCons (mC (.int 3)) (mNil)))) (mNil))))) (mCons (mVar 7) (mNil)))))
def st5 : MS := (sIf (mTest (mBin fNe (mCall fReprR (mCons (mCall (cut 5 f_law_raised []) (mCons (mC (.str "change")) (mCons (mVar 3) (mCons (mVar 4) (mCons (mVar 5) (mCons (mVar 7) (mNil))))))) (mNil))) (mCall fReprR (mCons (mVar 10) (mNil))))) (sRet (mC (.bl false))) (sNx))
def st6 : MS := (sIf (mAnd (mTest (mBin fEq (mCall fLenS (mCons (mVar 4) (mNil))) (mC (.int 2)))) (mTest (mBin fNe (mCall fReprR (mCons (mCall (cut 5 f_law_raised []) (mCons (mC (.str "two")) (mCons (mVar 3) (mCons (mVar 4) (mCons (mVar 5) (mCons (mVar 7) (mNil))))))) (mNil))) (mCall fReprR (mCons (mVar 10) (mNil)))))) (sRet (mC (.bl false))) (sNx))
def st7 : MS := (sSet 10 (mCall (cut 2 f_law_first []) (mCons (mCall fLst (mCons (mVar 9) (mCons (mCall (cut 2 f_law_due_names []) (mCons (mVar 6) (mCons (mC (.int 4)) (mNil)))) (mNil)))) (mCons (mVar 7) (mNil)))))
def st8 : MS := (sIf (mTest (mBin fNe (mCall fReprR (mCons (mCall (cut 5 f_law_raised []) (mCons (mC (.str "end")) (mCons (mVar 3) (mCons (mVar 6) (mCons (mCall fLst (mNil)) (mCons (mVar 7) (mNil))))))) (mNil))) (mCall fReprR (mCons (mVar 10) (mNil))))) (sRet (mC (.bl false))) (sNx))
def st9 : MS := (sIf (mTest (mBin (fNeE true) (mVar 6) (mCall fLst (mNil)))) (sSeq (sSet 10 (mCall (cut 2 f_law_first []) (mCons (mCall fLst (mCons (mVar 9) (mCons (mCall (cut 2 f_law_due_names []) (mCons (mSlice (mVar 6) none (some (mC (.int 1)))) (mCons (mC (.int 1)) (mNil)))) (mNil)))) (mCons (mVar 7) (mNil))))) (sIf (mTest (mBin fNe (mCall fReprR (mCons (mCall (cut 5 f_law_raised []) (mCons (mC (.str "make")) (mCons (mVar 3) (mCons (mVar 6) (mCons (mCall fLst (mNil)) (mCons (mVar 7) (mNil))))))) (mNil))) (mCall fReprR (mCons (mVar 10) (mNil))))) (sRet (mC (.bl false))) (sNx))) (sNx))
def st10 : MS := (sIf (mTest (mBin fNe (mCall fReprR (mCons (mCall fTup (mCons (mVar 3) (mCons (mVar 4) (mCons (mVar 5) (mCons (mVar 6) (mNil)))))) (mNil))) (mVar 8))) (sRet (mC (.bl false))) (sNx))
def outBody : MS := sSeq st0 (sSeq st1 (sSeq st2 (sSeq st3 (sSeq st4 (sSeq st5 (sSeq st6 (sSeq st7 (sSeq st8 (sSeq st9 (st10))))))))))
def outIt : MA := mRgI (mCons (mCall fMax (mCons (mC (.int 1)) (mCons (mCall fMin (mCons (mC (.int 8)) (mCons (mCall fLenS (mCons (mVar 0) (mNil))) (mNil)))) (mNil)))) (mNil))
theorem mlaw_eq : mlaw = sSeq (sFor outIt (gN 1) outBody) (sRet (mC (.bl true))) := rfl
theorem it_ok (ns : List Int) (r : Sl) (S : Sto) : ∃ n : Nat, outIt (some (.lst (ns.map D.int)) :: r) S = .ok ((List.range n).map fun (i : Nat) => D.int (i : Int)) S := by
  obtain ⟨n, hn, hl⟩ : ∃ n : Nat, (if (if (ns.length : Int) < 8 then (ns.length : Int) else 8) > 1 then (if (ns.length : Int) < 8 then (ns.length : Int) else 8) else 1) = (n : Int) ∧ n < 1000000 := by
    by_cases h1 : (ns.length : Int) < 8
    · rw [if_pos h1]
      by_cases h2 : (ns.length : Int) > 1
      · exact ⟨ns.length, by rw [if_pos h2], by omega⟩
      · exact ⟨1, by rw [if_neg h2]; rfl, by decide⟩
    · rw [if_neg h1]
      exact ⟨8, rfl, by decide⟩
  refine ⟨n, ?_⟩
  unfold outIt
  refine range_of (S1 := S) ?_ hl
  rw [call_ok (cons_ok c_ok (cons_ok (d := .int (if (ns.length : Int) < 8 then (ns.length : Int) else 8)) (S1 := S) ?_ nil_ok))]
  · show DL.R.ok (D.int (if _ > (1 : Int) then _ else 1)) S = _
    rw [hn]
  · rw [call_ok (cons_ok c_ok (cons_ok (d := .int (ns.length : Int)) (S1 := S) ?_ nil_ok))]
    · rfl
    · rw [call_ok (cons_ok (var_ok rfl) nil_ok)]
      simp [fLenS, D.sq, D.seq]

def Shape (ns : List Int) (δ : Sl) (S : Sto) : Prop := (∃ r : Sl, r.length = 10 ∧ δ = some (.lst (ns.map D.int)) :: r) ∧ S.all O.noE = true
theorem tell_rp {o : Er} (h : ErOk o) : Rp (tellE o) 3 5000 := by
  cases o with
  | none => exact Rp.non.mono (by decide) (by decide)
  | some p =>
    obtain ⟨j, vs⟩ := p
    obtain ⟨hj, v, rfl, _, hr⟩ := h.k j vs rfl
    have key : ∀ s : Str, Rp (.str s) 2 2000 → Rp (.tup [.str s, v]) 3 5000 := fun s hs => by
      refine (Rp.tup (ds := [.str s, v]) (n := 2) (w := 2000) fun z hz => ?_).mono (by decide) (by simp)
      simp only [List.mem_cons, List.not_mem_nil, or_false] at hz
      rcases hz with rfl | rfl
      · exact hs
      · exact hr
    rcases hj with rfl | rfl | rfl | rfl | rfl <;> exact key _ ((Rp.str (by decide +kernel)).mono (Nat.zero_le _) (by decide +kernel))
theorem kept_rp {nm note : D} {ms cols ends : List D} (h : Drw nm ms cols ends note) : Rp (.tup [nm, .lst ms, .lst cols, .lst ends]) 4 60000 := by
  refine (Rp.tup (n := 3) (w := 13000) fun z hz => ?_).mono (by decide) (by simp)
  simp only [List.mem_cons, List.not_mem_nil, or_false] at hz
  rcases hz with rfl | rfl | rfl | rfl
  · exact h.n.rp.mono (by decide) (by decide)
  · exact (Rp.lst fun d hd => (h.m d hd).rp).mono (by decide) (by have := h.mz; omega)
  · exact (Rp.lst fun d hd => (h.c d hd).rp).mono (by decide) (by have := h.cz; omega)
  · exact (Rp.lst fun d hd => (h.e d hd).rp).mono (by decide) (by have := h.ez; omega)
theorem out_step (ns : List Int) (i : Nat) (S : Sto) (δ : Sl) (hδ : Shape ns δ S) : ∃ δ' S', outBody (δ.set 1 (some (.int (i : Int)))) S = .nx δ' S' ∧ Shape ns δ' S' := by
  obtain ⟨⟨r, hr, rfl⟩, hS⟩ := hδ
  match r, hr with
  | [s1, s2, s3, s4, s5, s6, s7, s8, s9, s10], _ =>
  show ∃ δ' S', outBody [some (.lst (ns.map D.int)), some (.int (i : Int)), s2, s3, s4, s5, s6, s7, s8, s9, s10] S = .nx δ' S' ∧ _
  obtain ⟨S1, e0, b0⟩ := bag_e ns i S
  have hS1 : S1.all O.noE = true := by
    obtain ⟨a0, b0', e0'⟩ := bag ns i S
    rw [e0'] at e0
    have : S1 = S ++ [.lst [.int a0, .int b0']] := by injection e0 with _ h; exact h.symm
    rw [this, List.all_append, hS]
    rfl
  generalize S.length = n at e0 b0
  refine chain (set_ok ((call2 (var_ok rfl) (var_ok rfl)).trans e0)) ?_
  obtain ⟨nm, ms, cols, ends, note, T, e1, q1, hD⟩ := drawn_e b0
  have hT := allE_eql q1 hS1
  refine chain (δ1 := [some (.lst (ns.map D.int)), some (.int (i : Int)), some (.loc n), some nm, some (.lst ms), some (.lst cols), some (.lst ends), some note, s8, s9, s10]) (S1 := T) (asg_ok ((call1 (var_ok rfl)).trans e1) rfl) ?_
  have mz := hD.mz
  have cz := hD.cz
  have ez := hD.ez
  have kr := kept_rp hD
  have v4 : ∀ (a b c : Option D), mCall fTup (mCons (mVar 3) (mCons (mVar 4) (mCons (mVar 5) (mCons (mVar 6) (mNil))))) [some (.lst (ns.map D.int)), some (.int (i : Int)), some (.loc n), some nm, some (.lst ms), some (.lst cols), some (.lst ends), some note, a, b, c] T = .ok (.tup [nm, .lst ms, .lst cols, .lst ends]) T := fun a b c => (call_ok (cons_ok (var_ok rfl) (cons_ok (var_ok rfl) (cons_ok (var_ok rfl) (cons_ok (var_ok rfl) nil_ok))))).trans rfl
  refine chain (set_ok (repr_of (v4 _ _ _) kr (by decide) (by decide))) ?_
  -- own
  have eo : mIf (mTest (mCall (cut 1 f_law_is_name []) (mCons (mVar 3) (mNil)))) (mC .non) (mCall fTup (mCons (mC (.str "name")) (mCons (mVar 3) (mNil)))) [some (.lst (ns.map D.int)), some (.int (i : Int)), some (.loc n), some nm, some (.lst ms), some (.lst cols), some (.lst ends), some note, some (.str (txt (.tup [nm, .lst ms, .lst cols, .lst ends]))), s9, s10] T = .ok (tellE (ownE nm)) T := by
    have t : mTest (mCall (cut 1 f_law_is_name []) (mCons (mVar 3) (mNil))) [some (.lst (ns.map D.int)), some (.int (i : Int)), some (.loc n), some nm, some (.lst ms), some (.lst cols), some (.lst ends), some note, some (.str (txt (.tup [nm, .lst ms, .lst cols, .lst ends]))), s9, s10] T = .ok (isName nm) T := test_ok (by rw [call1 (x := nm) (var_ok rfl), lname_eq hD.n])
    unfold ownE
    cases hb : isName nm with
    | true =>
      rw [hb] at t
      exact (mif_t t).trans c_ok
    | false =>
      rw [hb] at t
      exact (mif_f t).trans ((call_ok (cons_ok c_ok (cons_ok (var_ok rfl) nil_ok))).trans rfl)
  refine chain (set_ok eo) ?_
  obtain ⟨kept, hkept⟩ : ∃ k, k = D.str (txt (.tup [nm, .lst ms, .lst cols, .lst ends])) := ⟨_, rfl⟩
  rw [← hkept]
  -- a change
  have f1 : mCall (cut 2 f_law_first []) (mCons (mCall fLst (mCons (mVar 9) (mCons (mCall (cut 1 f_law_due_moves []) (mCons (mVar 4) (mNil))) (mCons (mCall (cut 2 f_law_due_names []) (mCons (mVar 5) (mCons (mC (.int 3)) (mNil)))) (mNil))))) (mCons (mVar 7) (mNil))) [some (.lst (ns.map D.int)), some (.int (i : Int)), some (.loc n), some nm, some (.lst ms), some (.lst cols), some (.lst ends), some note, some kept, some (tellE (ownE nm)), s10] T = .ok (tellE (chgE nm ms cols note)) T := by
    have dn : f_law_due_names [.lst cols, .int 3] T = .ok (tellE (errN 3 cols)) T := due_names_eq (mo := 3) hD.c (by omega) T
    refine (call2 (x := .lst ([ownE nm, errM ms, errN 3 cols].map tellE)) ((call_ok (cons_ok (var_ok rfl) (cons_ok ((call1 (var_ok rfl)).trans (due_moves_eq hD.m (by omega) T)) (cons_ok ((call2 (var_ok rfl) c_ok).trans dn) nil_ok)))).trans rfl) (var_ok rfl)).trans ?_
    rw [first_eq hD.o, chg_first]
  refine chain (set_ok f1) ?_
  have r1 := tell_rp (chg_erok hD.n hD.m hD.c hD.o)
  refine chain (if_pass (cmp_ok (d := tellE (chgE nm ms cols note)) ((call5 c_ok (var_ok rfl) (var_ok rfl) (var_ok rfl) (var_ok rfl)).trans (raised_change hD.n hD.m (by omega) hD.c (by omega) hD.o hT)) (var_ok rfl) r1 (by decide) (by decide))) ?_
  -- two moves
  have t2 : mAnd (mTest (mBin fEq (mCall fLenS (mCons (mVar 4) (mNil))) (mC (.int 2)))) (mTest (mBin fNe (mCall fReprR (mCons (mCall (cut 5 f_law_raised []) (mCons (mC (.str "two")) (mCons (mVar 3) (mCons (mVar 4) (mCons (mVar 5) (mCons (mVar 7) (mNil))))))) (mNil))) (mCall fReprR (mCons (mVar 10) (mNil))))) [some (.lst (ns.map D.int)), some (.int (i : Int)), some (.loc n), some nm, some (.lst ms), some (.lst cols), some (.lst ends), some note, some kept, some (tellE (ownE nm)), some (tellE (chgE nm ms cols note))] T = .ok false T := by
    have tl : mTest (mBin fEq (mCall fLenS (mCons (mVar 4) (mNil))) (mC (.int 2))) [some (.lst (ns.map D.int)), some (.int (i : Int)), some (.loc n), some nm, some (.lst ms), some (.lst cols), some (.lst ends), some note, some kept, some (tellE (ownE nm)), some (tellE (chgE nm ms cols note))] T = .ok (decide ((ms.length : Int) = 2)) T := test_ok ((bin_ok (Sq.len (L := .lst ms) (.inl rfl) (var_ok rfl)) c_ok).trans rfl)
    by_cases h2 : ms.length = 2
    · have h2' : (ms.length : Int) = 2 := by omega
      rw [decide_eq_true h2'] at tl
      obtain ⟨m0, m1, rfl⟩ : ∃ a b, ms = [a, b] := by
        match ms, h2 with
        | [a, b], _ => exact ⟨a, b, rfl⟩
      exact and_ok (a := true) (b := false) tl fun _ => cmp_ok (d := tellE (chgE nm [m0, m1] cols note)) ((call5 c_ok (var_ok rfl) (var_ok rfl) (var_ok rfl) (var_ok rfl)).trans (raised_two hD.n hD.m hD.c (by omega) hD.o hT)) (var_ok rfl) r1 (by decide) (by decide)
    · have h2' : ¬ (ms.length : Int) = 2 := by omega
      rw [decide_eq_false h2'] at tl
      exact and_f tl
  refine chain (if_pass t2) ?_
  -- an end
  have f2 : mCall (cut 2 f_law_first []) (mCons (mCall fLst (mCons (mVar 9) (mCons (mCall (cut 2 f_law_due_names []) (mCons (mVar 6) (mCons (mC (.int 4)) (mNil)))) (mNil)))) (mCons (mVar 7) (mNil))) [some (.lst (ns.map D.int)), some (.int (i : Int)), some (.loc n), some nm, some (.lst ms), some (.lst cols), some (.lst ends), some note, some kept, some (tellE (ownE nm)), some (tellE (chgE nm ms cols note))] T = .ok (tellE (endE nm ends note)) T := by
    have dn : f_law_due_names [.lst ends, .int 4] T = .ok (tellE (errN 4 ends)) T := due_names_eq (mo := 4) hD.e (by omega) T
    refine (call2 (x := .lst ([ownE nm, errN 4 ends].map tellE)) ((call_ok (cons_ok (var_ok rfl) (cons_ok ((call2 (var_ok rfl) c_ok).trans dn) nil_ok))).trans rfl) (var_ok rfl)).trans ?_
    rw [first_eq hD.o, end_first]
  refine chain (set_ok f2) ?_
  have r2 := tell_rp (end_erok hD.n hD.e hD.o)
  refine chain (if_pass (cmp_ok (d := tellE (endE nm ends note)) ((call5 c_ok (var_ok rfl) (var_ok rfl) ((call_ok nil_ok).trans rfl) (var_ok rfl)).trans (raised_end hD.n hD.e (by omega) hD.o hT)) (var_ok rfl) r2 (by decide) (by decide))) ?_
  -- a make
  have tne : mTest (mBin (fNeE true) (mVar 6) (mCall fLst (mNil))) [some (.lst (ns.map D.int)), some (.int (i : Int)), some (.loc n), some nm, some (.lst ms), some (.lst cols), some (.lst ends), some note, some kept, some (tellE (ownE nm)), some (tellE (endE nm ends note))] T = .ok (!ends.isEmpty) T := test_ok ((bin_ok (var_ok rfl) ((call_ok nil_ok).trans rfl)).trans rfl)
  have last : ∀ c : D, ∃ δ' S', st10 [some (.lst (ns.map D.int)), some (.int (i : Int)), some (.loc n), some nm, some (.lst ms), some (.lst cols), some (.lst ends), some note, some kept, some (tellE (ownE nm)), some c] T = .nx δ' S' ∧ Shape ns δ' S' := fun c => by
    refine ⟨_, T, if_pass (test_ok ((bin_ok (repr_of (v4 _ _ _) kr (by decide) (by decide)) (var_ok rfl)).trans ?_)), ⟨_, rfl, rfl⟩, hT⟩
    rw [hkept]
    exact ne_same _ _
  cases hends : ends with
  | nil =>
    rw [hends] at tne last
    exact chain (if_pass tne) (last _)
  | cons s rest =>
    rw [hends] at tne last
    have hs : Itm s := hD.e s (by rw [hends]; exact List.mem_cons_self)
    have f3 : mCall (cut 2 f_law_first []) (mCons (mCall fLst (mCons (mVar 9) (mCons (mCall (cut 2 f_law_due_names []) (mCons (mSlice (mVar 6) none (some (mC (.int 1)))) (mCons (mC (.int 1)) (mNil)))) (mNil)))) (mCons (mVar 7) (mNil))) [some (.lst (ns.map D.int)), some (.int (i : Int)), some (.loc n), some nm, some (.lst ms), some (.lst cols), some (.lst (s :: rest)), some note, some kept, some (tellE (ownE nm)), some (tellE (endE nm (s :: rest) note))] T = .ok (tellE (makE nm s note)) T := by
      have sl := slice1 (m := mVar 6) (xs := s :: rest) (δ := [some (.lst (ns.map D.int)), some (.int (i : Int)), some (.loc n), some nm, some (.lst ms), some (.lst cols), some (.lst (s :: rest)), some note, some kept, some (tellE (ownE nm)), some (tellE (endE nm (s :: rest) note))]) (S := T) (var_ok rfl)
      have dn : f_law_due_names [.lst [s], .int 1] T = .ok (tellE (errN 1 [s])) T := due_names_eq (mo := 1) (ds := [s]) (fun d hd => by cases List.mem_singleton.mp hd; exact hs) (by simp) T
      refine (call2 (x := .lst ([ownE nm, errN 1 [s]].map tellE)) ((call_ok (cons_ok (var_ok rfl) (cons_ok ((call2 sl c_ok).trans dn) nil_ok))).trans rfl) (var_ok rfl)).trans ?_
      rw [first_eq hD.o, mak_first]
    have r3 := tell_rp (mak_erok hD.n hs hD.o)
    refine chain ((if_t tne).trans ((seq_nx (set_ok f3)).trans (if_pass (cmp_ok (d := tellE (makE nm s note)) ((call5 c_ok (var_ok rfl) (var_ok rfl) ((call_ok nil_ok).trans rfl) (var_ok rfl)).trans (raised_make hD.n hs hD.o hT)) (var_ok rfl) r3 (by decide) (by decide))))) (last _)
theorem law_true (ns : List Int) : ∃ S, flaw (dScript ns) [] = .ok (.bl true) S := by
  obtain ⟨n, e0⟩ := it_ok ns (List.replicate 10 none) []
  obtain ⟨δ', S', e, _⟩ := for_keep (gm := gN 1) (b := outBody) (ds := (List.range n).map fun (i : Nat) => D.int (i : Int)) (P := fun δ S => Shape ns δ S) (fun d hd δ S hP => by
    obtain ⟨j, _, rfl⟩ := List.mem_map.mp hd
    obtain ⟨δ', S', e, h⟩ := out_step ns j S δ hP
    exact ⟨_, δ', S', rfl, e, h⟩) (some (.lst (ns.map D.int)) :: List.replicate 10 none) [] ⟨⟨_, rfl, rfl⟩, rfl⟩
  have e1 : mlaw (some (.lst (ns.map D.int)) :: List.replicate 10 none) [] = .ret (.bl true) S' := by
    rw [mlaw_eq, seq_nx ((for_ok' e0).trans e)]
    rfl
  obtain ⟨S2, e2, _⟩ := fin_clean (S := ([] : Sto)) (S1 := S') (d := .bl true) (by simp) rfl
  exact ⟨S2, (mdef_ret (m := mlaw) (ds := dScript ns) (n := 11) finD rfl e1).trans e2⟩
end K07

end
section
/-! printed by gen.py: what the head tells. -/
namespace K07
open PySem PySem.Spec PyProof.Rows L2 DL
def fileT : Str := PySem.Challenge.pw_pastnotes_k07_deeds_refused.main.file
def dI0 : He.DefD := ⟨("BadName", some "__init__"), "__init__", "BadName.__init__", defArgs (met (top 2) 0), defBody (met (top 2) 0), defScope (met (top 2) 0), [], []⟩
def dI1 : He.DefD := ⟨("BadNote", some "__init__"), "__init__", "BadNote.__init__", defArgs (met (top 3) 0), defBody (met (top 3) 0), defScope (met (top 3) 0), [], []⟩
def dI2 : He.DefD := ⟨("BadMove", some "__init__"), "__init__", "BadMove.__init__", defArgs (met (top 4) 0), defBody (met (top 4) 0), defScope (met (top 4) 0), [], []⟩
def dI3 : He.DefD := ⟨("Twice", some "__init__"), "__init__", "Twice.__init__", defArgs (met (top 5) 0), defBody (met (top 5) 0), defScope (met (top 5) 0), [], []⟩
def dI4 : He.DefD := ⟨("NoColumn", some "__init__"), "__init__", "NoColumn.__init__", defArgs (met (top 6) 0), defBody (met (top 6) 0), defScope (met (top 6) 0), [], []⟩
def dI5 : He.DefD := ⟨("NotAllowed", some "__init__"), "__init__", "NotAllowed.__init__", defArgs (met (top 7) 0), defBody (met (top 7) 0), defScope (met (top 7) 0), [], []⟩
def dI6 : He.DefD := ⟨("TooMany", some "__init__"), "__init__", "TooMany.__init__", defArgs (met (top 8) 0), defBody (met (top 8) 0), defScope (met (top 8) 0), [], []⟩
def dFis_name : He.DefD := ⟨("is_name", none), "is_name", "is_name", defArgs (top 12), defBody (top 12), defScope (top 12), [], []⟩
def dFcheck_name : He.DefD := ⟨("check_name", none), "check_name", "check_name", defArgs (top 13), defBody (top 13), defScope (top 13), [], []⟩
def dFcheck_once : He.DefD := ⟨("check_once", none), "check_once", "check_once", defArgs (top 14), defBody (top 14), defScope (top 14), [], []⟩
def dFcheck_names : He.DefD := ⟨("check_names", none), "check_names", "check_names", defArgs (top 15), defBody (top 15), defScope (top 15), [], []⟩
def dFNote___init__ : He.DefD := ⟨("Note", some "__init__"), "__init__", "Note.__init__", defArgs (met (top 18) 0), defBody (met (top 18) 0), defScope (met (top 18) 0), [], [("old", .adr (kwAt ("Note", some "__init__") "old")), ("new", .adr (kwAt ("Note", some "__init__") "new")), ("named", .bl true), ("changed", .bl false)]⟩
def dFcheck_note : He.DefD := ⟨("check_note", none), "check_note", "check_note", defArgs (top 23), defBody (top 23), defScope (top 23), [], []⟩
def dFDeed___init__ : He.DefD := ⟨("Deed", some "__init__"), "__init__", "Deed.__init__", defArgs (met (top 24) 1), defBody (met (top 24) 1), defScope (met (top 24) 1), [], []⟩
def dSMake___init__ : DefS := ⟨("Make", "__init__"), "__init__", "Make.__init__", defArgs (met (top 25) 1), defBody (met (top 25) 1), defScope (met (top 25) 1), [("note", .non)]⟩
def dSChange___init__ : DefS := ⟨("Change", "__init__"), "__init__", "Change.__init__", defArgs (met (top 26) 1), defBody (met (top 26) 1), defScope (met (top 26) 1), [("columns", .adr (kwAt ("Change", some "__init__") "columns")), ("note", .non)]⟩
def dBChange_of : He5.DefA := ⟨fun K => (cmA K (He.ga K "Change") "of"), "of", "Change.of", defArgs (met (top 26) 2), defBody (met (top 26) 2), defScope (met (top 26) 2), [], [("columns", .adr (kwAtC "Change" "of" "columns")), ("note", .non)]⟩
def dSEnd___init__ : DefS := ⟨("End", "__init__"), "__init__", "End.__init__", defArgs (met (top 27) 1), defBody (met (top 27) 1), defScope (met (top 27) 1), [("note", .non)]⟩
def dBEnd_of : He5.DefA := ⟨fun K => (cmA K (He.ga K "End") "of"), "of", "End.of", defArgs (met (top 27) 2), defBody (met (top 27) 2), defScope (met (top 27) 2), [], [("note", .non)]⟩
def dF_law_bag : He.DefD := ⟨("_law_bag", none), "_law_bag", "_law_bag", defArgs (top 29), defBody (top 29), defScope (top 29), [], []⟩
def dF_law_take : He.DefD := ⟨("_law_take", none), "_law_take", "_law_take", defArgs (top 30), defBody (top 30), defScope (top 30), [], []⟩
def dF_law_of : He.DefD := ⟨("_law_of", none), "_law_of", "_law_of", defArgs (top 31), defBody (top 31), defScope (top 31), [], []⟩
def dF_law_names : He.DefD := ⟨("_law_names", none), "_law_names", "_law_names", defArgs (top 32), defBody (top 32), defScope (top 32), [], []⟩
def dF_law_odd : He.DefD := ⟨("_law_odd", none), "_law_odd", "_law_odd", defArgs (top 33), defBody (top 33), defScope (top 33), [], []⟩
def dF_law_is_name : He.DefD := ⟨("_law_is_name", none), "_law_is_name", "_law_is_name", defArgs (top 34), defBody (top 34), defScope (top 34), [], []⟩
def dF_law_twice : He.DefD := ⟨("_law_twice", none), "_law_twice", "_law_twice", defArgs (top 35), defBody (top 35), defScope (top 35), [], []⟩
def dF_law_is_move : He.DefD := ⟨("_law_is_move", none), "_law_is_move", "_law_is_move", defArgs (top 36), defBody (top 36), defScope (top 36), [], []⟩
def dF_law_due_names : He.DefD := ⟨("_law_due_names", none), "_law_due_names", "_law_due_names", defArgs (top 37), defBody (top 37), defScope (top 37), [], []⟩
def dF_law_due_moves : He.DefD := ⟨("_law_due_moves", none), "_law_due_moves", "_law_due_moves", defArgs (top 38), defBody (top 38), defScope (top 38), [], []⟩
def dF_law_first : He.DefD := ⟨("_law_first", none), "_law_first", "_law_first", defArgs (top 39), defBody (top 39), defScope (top 39), [], []⟩
def dF_law_raised : He.DefD := ⟨("_law_raised", none), "_law_raised", "_law_raised", defArgs (top 40), defBody (top 40), defScope (top 40), [], []⟩
def dF_law_spoil : He.DefD := ⟨("_law_spoil", none), "_law_spoil", "_law_spoil", defArgs (top 41), defBody (top 41), defScope (top 41), [], []⟩
def dF_law_drawn : He.DefD := ⟨("_law_drawn", none), "_law_drawn", "_law_drawn", defArgs (top 42), defBody (top 42), defScope (top 42), [], []⟩
def dFlaw : He.DefD := ⟨("law", none), "law", "law", defArgs (top 43), defBody (top 43), defScope (top 43), [], []⟩
def fn : List He.DefD := ([dI0, dI1, dI2, dI3, dI4, dI5, dI6, dFis_name, dFcheck_name, dFcheck_once, dFcheck_names, dFNote___init__] : List He.DefD) ++ ([dFcheck_note, dFDeed___init__, dF_law_bag, dF_law_take, dF_law_of, dF_law_names, dF_law_odd, dF_law_is_name, dF_law_twice, dF_law_is_move, dF_law_due_names, dF_law_due_moves] : List He.DefD) ++ ([dF_law_first, dF_law_raised, dF_law_spoil, dF_law_drawn, dFlaw] : List He.DefD)
def fb : List He5.DefA := [dBChange_of, dBEnd_of]
def fs : List DefS := [dSMake___init__, dSChange___init__, dSEnd___init__]
def frs : List Str := (["OverflowError", "ValueError", "abs", "all", "classmethod", "enumerate", "int", "isinstance", "len", "list", "max", "min"] : List Str) ++ (["range", "repr", "sorted", "str", "super", "tuple"] : List Str)
def xfa : List He.Fa := [He.Fa.int "MOST_LETTERS" 8, He.Fa.int "MOST_MOVES" 4, He.Fa.int "MOST_COLUMNS" 3, He.Fa.int "MOST_WORDS" 4, He.Fa.str "LETTERS" "abcdefghijklmnopqrstuvwxyz", He.Fa.mkr "Note", He.Fa.mkr "Deed", He.Fa.mkr "Make", He.Fa.mkr "Change", He.Fa.mkr "End"]
def fa : List He.Fa := glos.map He.Fa.glo ++ (frs.map He.Fa.free ++ xfa)
def ex1 (K : PySem.W.Frag) (k : Nat) : Bool := errAB K (He.ga K (CN k)) && (match FL k with
  | [] => PySem.W.excIn K (He.ga K (CN k)) (bmOf (bases.getD k 9)) (nidOf (bases.getD k 9)) && PySem.W.keepIn K (.ref (He.ga K (CN k)))
  | f :: fs => errMB K (He.ga K (CN k)) (bmOf (bases.getD k 9)) (nidOf (bases.getD k 9)) (f :: fs))
def ex2 (K : PySem.W.Frag) : Bool := (List.range 7).all fun k => (List.range 7).all fun j => decide (PySem.W.kitOne K (.ref (He.ga K (CN k))) (.ref (He.ga K (CN j))) = some (k == j))
def ex3 (K : PySem.W.Frag) : Bool := (List.range 7).all fun k => (List.range 4).all fun j => decide (PySem.W.kitOne K (.ref (He.ga K (CN k))) (.type (bnOf j)) = some (bases.getD k 9 == j))
def exI (K : PySem.W.Frag) : List Bool := [insAB K (He.ga K "Note"), insAB K (He.ga K "Deed"), insAB K (He.ga K "Make"), insAB K (He.ga K "Change"), insAB K (He.ga K "End"), (FL 100).all fun f => decide (PySem.W.findIn K (.ref (He.ga K "Note")) f = some none), (FL 101).all fun f => decide (PySem.W.findIn K (.ref (He.ga K "Deed")) f = some none), (FL 102).all fun f => decide (PySem.W.findIn K (.ref (He.ga K "Make")) f = some none), (FL 103).all fun f => decide (PySem.W.findIn K (.ref (He.ga K "Change")) f = some none), (FL 104).all fun f => decide (PySem.W.findIn K (.ref (He.ga K "End")) f = some none), cmB K (He.ga K "Change") "of", cmB K (He.ga K "End") "of", basic.all fun n => decide (PySem.W.kitOne K (.type n) (.ref (He.ga K "Note")) = some false), basic.all fun n => decide (PySem.W.kitOne K (.type n) (.ref (He.ga K "Deed")) = some false), basic.all fun n => decide (PySem.W.kitOne K (.type n) (.ref (He.ga K "Make")) = some false), basic.all fun n => decide (PySem.W.kitOne K (.type n) (.ref (He.ga K "Change")) = some false), basic.all fun n => decide (PySem.W.kitOne K (.type n) (.ref (He.ga K "End")) = some false), emptB K (kwAt ("Note", some "__init__") "old" K), emptB K (kwAt ("Note", some "__init__") "new" K), emptB K (kwAt ("Change", some "__init__") "columns" K), emptB K (kwAtC "Change" "of" "columns" K), supB K (He.ga K "Make") "__init__" (He.ma K (He.ga K "Deed") "__init__"), supB K (He.ga K "Change") "__init__" (He.ma K (He.ga K "Deed") "__init__"), supB K (He.ga K "End") "__init__" (He.ma K (He.ga K "Deed") "__init__"), dSMake___init__.ok K fileT, dSChange___init__.ok K fileT, dSEnd___init__.ok K fileT]
def exX (K : PySem.W.Frag) : Bool := (List.range 7).all fun k => (List.range 7).all fun j => decide (PySem.W.exmOne K (.ref (He.ga K (CN k))) (.ref (He.ga K (CN j))) = some (k == j))
def ex (K : PySem.W.Frag) : Bool := ((exI K).all id && exX K) && (sysB K && ((List.range 7).all (ex1 K) && (ex2 K && ex3 K)))
abbrev R : PySem.W.OpenRow := PySem.W.OpenLaw.row PySem.Challenge.rw_pastnotes_k07_deeds_refused
abbrev hk : PySem.W.Hook := zHook3 8 fa fn fb fs ex
def ob (s : PySem.W.SharedT) : ((He.AlD × He.AlD) × SlD) × Bool := zObs3 8 fa fn fb fs ex (HandSHeadRun.getT s)
theorem ob_eq (s : PySem.W.SharedT) : ob s = hk.obs s.abs := zObs3_eq (HandSHeadRun.getT_eq s)
def loose : List Str := (["_wall", "BadName", "BadNote", "BadMove", "Twice", "NoColumn", "NotAllowed", "TooMany", "is_name", "check_name", "check_once", "check_names"] : List Str) ++ (["Note", "pairs_of", "check_note", "Deed", "Make", "Change", "End", "_law_bag", "_law_take", "_law_of", "_law_names", "_law_odd"] : List Str) ++ (["_law_is_name", "_law_twice", "_law_is_move", "_law_due_names", "_law_due_moves", "_law_first", "_law_raised", "_law_spoil", "_law_drawn", "LETTERS", "MOST_LETTERS", "MOST_WORDS"] : List Str) ++ (["MOST_MOVES", "MOST_COLUMNS"] : List Str)
theorem run (w : World) : HandSHeadRun.RunEq R (PySem.W.view R.prog [43]) hk ob 20000 loose w := by
  intro os
  kernel_rfl
section
variable {P : Program} {w : World} {K : PySem.W.Frag} {mg : Str → Option Value} {base h : Heap}
theorem known (X : K.In h) (G : h.Ns mainGlobals mg) (c : He.SaysD fa fn K) (cb : He5.SaysA [] fb K) (csup : fs.map (fnWS K) = fs.map DefS.val) (hP : (P.main.file : Str) = fileT ∧ (P.main.scope.names.lookup ("super" : Str)).isSome = false) (e : ex K = true) : Kn P w K mg base := by
  have gl : ∀ x, x ∈ glos → mg x = some (.ref (He.ga K x)) := fun x hx => He.glo_ok X G (c.facts (List.mem_append_left _ (List.mem_map_of_mem hx)))
  have fr : ∀ x, x ∈ frs → mg x = none := fun x hx => He.free_ok X G (c.facts (List.mem_append_right _ (List.mem_append_left _ (List.mem_map_of_mem hx))))
  have xf : ∀ f, f ∈ xfa → f.ok K = true := fun f hf => c.facts (List.mem_append_right _ (List.mem_append_right _ hf))
  obtain ⟨eI, e⟩ := band e
  obtain ⟨eI, eX⟩ := band eI
  obtain ⟨e1, e⟩ := band e
  obtain ⟨e2, e⟩ := band e
  obtain ⟨e3, e4⟩ := band e
  have exi : ∀ b, b ∈ exI K → b = true := fun b hb => by simpa using List.all_eq_true.mp eI b hb
  have ek : ∀ k, k < 7 → ex1 K k = true := fun k hk => List.all_eq_true.mp e2 k (List.mem_range.mpr hk)
  have ea : ∀ k, k < 7 → ErrA K (He.ga K (CN k)) := fun k hk => errAB_ok (band (ek k hk)).1
  have em : ∀ k, k < 7 → FL k ≠ [] → ErrK K (He.ga K (CN k)) (FL k) := fun k hk hf => by
    have z := (band (ek k hk)).2
    obtain ⟨iid, FB, SF⟩ := base_facts (bases.getD k 9)
    cases q : FL k with
    | nil => exact absurd q hf
    | cons f fs =>
      rw [q] at z
      exact errMB_ok FB SF (ea k hk) z
  have e0 : ∀ k, k < 7 → FL k = [] → (PySem.W.excIn K (He.ga K (CN k)) (bmOf (bases.getD k 9)) (nidOf (bases.getD k 9)) && PySem.W.keepIn K (.ref (He.ga K (CN k)))) = true := fun k hk hf => by
    have z := (band (ek k hk)).2
    rw [hf] at z
    exact z
  have lt : ∀ {k : Nat} {f : Str}, k < 100 → f ∈ FL k → k < 7 := fun {k f} hk hf => by
    unfold FL at hf
    split at hf
    · decide
    · decide
    · decide
    · decide
    · decide
    · decide
    · decide
    · exact absurd hk (by decide)
    · exact absurd hk (by decide)
    · exact absurd hk (by decide)
    · exact absurd hk (by decide)
    · exact absurd hk (by decide)
    · cases hf
  have nd : ∀ k, k < 7 → (FL k).Nodup := fun k hk => of_decide_eq_true (List.all_eq_true.mp (show ((List.range 7).all fun k => decide (FL k).Nodup) = true by decide +kernel) k (List.mem_range.mpr hk))
  refine {
    gl := gl
    free_OverflowError := fr "OverflowError" (by decide +kernel)
    free_ValueError := fr "ValueError" (by decide +kernel)
    free_abs := fr "abs" (by decide +kernel)
    free_all := fr "all" (by decide +kernel)
    free_classmethod := fr "classmethod" (by decide +kernel)
    free_enumerate := fr "enumerate" (by decide +kernel)
    free_int := fr "int" (by decide +kernel)
    free_isinstance := fr "isinstance" (by decide +kernel)
    free_len := fr "len" (by decide +kernel)
    free_list := fr "list" (by decide +kernel)
    free_max := fr "max" (by decide +kernel)
    free_min := fr "min" (by decide +kernel)
    free_range := fr "range" (by decide +kernel)
    free_repr := fr "repr" (by decide +kernel)
    free_sorted := fr "sorted" (by decide +kernel)
    free_str := fr "str" (by decide +kernel)
    free_super := fr "super" (by decide +kernel)
    free_tuple := fr "tuple" (by decide +kernel)
    sy := sysB_ok e1
    int_MOST_LETTERS := He.int_ok X G (xf _ (by simp [xfa]))
    int_MOST_MOVES := He.int_ok X G (xf _ (by simp [xfa]))
    int_MOST_COLUMNS := He.int_ok X G (xf _ (by simp [xfa]))
    int_MOST_WORDS := He.int_ok X G (xf _ (by simp [xfa]))
    str_LETTERS := He.str_ok X G (xf _ (by simp [xfa]))
    nd := fun k => by
      show (FL k).Nodup
      unfold FL
      split <;> decide
    xm := fun j hj k b h => by
      by_cases hk : k < 7
      · rw [xmO, if_pos hk] at h
        rw [of_decide_eq_true (List.all_eq_true.mp (List.all_eq_true.mp eX k (List.mem_range.mpr hk)) j (List.mem_range.mpr hj))]
        exact h
      · rw [xmO, if_neg hk] at h
        cases h
    ia100 := insAB_ok (exi (insAB K (He.ga K "Note")) (by simp [exI]))
    mkr100 := He.mkr_ok (xf (.mkr "Note") (by simp [xfa]))
    ia101 := insAB_ok (exi (insAB K (He.ga K "Deed")) (by simp [exI]))
    mkr101 := He.mkr_ok (xf (.mkr "Deed") (by simp [xfa]))
    ia102 := insAB_ok (exi (insAB K (He.ga K "Make")) (by simp [exI]))
    mkr102 := He.mkr_ok (xf (.mkr "Make") (by simp [xfa]))
    ia103 := insAB_ok (exi (insAB K (He.ga K "Change")) (by simp [exI]))
    mkr103 := He.mkr_ok (xf (.mkr "Change") (by simp [xfa]))
    ia104 := insAB_ok (exi (insAB K (He.ga K "End")) (by simp [exI]))
    mkr104 := He.mkr_ok (xf (.mkr "End") (by simp [xfa]))
    sn := fun j hj n hn => by
      match j, hj with
      | 0, _ => exact of_decide_eq_true (List.all_eq_true.mp (exi (basic.all fun n => decide (PySem.W.kitOne K (.type n) (.ref (He.ga K "Note")) = some false)) (by simp [exI])) n (List.contains_iff_mem.mp hn))
      | 1, _ => exact of_decide_eq_true (List.all_eq_true.mp (exi (basic.all fun n => decide (PySem.W.kitOne K (.type n) (.ref (He.ga K "Deed")) = some false)) (by simp [exI])) n (List.contains_iff_mem.mp hn))
      | 2, _ => exact of_decide_eq_true (List.all_eq_true.mp (exi (basic.all fun n => decide (PySem.W.kitOne K (.type n) (.ref (He.ga K "Make")) = some false)) (by simp [exI])) n (List.contains_iff_mem.mp hn))
      | 3, _ => exact of_decide_eq_true (List.all_eq_true.mp (exi (basic.all fun n => decide (PySem.W.kitOne K (.type n) (.ref (He.ga K "Change")) = some false)) (by simp [exI])) n (List.contains_iff_mem.mp hn))
      | 4, _ => exact of_decide_eq_true (List.all_eq_true.mp (exi (basic.all fun n => decide (PySem.W.kitOne K (.type n) (.ref (He.ga K "End")) = some false)) (by simp [exI])) n (List.contains_iff_mem.mp hn))
      | n + 5, hj => omega
    cmChange_of := exi (cmB K (He.ga K "Change") "of") (by simp [exI])
    cmEnd_of := exi (cmB K (He.ga K "End") "of") (by simp [exI])
    em_Note___init___old := exi (emptB K (kwAt ("Note", some "__init__") "old" K)) (by simp [exI])
    em_Note___init___new := exi (emptB K (kwAt ("Note", some "__init__") "new" K)) (by simp [exI])
    em_Change___init___columns := exi (emptB K (kwAt ("Change", some "__init__") "columns" K)) (by simp [exI])
    em_Change_of_columns := exi (emptB K (kwAtC "Change" "of" "columns" K)) (by simp [exI])
    su102 := supB_ok (exi (supB K (He.ga K "Make") "__init__" (He.ma K (He.ga K "Deed") "__init__")) (by simp [exI])) (fr "super" (by decide +kernel)) hP.2
    su103 := supB_ok (exi (supB K (He.ga K "Change") "__init__" (He.ma K (He.ga K "Deed") "__init__")) (by simp [exI])) (fr "super" (by decide +kernel)) hP.2
    su104 := supB_ok (exi (supB K (He.ga K "End") "__init__" (He.ma K (He.ga K "Deed") "__init__")) (by simp [exI])) (fr "super" (by decide +kernel)) hP.2
    si := fun j hj t b h => by
      cases t with
      | b n => cases h
      | c k =>
        by_cases hk : k = j + 100
        · subst hk
          rw [subI, if_pos rfl] at h
          cases h
          refine ⟨?_, ?_⟩
          · show (if j + 100 < 100 then ErrA (cc K).K ((cc K).cl (j + 100)) else InsA (cc K).K ((cc K).cl (j + 100)))
            rw [if_neg (by omega)]
            match j, hj with
            | 0, _ => exact insAB_ok (exi (insAB K (He.ga K "Note")) (by simp [exI]))
            | 1, _ => exact insAB_ok (exi (insAB K (He.ga K "Deed")) (by simp [exI]))
            | 2, _ => exact insAB_ok (exi (insAB K (He.ga K "Make")) (by simp [exI]))
            | 3, _ => exact insAB_ok (exi (insAB K (He.ga K "Change")) (by simp [exI]))
            | 4, _ => exact insAB_ok (exi (insAB K (He.ga K "End")) (by simp [exI]))
            | n + 5, hj => omega
          · show PySem.W.kitOne K (.ref (He.ga K (CN (j + 100)))) (.ref (He.ga K (CN (j + 100)))) = some true
            unfold PySem.W.kitOne
            rw [if_pos (beq_iff_eq.mpr rfl)]
        · rw [subI, if_neg hk] at h
          cases h
    ea := ea
    rc := by
      refine ⟨fun k f hk hf => ?_, fun k f hk hf => ea k (lt hk hf), fun k f hk hf => (em k (lt hk hf) (fun z => by have hf2 : f ∈ FL k := hf; rw [z] at hf2; cases hf2)).no f hf⟩
      have hf2 : f ∈ FL k := hf
      unfold FL at hf2
      split at hf2
      · exact absurd hk (by decide)
      · exact absurd hk (by decide)
      · exact absurd hk (by decide)
      · exact absurd hk (by decide)
      · exact absurd hk (by decide)
      · exact absurd hk (by decide)
      · exact absurd hk (by decide)
      · exact ⟨insAB_ok (exi (insAB K (He.ga K "Note")) (by simp [exI])), show PySem.W.findIn K (.ref (He.ga K (CN 100))) f = some none from of_decide_eq_true (List.all_eq_true.mp (exi ((FL 100).all fun f => decide (PySem.W.findIn K (.ref (He.ga K "Note")) f = some none)) (by simp [exI])) f hf2)⟩
      · exact ⟨insAB_ok (exi (insAB K (He.ga K "Deed")) (by simp [exI])), show PySem.W.findIn K (.ref (He.ga K (CN 101))) f = some none from of_decide_eq_true (List.all_eq_true.mp (exi ((FL 101).all fun f => decide (PySem.W.findIn K (.ref (He.ga K "Deed")) f = some none)) (by simp [exI])) f hf2)⟩
      · exact ⟨insAB_ok (exi (insAB K (He.ga K "Make")) (by simp [exI])), show PySem.W.findIn K (.ref (He.ga K (CN 102))) f = some none from of_decide_eq_true (List.all_eq_true.mp (exi ((FL 102).all fun f => decide (PySem.W.findIn K (.ref (He.ga K "Make")) f = some none)) (by simp [exI])) f hf2)⟩
      · exact ⟨insAB_ok (exi (insAB K (He.ga K "Change")) (by simp [exI])), show PySem.W.findIn K (.ref (He.ga K (CN 103))) f = some none from of_decide_eq_true (List.all_eq_true.mp (exi ((FL 103).all fun f => decide (PySem.W.findIn K (.ref (He.ga K "Change")) f = some none)) (by simp [exI])) f hf2)⟩
      · exact ⟨insAB_ok (exi (insAB K (He.ga K "End")) (by simp [exI])), show PySem.W.findIn K (.ref (He.ga K (CN 104))) f = some none from of_decide_eq_true (List.all_eq_true.mp (exi ((FL 104).all fun f => decide (PySem.W.findIn K (.ref (He.ga K "End")) f = some none)) (by simp [exI])) f hf2)⟩
      · cases hf2
    kc := fun k hk => by
      by_cases hf : FL k = []
      · exact (band (e0 k hk hf)).2
      · exact (em k hk hf).kC
    e0 := fun k hk hf => (band (e0 k hk hf)).1
    so := fun j hj t b ht => by
      cases t with
      | b n => cases ht
      | c k =>
        by_cases hk : k < 7
        · rw [subO, if_pos hk] at ht
          cases ht
          exact ⟨(by show (if k < 100 then ErrA (cc K).K ((cc K).cl k) else InsA (cc K).K ((cc K).cl k)); rw [if_pos (by omega)]; exact ea k hk), of_decide_eq_true (List.all_eq_true.mp (List.all_eq_true.mp e3 k (List.mem_range.mpr hk)) j (List.mem_range.mpr hj))⟩
        · rw [subO, if_neg hk] at ht
          cases ht
    sb := fun j hj t b ht => by
      cases t with
      | b n => cases ht
      | c k =>
        by_cases hk : k < 7
        · rw [subB, if_pos hk] at ht
          cases ht
          exact ⟨(by show (if k < 100 then ErrA (cc K).K ((cc K).cl k) else InsA (cc K).K ((cc K).cl k)); rw [if_pos (by omega)]; exact ea k hk), of_decide_eq_true (List.all_eq_true.mp (List.all_eq_true.mp e4 k (List.mem_range.mpr hk)) j (List.mem_range.mpr hj))⟩
        · rw [subB, if_neg hk] at ht
          cases ht
    mk0 := by
      obtain ⟨fd, F⟩ := c.defs (d := dI0) (by simp [fn])
      have T := (em 0 (by decide) (by decide)).f (c := cc K) (k := 0) (nd 0 (by decide))
      exact ⟨T, (em 0 (by decide) (by decide)).kC, _, fd, _, (em 0 (by decide) (by decide)).ini, (em 0 (by decide) (by decide)).ty, ini1 (c := cc K) (k := 0) rfl F (by decide +kernel) T rfl (by decide +kernel), F.bindsN (fun _ _ _ _ _ _ us hl => match us, hl with | [_, _], _ => rfl)⟩
    mk1 := by
      obtain ⟨fd, F⟩ := c.defs (d := dI1) (by simp [fn])
      have T := (em 1 (by decide) (by decide)).f (c := cc K) (k := 1) (nd 1 (by decide))
      exact ⟨T, (em 1 (by decide) (by decide)).kC, _, fd, _, (em 1 (by decide) (by decide)).ini, (em 1 (by decide) (by decide)).ty, ini1 (c := cc K) (k := 1) rfl F (by decide +kernel) T rfl (by decide +kernel), F.bindsN (fun _ _ _ _ _ _ us hl => match us, hl with | [_, _], _ => rfl)⟩
    mk2 := by
      obtain ⟨fd, F⟩ := c.defs (d := dI2) (by simp [fn])
      have T := (em 2 (by decide) (by decide)).f (c := cc K) (k := 2) (nd 2 (by decide))
      exact ⟨T, (em 2 (by decide) (by decide)).kC, _, fd, _, (em 2 (by decide) (by decide)).ini, (em 2 (by decide) (by decide)).ty, ini1 (c := cc K) (k := 2) rfl F (by decide +kernel) T rfl (by decide +kernel), F.bindsN (fun _ _ _ _ _ _ us hl => match us, hl with | [_, _], _ => rfl)⟩
    mk3 := by
      obtain ⟨fd, F⟩ := c.defs (d := dI3) (by simp [fn])
      have T := (em 3 (by decide) (by decide)).f (c := cc K) (k := 3) (nd 3 (by decide))
      exact ⟨T, (em 3 (by decide) (by decide)).kC, _, fd, _, (em 3 (by decide) (by decide)).ini, (em 3 (by decide) (by decide)).ty, ini1 (c := cc K) (k := 3) rfl F (by decide +kernel) T rfl (by decide +kernel), F.bindsN (fun _ _ _ _ _ _ us hl => match us, hl with | [_, _], _ => rfl)⟩
    mk4 := by
      obtain ⟨fd, F⟩ := c.defs (d := dI4) (by simp [fn])
      have T := (em 4 (by decide) (by decide)).f (c := cc K) (k := 4) (nd 4 (by decide))
      exact ⟨T, (em 4 (by decide) (by decide)).kC, _, fd, _, (em 4 (by decide) (by decide)).ini, (em 4 (by decide) (by decide)).ty, ini1 (c := cc K) (k := 4) rfl F (by decide +kernel) T rfl (by decide +kernel), F.bindsN (fun _ _ _ _ _ _ us hl => match us, hl with | [_, _], _ => rfl)⟩
    mk5 := by
      obtain ⟨fd, F⟩ := c.defs (d := dI5) (by simp [fn])
      have T := (em 5 (by decide) (by decide)).f (c := cc K) (k := 5) (nd 5 (by decide))
      exact ⟨T, (em 5 (by decide) (by decide)).kC, _, fd, _, (em 5 (by decide) (by decide)).ini, (em 5 (by decide) (by decide)).ty, ini2 (c := cc K) (k := 5) rfl F (by decide +kernel) T rfl (by decide +kernel), F.bindsN (fun _ _ _ _ _ _ us hl => match us, hl with | [_, _, _], _ => rfl)⟩
    mk6 := by
      obtain ⟨fd, F⟩ := c.defs (d := dI6) (by simp [fn])
      have T := (em 6 (by decide) (by decide)).f (c := cc K) (k := 6) (nd 6 (by decide))
      exact ⟨T, (em 6 (by decide) (by decide)).kC, _, fd, _, (em 6 (by decide) (by decide)).ini, (em 6 (by decide) (by decide)).ty, ini1 (c := cc K) (k := 6) rfl F (by decide +kernel) T rfl (by decide +kernel), F.bindsN (fun _ _ _ _ _ _ us hl => match us, hl with | [_, _], _ => rfl)⟩
    fnis_name := c.defs (d := dFis_name) (by simp [fn])
    fncheck_name := c.defs (d := dFcheck_name) (by simp [fn])
    fncheck_once := c.defs (d := dFcheck_once) (by simp [fn])
    fncheck_names := c.defs (d := dFcheck_names) (by simp [fn])
    fnNote___init__ := c.defs (d := dFNote___init__) (by simp [fn])
    fncheck_note := c.defs (d := dFcheck_note) (by simp [fn])
    fnDeed___init__ := c.defs (d := dFDeed___init__) (by simp [fn])
    fnMake___init__ := saysS_defs hP.1 csup (d := dSMake___init__) (by simp [fs]) (exi (dSMake___init__.ok K fileT) (by simp [exI]))
    fnChange___init__ := saysS_defs hP.1 csup (d := dSChange___init__) (by simp [fs]) (exi (dSChange___init__.ok K fileT) (by simp [exI]))
    fnChange_of := saysA_defs cb (d := dBChange_of) (by simp [fb])
    fnEnd___init__ := saysS_defs hP.1 csup (d := dSEnd___init__) (by simp [fs]) (exi (dSEnd___init__.ok K fileT) (by simp [exI]))
    fnEnd_of := saysA_defs cb (d := dBEnd_of) (by simp [fb])
    fn_law_bag := c.defs (d := dF_law_bag) (by simp [fn])
    fn_law_take := c.defs (d := dF_law_take) (by simp [fn])
    fn_law_of := c.defs (d := dF_law_of) (by simp [fn])
    fn_law_names := c.defs (d := dF_law_names) (by simp [fn])
    fn_law_odd := c.defs (d := dF_law_odd) (by simp [fn])
    fn_law_is_name := c.defs (d := dF_law_is_name) (by simp [fn])
    fn_law_twice := c.defs (d := dF_law_twice) (by simp [fn])
    fn_law_is_move := c.defs (d := dF_law_is_move) (by simp [fn])
    fn_law_due_names := c.defs (d := dF_law_due_names) (by simp [fn])
    fn_law_due_moves := c.defs (d := dF_law_due_moves) (by simp [fn])
    fn_law_first := c.defs (d := dF_law_first) (by simp [fn])
    fn_law_raised := c.defs (d := dF_law_raised) (by simp [fn])
    fn_law_spoil := c.defs (d := dF_law_spoil) (by simp [fn])
    fn_law_drawn := c.defs (d := dF_law_drawn) (by simp [fn])
    fnlaw := c.defs (d := dFlaw) (by simp [fn])
  }
end
end K07

end
section
open PySem PySem.W PySem.Calls PyProof.Rows
theorem PySem.Challenge.cw_pastnotes_k07_deeds_refused_holds : PySem.Challenge.rw_pastnotes_k07_deeds_refused.Holds := by
  w_on; o_law
  refine HandSHeadRun.head_any (r := OpenLaw.row PySem.Challenge.rw_pastnotes_k07_deeds_refused) (q := view (OpenLaw.row PySem.Challenge.rw_pastnotes_k07_deeds_refused).prog [43]) (H := K07.hk) (ob := K07.ob) (M := 20000) (loose := K07.loose) (d := HandSHeadRun.topDef (OpenLaw.row PySem.Challenge.rw_pastnotes_k07_deeds_refused).prog 43) (kwd := []) K07.ob_eq
    (by kernel_rfl) (fun s => by kernel_rfl) K07.run (by kernel_rfl) (by kernel_rfl) (by kernel_rfl) (by rfl) (by first | assumption | decide +kernel) (by decide +kernel) ⟨rfl, rfl, rfl, rfl, rfl, by decide +kernel⟩ ?hw ?hc
  case hw => w_witness2
  case hc =>
    refine DL.walk_G (l := PySem.Challenge.rw_pastnotes_k07_deeds_refused) (n := 63) (k := 10) (x := "_law_script") rfl (by decide) (by kernel_rfl) ⟨rfl, by decide, by decide⟩ ?F
    intro w mg fa h Y G hmg0
    obtain ⟨K, KX, ⟨⟨c, cb⟩, csup⟩, ex⟩ := Y
    have hmg : mg ("law" : PySem.Str) = some (.ref fa) := by
      have e : (HandSHeadRun.topDef (OpenLaw.row PySem.Challenge.rw_pastnotes_k07_deeds_refused).prog 43).name = ("law" : PySem.Str) := by kernel_rfl
      rw [← e]
      exact hmg0
    have kn : ∀ base : Heap, K07.Kn (PySem.Challenge.rw_pastnotes_k07_deeds_refused).prog w K mg base := fun base => K07.known KX G c cb csup ⟨by kernel_rfl, by kernel_rfl⟩ ex
    obtain ⟨fd, F⟩ := (kn h).fnlaw
    have ea : fa = He.ga K "law" := by
      have z := hmg.symm.trans ((kn h).gl "law" (by decide +kernel))
      cases z
      rfl
    subst ea
    have hb := L2.FunD.bindsA (ps := ["_law_script"]) F fun _ _ _ _ _ _ us hl => match us, hl with | [_], _ => rfl
    exact ⟨K, fd, _, KX, fun s v => hb s [v] rfl, fun H a ns _ hS => DL.script_ok (c := K07.cc K) (f := K07.flaw) rfl hS (K07.law_true ns), fun base _ _ => K07.wlaw (kn base) F⟩

end
